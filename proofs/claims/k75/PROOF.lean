import PyProof.Rows.All
import Wide.All
import OpenK.AllK
import Wide.FinOn
import HandS.ForMost
import KE.SortData
import HandS.More
import HandS.Strs
import HandS.SetFor
import HandS.Deep
import HandS.TupAny
import HandS.TupMul
import HandS.Conv
import HandS.Style
import HandS.IsInst
import HandS.CallSlots
import HandS.ExcOwn
import HandS.Flow
import HandS.Codes
import HandS.Defaults
import HandS.Head0
import HandS.Head1
import HandS.Head2
import HandS.HeadEnd
import HandS.HeadHook1
import HandS.HeadHook2
import HandS.HeadHook3
import PySem.Challenge.RW_exchangetowers_k75_claims_judged
import KE.KStateDown
import HandS.Base
import HandS.Call
import HandS.Ends
import HandS.Words
import HandS.WordsExc
import PyProof.ByEval2
section
set_option Elab.async false
set_option linter.all false
set_option maxRecDepth 100000
/-! An evaluator of our own for the subset of Python that the program and the laws use: values D, memory of the objects that change, compact trees E, S. -/
namespace Z
open PySem

/-! ### values -/
/-- tl: a list that is only read; sc: one that comes from outside; fl: a list just made (it never lies in a slot); dc: a dict that is only read; ref: an object of the memory that changes -/
inductive D where
  | non | bl (b : Bool) | int (i : Int) | str (s : Str) | tup (ds : List D) | tl (ds : List D) | sc (ds : List D) | fl (ds : List D) | dc (ks vs : List D) | st (ds : List D) | ref (n : Nat)
  deriving Inhabited, Repr

mutual
/-- no object of the memory, no list just made within -/
def D.val : D → Bool
  | .non => true
  | .bl _ => true
  | .int _ => true
  | .str _ => true
  | .tup ds => D.vals ds
  | .tl ds => D.vals ds
  | .sc ds => D.vals ds
  | .fl _ => false
  | .dc ks vs => D.vals ks && D.vals vs
  | .st _ => false
  | .ref _ => false
def D.vals : List D → Bool
  | [] => true
  | d :: ds => D.val d && D.vals ds
end
mutual
def D.beq : D → D → Bool
  | .non, .non => true
  | .bl a, .bl b => a == b
  | .int a, .int b => decide (a = b)
  | .str a, .str b => decide (a = b)
  | .tup a, .tup b => D.beqs a b
  | .tl a, .tl b => D.beqs a b
  | .sc a, .sc b => D.beqs a b
  | .fl a, .fl b => D.beqs a b
  | .dc a b, .dc c d => D.beqs a c && D.beqs b d
  | .st a, .st b => D.beqs a b
  | .ref a, .ref b => decide (a = b)
  | _, _ => false
def D.beqs : List D → List D → Bool
  | [], [] => true
  | a :: as, b :: bs => D.beq a b && D.beqs as bs
  | _, _ => false
end
mutual
/-- the library's plain data -/
def D.py : D → PyData
  | .non => .none
  | .bl b => .bool b
  | .int i => .int i
  | .str s => .str s
  | .tup ds => .tuple (D.pys ds)
  | .tl ds => .list (D.pys ds)
  | .sc _ => .none
  | .fl ds => .list (D.pys ds)
  | .dc _ _ => .none
  | .st _ => .none
  | .ref _ => .none
def D.pys : List D → List PyData
  | [] => []
  | d :: ds => D.py d :: D.pys ds
end
mutual
/-- it is such data -/
def D.plain : D → Bool
  | .non => true
  | .bl _ => true
  | .int _ => true
  | .str _ => true
  | .tup ds => D.plains ds
  | .tl ds => D.plains ds
  | .sc _ => false
  | .fl ds => D.plains ds
  | .dc _ _ => false
  | .st _ => false
  | .ref _ => false
def D.plains : List D → Bool
  | [] => true
  | d :: ds => D.plain d && D.plains ds
end

/-- an object of the memory -/
inductive MO where
  | lst (ds : List D)
  | ins (c : Str) (fs : List (Str × D))
  deriving Inhabited, Repr
abbrev Mem := List MO
abbrev Env := List (Option D)

inductive Rs (α : Type) where
  | ok (a : α) (M : Mem)
  | exc (c : Str) (p : List (Str × D)) (M : Mem)
  deriving Repr
abbrev R (α : Type) := Option (Rs α)
def R.bind {α β : Type} (x : R α) (f : α → Mem → R β) : R β := match x with
  | none => none
  | some (.exc c p M) => some (.exc c p M)
  | some (.ok a M) => f a M
def pur {α : Type} (a : α) (M : Mem) : R α := some (.ok a M)

/-! ### trees -/
inductive BOp where | add | sub | mul | mod | fdiv | pow | shl | xor deriving DecidableEq, Repr, Inhabited
inductive COp where | eq | ne | lt | le | gt | ge | mem | nmem | is_ | isn deriving DecidableEq, Repr, Inhabited
inductive Ty where | int | bool | str | tuple | list | cls (x : Str) deriving DecidableEq, Repr, Inhabited
inductive Bi where | len | all | any | sorted | sortedR | tuple | list | set | sum | min | max | int | str | range | abs deriving DecidableEq, Repr, Inhabited
inductive Mt where | append | pop | extend | insert | reverse | index | count | join | strip | split | startswith deriving DecidableEq, Repr, Inhabited

mutual
inductive E where
  | nope
  | c (d : D)
  | var (i : Nat)
  | bin (op : BOp) (a b : E)
  | neg (a : E)
  | cmp (op : COp) (a b : E)
  | chn (o1 o2 : COp) (a b c : E)
  | not (a : E) | and (a b : E) | or (a b : E)
  | ite (t a b : E)
  | tup (es : Es) | lst (es : Es)
  | idx (a i : E)
  | sli (a lo hi : E)
  | comp (g : List Nat) (it : It) (cond elt : E) (own : List Nat)
  | comp2 (g1 : List Nat) (it1 : It) (g2 : List Nat) (it2 : It) (elt : E) (own own2 : List Nat)
  | mat (a : E)
  | call (f : Str) (as : Es)
  | new (c : Str) (as : Es)
  | bi (b : Bi) (as : Es)
  | mth (m : Mt) (o : E) (as : Es)
  | own (m : Str) (o : E) (as : Es)
  | att (o : E) (f : Str)
  | isi (a : E) (ts : List Ty)
  deriving Repr
inductive Es where
  | nil | cons (e : E) (es : Es)
  deriving Repr
/-- what a loop or a comprehension walks -/
inductive It where
  | seq (e : E) | rng (a b : E) | rng3 (a b c : E) | enum (e : E) | zip (a b : E)
  deriving Repr
end
instance : Inhabited E := ⟨.nope⟩
instance : Inhabited Es := ⟨.nil⟩
instance : Inhabited It := ⟨.seq .nope⟩

inductive Tg where
  | name (i : Nat) | tup (is : List Nat) | sub (o i : E) | att (o : E) (f : Str)
  deriving Repr, Inhabited
mutual
inductive S where
  | skip
  | expr (e : E)
  | asg (t : Tg) (e : E)
  | aug (i : Nat) (op : BOp) (e : E)
  | augA (o : E) (f : Str) (op : BOp) (e : E)
  | ret (e : E)
  | ife (t : E) (a b : Ss)
  | whl (t : E) (b : Ss)
  | for_ (g : List Nat) (it : It) (b : Ss)
  | brk | cont
  | raise (c : Str) (as : Es)
  | try_ (b : Ss) (c : Str) (x : Nat) (h : Ss)
  deriving Repr
inductive Ss where
  | nil | cons (s : S) (r : Ss)
  deriving Repr
end
instance : Inhabited S := ⟨.skip⟩
instance : Inhabited Ss := ⟨.nil⟩
end Z
end
section
set_option Elab.async false
set_option linter.all false
set_option maxRecDepth 100000
/-! The evaluator. -/
namespace Z
open PySem

/-! ### what an operation gives -/
def LIM : Nat := 16777216
/-- the items of a list or a tuple -/
def seqOf (d : D) (M : Mem) : Option (List D) := match d with
  | .tup ds => some ds
  | .tl ds => some ds
  | .sc ds => some ds
  | .fl ds => some ds
  | .ref r => match M[r]? with
    | some (.lst ds) => some ds
    | _ => none
  | _ => none
def lstOf (d : D) (M : Mem) : Option (List D) := match d with
  | .tl ds => some ds
  | .fl ds => some ds
  | .ref r => match M[r]? with
    | some (.lst ds) => some ds
    | _ => none
  | _ => none
/-- plain data, a list of the memory read too -/
def view (d : D) (M : Mem) : Option PyData := match d with
  | .ref r => match M[r]? with
    | some (.lst ds) => if D.plains ds then some (.list (D.pys ds)) else none
    | _ => none
  | d => if d.plain then some d.py else none
def viewS (d : D) (M : Mem) : Option PyData := match view d M with
  | some x => if SeqAt.shaped x then some x else none
  | none => none
def truth (d : D) (M : Mem) : Option Bool := match d with
  | .non => some false
  | .bl b => some b
  | .int i => some (i != 0)
  | .str z => if z.length ≤ 16777216 then some ((z.length : Int) != 0) else none
  | .tup ds => some !ds.isEmpty
  | d => match lstOf d M with
    | some ds => some !ds.isEmpty
    | none => none
def mulOk (i j : Int) : Bool := (decide (-(2 ^ 64) < i) && decide (i < 2 ^ 64)) || (decide (-(2 ^ 64) < j) && decide (j < 2 ^ 64))
def powOk (i j : Int) : Bool := decide (0 ≤ j) && (decide (j ≤ 1000000) && decide (i.natAbs < 2 ^ 64))
def binI (op : BOp) (i j : Int) : Option Int := match op with
  | .add => some (i + j)
  | .sub => some (i - j)
  | .mul => if mulOk i j then some (i * j) else none
  | .mod => if 0 < j then some (i % j) else none
  | .fdiv => if 0 < j && decide (j < 1073741824) then some (i / j) else none
  | .pow => if powOk i j then some (i ^ j.toNat) else none
  | .shl => if powOk i j then some (i * 2 ^ j.toNat) else none
  | .xor => some (PySem.Builtin.bitXor i j)
def repL (k : Int) (ds : List D) : Option (List D) :=
  if decide (-(2 ^ 63) ≤ k) && (decide (k < 2 ^ 63) && decide (ds.length * k.toNat ≤ 16777216)) then some (List.replicate k.toNat ds).flatten else none
def binD (op : BOp) (a b : D) (M : Mem) : Option D := match op, a, b with
  | op, .int i, .int j => (binI op i j).map .int
  | .add, .str x, .str y => if x.length + y.length ≤ 16777216 then some (.str (x ++ y)) else none
  | .add, .tup xs, .tup ys => if xs.length + ys.length ≤ 16777216 then some (.tup (xs ++ ys)) else none
  | .mul, .tup xs, .int k => if !xs.isEmpty && (decide (2 ≤ k) && (decide (k ≤ 1000) && decide (xs.length ≤ 1000))) then some (.tup (List.replicate k.toNat xs).flatten) else none
  | .add, a, b => match lstOf a M, lstOf b M with
    | some xs, some ys => if xs.length + ys.length ≤ 16777216 then some (.fl (xs ++ ys)) else none
    | _, _ => none
  | .mul, a, .int k => match lstOf a M with
    | some xs => (repL k xs).map .fl
    | none => none
  | _, _, _ => none
def eqD (a b : D) (M : Mem) : Option Bool := match viewS a M, viewS b M with
  | some x, some y => some (PyData.eqv x y)
  | _, _ => none
def memD (a b : D) (M : Mem) : Option Bool := match b with
  | .str z => match a with
    | .str c => if c.length = 1 then some (decide (c.cps.toList.headD 0 ∈ z.cps.toList)) else none
    | _ => none
  | .dc ks _ => match a with
    | .str x => some (ks.any fun k => D.beq k (.str x))
    | _ => none
  | b => match seqOf b M with
    | some ds => if D.plains ds then match viewS a M with
        | some x => if SeqAt.shaped (.list (D.pys ds)) then some ((D.pys ds).any fun z => PyData.eqv z x) else none
        | none => none
      else none
    | none => none
def isNon : D → Bool
  | .non => true
  | _ => false
def isD (a b : D) : Option Bool := match b, a with
  | .non, a => some (isNon a)
  | .bl c, .bl d => some (c == d)
  | _, _ => none
def ordD (op : COp) (a b : D) : Option Bool := match a, b with
  | .int i, .int j => (match op with
    | .lt => some (decide (i < j))
    | .le => some (decide (i ≤ j))
    | .gt => some (decide (j < i))
    | .ge => some (decide (j ≤ i))
    | _ => none)
  | _, _ => none
def cmpD (op : COp) (a b : D) (M : Mem) : Option Bool := match op with
  | .eq => eqD a b M
  | .ne => (eqD a b M).map not
  | .mem => memD a b M
  | .nmem => (memD a b M).map not
  | .is_ => isD a b
  | .isn => (isD a b).map not
  | op => ordD op a b
inductive TN where | non | bool | int | str | tuple | list deriving DecidableEq
def tyOf (d : D) (M : Mem) : Option TN := match d with
  | .non => some .non
  | .bl _ => some .bool
  | .int _ => some .int
  | .str _ => some .str
  | .tup _ => some .tuple
  | .tl _ => some .list
  | .ref r => match M[r]? with
    | some (.lst _) => some .list
    | _ => none
  | _ => none
def isB : TN → Ty → Bool
  | .int, .int => true | .bool, .int => true | .bool, .bool => true | .str, .str => true | .tuple, .tuple => true | .list, .list => true
  | _, _ => false
def noCls : Ty → Bool
  | .cls _ => false
  | _ => true
def isTs (d : D) (M : Mem) (ts : List Ty) : Option Bool := match tyOf d M with
  | some n => if ts.all noCls then some (ts.any (isB n)) else none
  | none => none
def idxD (a i : D) (M : Mem) : Option D := match a, i with
  | .str z, .int i => if z.length ≤ 16777216 then
      (match seqIndex? i z.length with
        | some k => (match z.cps[k]? with
          | some c => some (.str ⟨#[c]⟩)
          | none => none)
        | none => none) else none
  | .dc ks vs, k => (match k with
    | .str x => (match ks.findIdx? fun k => D.beq k (.str x) with
      | some j => vs[j]?
      | none => none)
    | _ => none)
  | a, .int i => (match seqOf a M with
    | some ds => (match seqIndex? i ds.length with
      | some k => if decide (-(2 ^ 63) ≤ i) && decide (i < 2 ^ 63) then ds[k]? else none
      | none => none)
    | none => none)
  | _, _ => none
def cutD (ds : List D) (lo hi : Option Int) : List D := (ds.drop (HT.sIx ds.length 0 lo)).take (HT.sIx ds.length ds.length hi - HT.sIx ds.length 0 lo)
def sliD (a : D) (lo hi : Option Int) (M : Mem) : Option D := match a with
  | .str z => if z.length ≤ 16777216 then some (.str (L2.cutS z lo hi)) else none
  | .tup ds => some (.tup (cutD ds lo hi))
  | .sc ds => some (.fl (cutD ds lo hi))
  | a => match lstOf a M with
    | some ds => some (.fl (cutD ds lo hi))
    | none => none
/-- sorted(..) -/
def alikes (ds : List D) : Bool := ds.all fun a => ds.all fun b => PySem.W.alike a.py b.py
def sortable (ds : List D) : Bool := (ds.all fun d => match d with | .tup (_ :: _) => true | _ => false) || (ds.all fun d => match d with | .int _ => true | .str _ => true | .bl _ => true | .tl _ => true | _ => false)
def depths (ds : List D) : Bool := ds.all fun d => decide (d.py.depth ≤ 64)
def sortD (rev : Bool) (ds : List D) : Option (List D) :=
  if D.plains ds && (alikes ds && (sortable ds && depths ds)) then some (ds.mergeSort (PySem.W.dataLe rev D.py)) else none
def allB : List D → Option Bool
  | [] => some true
  | .bl b :: ds => match allB ds with
    | some c => some (b && c)
    | none => none
  | _ => none
def anyB : List D → Option Bool
  | [] => some false
  | .bl b :: ds => match anyB ds with
    | some c => some (b || c)
    | none => none
  | _ => none
def intL : List D → Option (List Int)
  | [] => some []
  | .int i :: ds => (intL ds).map (i :: ·)
  | _ => none
def strL : List D → Option (List Str)
  | [] => some []
  | .str i :: ds => (strL ds).map (i :: ·)
  | _ => none
def dedupI : List Int → List Int
  | [] => []
  | i :: r => i :: (dedupI r).filter (· != i)
def lenD (d : D) (M : Mem) : Option Nat := match d with
  | .str z => if z.length ≤ 16777216 then some z.length else none
  | .st ds => some ds.length
  | d => (seqOf d M).map List.length
def rangeL (lo : Int) : Nat → List D
  | 0 => []
  | n + 1 => .int lo :: rangeL (lo + 1) n
/-- those that may be called while an exception is handled -/
def biHot : Bi → Bool
  | .len => true
  | .int => true
  | .str => true
  | .tuple => true
  | .list => true
  | _ => false
def biD (b : Bi) (as : List D) (M : Mem) : Option D := match b, as with
  | .len, [d] => match lenD d M with
    | some n => some (.int (n : Int))
    | none => none
  | .all, [d] => (lstOf d M).bind fun ds => (allB ds).map .bl
  | .any, [d] => (lstOf d M).bind fun ds => (anyB ds).map .bl
  | .sorted, [d] => (seqOf d M).bind fun ds => (sortD false ds).map .fl
  | .sortedR, [d] => (lstOf d M).bind fun ds => (sortD true ds).map .fl
  | .tuple, [d] => (seqOf d M).map .tup
  | .list, [d] => (seqOf d M).map .fl
  | .set, [.tup ds] => if ds.length ≤ 4000 then (intL ds).map fun ns => .st ((dedupI ns).map .int) else none
  | .min, [.int i, .int j] => some (.int (if j < i then j else i))
  | .max, [.int i, .int j] => some (.int (if j > i then j else i))
  | .int, [.int i] => some (.int i)
  | .int, [.bl c] => some (.int (if c then 1 else 0))
  | .int, [.str z] => if z.length ≤ 640 then (PySem.intText? z).map .int else none
  | .str, [.int i] => if i.natAbs.log2 < 1920 then some (.str (toString i)) else none
  | .str, [.str z] => some (.str z)
  | .range, [.int n] => if decide (-(2 ^ 62) ≤ n) && decide (n ≤ 16777216) then some (.fl (rangeL 0 n.toNat)) else none
  | _, _ => none
/-- a built-in's method: its value, the memory behind it -/
def mthD (m : Mt) (o : D) (as : List D) (M : Mem) : Option (D × Mem) := match m, o, as with
  | .append, .ref r, [d] => (match M[r]? with
    | some (.lst ds) => if decide (ds.length < 16777216) then some (.non, M.set r (.lst (ds ++ [d]))) else none
    | _ => none)
  | .pop, .ref r, [] => (match M[r]? with
    | some (.lst ds) => (match ds[ds.length - 1]? with
      | some d => some (d, M.set r (.lst ds.dropLast))
      | none => none)
    | _ => none)
  | .pop, .ref r, [.int i] => (match M[r]? with
    | some (.lst ds) => if decide (-(2 ^ 63) ≤ i) && decide (i < 2 ^ 63) then
        (match seqIndex? i ds.length with
          | some k => (match ds[k]? with
            | some d => some (d, M.set r (.lst (ds.eraseIdx k)))
            | none => none)
          | none => none) else none
    | _ => none)
  | .reverse, .ref r, [] => (match M[r]? with
    | some (.lst ds) => some (.non, M.set r (.lst ds.reverse))
    | _ => none)
  | .join, .str z, [d] => (match seqOf d M with
    | some ds => (match strL ds with
      | some xs => if (xs.map (·.length)).sum + xs.length * z.length ≤ 16777216 then some (.str (Txt.join z xs), M) else none
      | none => none)
    | none => none)
  | _, _, _ => none

/-- the receiver is of the method's type -/
def mthOk (m : Mt) (o : D) : Bool := match m, o with
  | .append, .ref _ => true
  | .pop, .ref _ => true
  | .reverse, .ref _ => true
  | .join, .str _ => true
  | _, _ => false

/-! ### binding -/
/-- a value as it is bound: a list just made is only read from then on; a set is not bound -/
def frz : D → Option D
  | .fl ds => some (.tl ds)
  | .st _ => none
  | d => some d
def frzs : List D → Option (List D)
  | [] => some []
  | d :: ds => match frz d, frzs ds with
    | some e, some es => some (e :: es)
    | _, _ => none
def wipeE (env : Env) : List Nat → Env
  | [] => env
  | i :: is => (wipeE env is).set i none
def bindT : List Nat → List D → Env → Option Env
  | [], [], env => some env
  | i :: is, d :: ds, env => bindT is ds (env.set i (some d))
  | _, _, _ => none
/-- a target's names: one name, or several of a tuple (a list is not unpacked) -/
def bindG (g : List Nat) (d : D) (M : Mem) (env : Env) : Option Env := match g with
  | [i] => some (env.set i (some d))
  | is => match d with
    | .tup ds => bindT is ds env
    | _ => none
/-! ### calls -/
abbrev Fn := Str → List D → Mem → R D
def flat : MO → Bool
  | .lst ds => D.vals ds
  | .ins _ fs => fs.all fun p => p.2.val
def flats (os : List MO) : Bool := os.all flat
def refs1 : D → List Nat
  | .ref r => [r]
  | _ => []
def refsOf (ds : List D) : List Nat := (ds.flatMap refs1).eraseDups
def argOk : D → Bool
  | .ref _ => true
  | d => d.val
def ren (rs : List Nat) : D → D
  | .ref r => .ref (rs.idxOf r)
  | d => d
def putBack : List Nat → List MO → Mem → Mem
  | r :: rs, o :: os, M => putBack rs os (M.set r o)
  | _, _, M => M
mutual
/-- a value of a memory that ends, its own lists (behind the first m, not the one at av) as lists that are only read -/
def deep (m av : Nat) (M : Mem) : Nat → D → Option D
  | 0, _ => none
  | n + 1, d => if d.val then some d else match d with
    | .ref r => if r < m || r == av then none else (match M[r]? with
      | some (.lst ds) => (deeps m av M n ds).map .tl
      | _ => none)
    | .tup ds => (deeps m av M n ds).map .tup
    | .tl ds => (deeps m av M n ds).map .tl
    | _ => none
def deeps (m av : Nat) (M : Mem) : Nat → List D → Option (List D)
  | 0, _ => none
  | _ + 1, [] => some []
  | n + 1, d :: ds => match deep m av M n d, deeps m av M n ds with
    | some e, some es => some (e :: es)
    | _, _ => none
end
def outD (m : Nat) (M : Mem) (d : D) : Option D := match d with
  | .fl ds => if D.vals ds then some (.fl ds) else (deeps m M.length M 100000 ds).map .fl
  | .ref r => if r < m then none else (match M[r]? with
    | some (.lst ds) => if D.vals ds then some (.fl ds) else (deeps m r M 100000 ds).map .fl
    | _ => none)
  | d => deep m M.length M 100000 d
def backR (rs : List Nat) (M : Mem) (x : R D) : R D := match x with
  | none => none
  | some (.ok d M1) => if flats (M1.take rs.length) then
      (match outD rs.length M1 d with
        | some d' => some (.ok d' (putBack rs (M1.take rs.length) M))
        | none => none) else none
  | some (.exc c p M1) => if flats (M1.take rs.length) && p.all (fun q => q.2.val) then some (.exc c p (putBack rs (M1.take rs.length) M)) else none
def objs (M : Mem) : List Nat → Option (List MO)
  | [] => some []
  | r :: rs => match M[r]?, objs M rs with
    | some o, some os => some (o :: os)
    | _, _ => none
/-- a call of an own def: over the objects that are handed over, if these hold values alone; else over the whole memory -/
def inv (F : Fn) (f : Str) (ds : List D) (M : Mem) : R D :=
  if ds.all argOk then match objs M (refsOf ds) with
    | none => none
    | some os => if flats os then backR (refsOf ds) M (F f (ds.map (ren (refsOf ds))) os) else F f ds M
  else none

/-! ### expressions -/
def optI (d : D) : Option (Option Int) := match d with
  | .int i => some (some i)
  | .non => some none
  | _ => none
def lift1 (x : Option D) (M : Mem) : R D := match x with
  | some d => some (.ok d M)
  | none => none
def liftB (x : Option Bool) (M : Mem) : R D := match x with
  | some d => some (.ok (.bl d) M)
  | none => none
/-- the turns of a comprehension -/
def compL (watch : Mem → Bool) (body : D → Mem → R (Option D)) : List D → Mem → R (List D)
  | [], M => if watch M then some (.ok [] M) else none
  | x :: xs, M => if watch M then (match body x M with
    | some (.ok y M1) => (match compL watch body xs M1 with
      | some (.ok ys M2) => some (.ok (match y with
        | some y => y :: ys
        | none => ys) M2)
      | _ => none)
    | _ => none) else none
/-- the turns of the outer clause of two -/
def compF (watch : Mem → Bool) (body : D → Mem → R (List D)) : List D → Mem → R (List D)
  | [], M => if watch M then some (.ok [] M) else none
  | x :: xs, M => if watch M then (match body x M with
    | some (.ok y M1) => (match compF watch body xs M1 with
      | some (.ok ys M2) => some (.ok (y ++ ys) M2)
      | _ => none)
    | _ => none) else none
def watchOf (d : D) (ds : List D) (M : Mem) : Bool := match d with
  | .ref r => (match M[r]? with
    | some (.lst es) => D.beqs es ds
    | _ => false)
  | _ => true
/-- the turns' items, and whether they still stand -/
structure Wk where
  items : List D
  watch : Mem → Bool
def wkSeq (d : D) (M : Mem) : Option Wk := match seqOf d M with
  | some ds => some ⟨ds, watchOf d ds⟩
  | none => none
def enumL : Int → List D → List D
  | _, [] => []
  | k, d :: ds => .tup [.int k, d] :: enumL (k + 1) ds
def zipL : List D → List D → List D
  | a :: as, b :: bs => .tup [a, b] :: zipL as bs
  | _, _ => []
def rngOk (lo hi : Int) : Bool := decide (-(2 ^ 62) ≤ lo) && (decide (lo < 2 ^ 62) && (decide (-(2 ^ 62) ≤ hi) && decide (hi < 2 ^ 62)))
def still : Mem → Bool := fun _ => true
def wkRng (a b : D) : Option Wk := match a, b with
  | .int lo, .int hi => if rngOk lo hi then some ⟨rangeL lo (hi - lo).toNat, still⟩ else none
  | _, _ => none
def rangeD (lo : Int) (c : Int) : Nat → List D
  | 0 => []
  | n + 1 => .int lo :: rangeD (lo + c) c n
def wkRng3 (a b c : D) : Option Wk := match a, b, c with
  | .int lo, .int hi, .int (-1) => if rngOk lo hi then some ⟨rangeD lo (-1) (lo - hi).toNat, still⟩ else none
  | _, _, _ => none
def wkEnum (d : D) (M : Mem) : Option Wk := match seqOf d M with
  | some ds => some ⟨enumL 0 ds, watchOf d ds⟩
  | none => none
def wkZip (a b : D) (M : Mem) : Option Wk := match seqOf a M, seqOf b M with
  | some xs, some ys => some ⟨zipL xs ys, fun M => watchOf a xs M && watchOf b ys M⟩
  | _, _ => none
def liftW (x : Option Wk) (M : Mem) : R Wk := match x with
  | some w => some (.ok w M)
  | none => none
structure G where
  call : Fn
  calm : Bool
def newFn (_ : Str) : Str := "__init__"
mutual
def exE (g : G) : E → Env → Mem → R D
  | .nope, _, M => some (.ok .non M)
  | .c d, _, M => some (.ok d M)
  | .var i, env, M => match env[i]? with
    | some (some d) => some (.ok d M)
    | _ => none
  | .bin op a b, env, M => (exE g a env M).bind fun x M => (exE g b env M).bind fun y M => lift1 (binD op x y M) M
  | .neg a, env, M => (exE g a env M).bind fun x M => match x with
    | .int i => some (.ok (.int (-i)) M)
    | _ => none
  | .cmp op a b, env, M => (exE g a env M).bind fun x M => (exE g b env M).bind fun y M => liftB (cmpD op x y M) M
  | .chn o1 o2 a b c, env, M => (exE g a env M).bind fun x M => (exE g b env M).bind fun y M => match cmpD o1 x y M with
    | none => none
    | some false => some (.ok (.bl false) M)
    | some true => (exE g c env M).bind fun z M => liftB (cmpD o2 y z M) M
  | .not a, env, M => (exE g a env M).bind fun x M => (truth x M).bind fun t => some (.ok (.bl (!t)) M)
  | .and a b, env, M => (exE g a env M).bind fun x M => match x with
    | .bl true => exE g b env M
    | .bl false => some (.ok (.bl false) M)
    | _ => none
  | .or a b, env, M => (exE g a env M).bind fun x M => match x with
    | .bl true => some (.ok (.bl true) M)
    | .bl false => exE g b env M
    | _ => none
  | .ite t a b, env, M => (exT g t env M).bind fun x M => if x then exE g a env M else exE g b env M
  | .tup es, env, M => (exEs g es env M).bind fun ds M => (frzs ds).bind fun ds => if ds.length ≤ 16777216 then some (.ok (.tup ds) M) else none
  | .lst es, env, M => (exEs g es env M).bind fun ds M => (frzs ds).bind fun ds => if ds.length ≤ 16777216 then some (.ok (.fl ds) M) else none
  | .idx a i, env, M => (exE g a env M).bind fun x M => (exE g i env M).bind fun y M => lift1 (idxD x y M) M
  | .sli a lo hi, env, M => (exE g a env M).bind fun x M => (exE g lo env M).bind fun l M => (optI l).bind fun l => (exE g hi env M).bind fun h M => (optI h).bind fun h => lift1 (sliD x l h M) M
  | .comp gt it cond elt own, env, M => if g.calm then (exI g it env M).bind fun w M =>
      (compL w.watch (fun d M => match bindG gt d M (wipeE env own) with
        | some env1 => (exT g cond env1 M).bind fun t M => if t then (exE g elt env1 M).bind fun y M => (match frz y with
          | some y => some (.ok (some y) M)
          | none => none) else some (.ok none M)
        | none => none) w.items M).bind fun ds M => if ds.length ≤ 16777216 then some (.ok (.fl ds) M) else none else none
  | .comp2 gt1 it1 gt2 it2 elt own own2, env, M => if g.calm then (exI g it1 env M).bind fun w M =>
      (compF w.watch (fun d M => match bindG gt1 d M (wipeE env own) with
        | some env1 => (exI g it2 env1 M).bind fun w2 M => (compL w2.watch (fun d2 M => match bindG gt2 d2 M (wipeE env1 own2) with
          | some env2 => (exE g elt env2 M).bind fun y M => (match frz y with
            | some y => some (.ok (some y) M)
            | none => none)
          | none => none) w2.items M)
        | none => none) w.items M).bind fun ds M => if ds.length ≤ 16777216 then some (.ok (.fl ds) M) else none else none
  | .mat a, env, M => (exE g a env M).bind fun x M => match x with
    | .fl ds => some (.ok (.ref M.length) (M ++ [.lst ds]))
    | _ => none
  | .call f as, env, M => (exEs g as env M).bind fun ds M => (frzs ds).bind fun ds => inv g.call f ds M
  | .new _ _, _, _ => none
  | .bi b as, env, M => if biHot b || g.calm then (exEs g as env M).bind fun ds M => lift1 (biD b ds M) M else none
  | .mth m o as, env, M => (exE g o env M).bind fun x M => if mthOk m x then (exEs g as env M).bind fun ds M => (frzs ds).bind fun ds => (if ds.all argOk then (match mthD m x ds M with
    | some (d, M) => some (.ok d M)
    | none => none) else none) else none
  | .own _ _ _, _, _ => none
  | .att _ _, _, _ => none
  | .isi a ts, env, M => (exE g a env M).bind fun x M => liftB (isTs x M ts) M
/-- as a test -/
def exT (g : G) : E → Env → Mem → R Bool
  | .nope, _, M => some (.ok true M)
  | .not a, env, M => (exT g a env M).bind fun x M => some (.ok (!x) M)
  | .and a b, env, M => (exT g a env M).bind fun x M => if x then exT g b env M else some (.ok false M)
  | .or a b, env, M => (exT g a env M).bind fun x M => if x then some (.ok true M) else exT g b env M
  | .ite t a b, env, M => (exT g t env M).bind fun x M => if x then exT g a env M else exT g b env M
  | .c d, _, M => (truth d M).bind fun t => some (.ok t M)
  | .var i, env, M => match env[i]? with
    | some (some d) => (truth d M).bind fun t => some (.ok t M)
    | _ => none
  | .cmp op a b, env, M => (exE g a env M).bind fun x M => (exE g b env M).bind fun y M => match cmpD op x y M with
    | some t => some (.ok t M)
    | none => none
  | .chn o1 o2 a b c, env, M => (exE g a env M).bind fun x M => (exE g b env M).bind fun y M => match cmpD o1 x y M with
    | none => none
    | some false => some (.ok false M)
    | some true => (exE g c env M).bind fun z M => match cmpD o2 y z M with
      | some t => some (.ok t M)
      | none => none
  | .idx a i, env, M => (exE g a env M).bind fun x M => (exE g i env M).bind fun y M => (idxD x y M).bind fun d => (truth d M).bind fun t => some (.ok t M)
  | .call f as, env, M => (exEs g as env M).bind fun ds M => (frzs ds).bind fun ds => (inv g.call f ds M).bind fun d M => (truth d M).bind fun t => some (.ok t M)
  | .bi b as, env, M => if biHot b || g.calm then (exEs g as env M).bind fun ds M => (biD b ds M).bind fun d => (truth d M).bind fun t => some (.ok t M) else none
  | .isi a ts, env, M => (exE g a env M).bind fun x M => match isTs x M ts with
    | some t => some (.ok t M)
    | none => none
  | _, _, _ => none
def exEs (g : G) : Es → Env → Mem → R (List D)
  | .nil, _, M => some (.ok [] M)
  | .cons e es, env, M => (exE g e env M).bind fun x M => (exEs g es env M).bind fun ds M => some (.ok (x :: ds) M)
def exI (g : G) : It → Env → Mem → R Wk
  | .seq e, env, M => (exE g e env M).bind fun x M => liftW (wkSeq x M) M
  | .rng a b, env, M => (exE g a env M).bind fun x M => (exE g b env M).bind fun y M => liftW (wkRng x y) M
  | .rng3 a b c, env, M => (exE g a env M).bind fun x M => (exE g b env M).bind fun y M => (exE g c env M).bind fun z M => liftW (wkRng3 x y z) M
  | .enum e, env, M => (exE g e env M).bind fun x M => liftW (wkEnum x M) M
  | .zip a b, env, M => (exE g a env M).bind fun x M => (exE g b env M).bind fun y M => liftW (wkZip x y M) M
end

/-! ### statements -/
inductive Fl where
  | nx (env : Env) (M : Mem) | bk (env : Env) (M : Mem) | ct (env : Env) (M : Mem) | rt (d : D) (M : Mem) | ex (env : Env) (c : Str) (p : List (Str × D)) (M : Mem)
def onR {α : Type} (env : Env) (x : R α) (f : α → Mem → Option Fl) : Option Fl := match x with
  | none => none
  | some (.exc c p M) => some (.ex env c p M)
  | some (.ok a M) => f a M
def loopM {α β : Type} (step : α → Option (α ⊕ β)) (a : α) : Option β := match step a with
  | none => none
  | some (.inl a') => loopM step a'
  | some (.inr b) => some b
partial_fixpoint
def forM (watch : Mem → Bool) (body : D → Env → Mem → Option Fl) : List D → Env → Mem → Option Fl
  | [], env, M => if watch M then some (.nx env M) else none
  | x :: xs, env, M => if watch M then (match body x env M with
    | some (.nx env1 M1) => forM watch body xs env1 M1
    | some (.ct env1 M1) => forM watch body xs env1 M1
    | some (.bk env1 M1) => some (.nx env1 M1)
    | some (.rt d M1) => some (.rt d M1)
    | some (.ex env1 c p M1) => some (.ex env1 c p M1)
    | none => none) else none
def setSub (o i v : D) (M : Mem) : Option Mem := match o, i with
  | .ref r, .int i => (match M[r]? with
    | some (.lst ds) => (match seqIndex? i ds.length with
      | some k => if decide (-(2 ^ 63) ≤ i) && decide (i < 2 ^ 63) then some (M.set r (.lst (ds.set k v))) else none
      | none => none)
    | _ => none)
  | _, _ => none
def wStep (test : Env → Mem → R Bool) (body : Env → Mem → Option Fl) (p : Env × Mem) : Option ((Env × Mem) ⊕ Fl) := match test p.1 p.2 with
  | none => none
  | some (.exc c q M) => some (.inr (.ex p.1 c q M))
  | some (.ok false M) => some (.inr (.nx p.1 M))
  | some (.ok true M) => match body p.1 M with
    | none => none
    | some (.nx env M) => some (.inl (env, M))
    | some (.ct env M) => some (.inl (env, M))
    | some (.bk env M) => some (.inr (.nx env M))
    | some (.rt d M) => some (.inr (.rt d M))
    | some (.ex env c q M) => some (.inr (.ex env c q M))
/-- a turn: the target is bound, then the body -/
def forB (gt : List Nat) (b : Env → Mem → Option Fl) : D → Env → Mem → Option Fl := fun d env M => match bindG gt d M env with
  | some env1 => b env1 M
  | none => none
def tgOk (calm : Bool) : Tg → Bool
  | .tup _ => calm
  | _ => true
mutual
def exS (g : G) : S → Env → Mem → Option Fl
  | .skip, env, M => some (.nx env M)
  | .expr e, env, M => onR env (exE g e env M) fun _ M => some (.nx env M)
  | .asg t e, env, M => if tgOk g.calm t then onR env (exE g e env M) fun x M => match frz x with
    | none => none
    | some x => match t with
      | .name i => some (.nx (env.set i (some x)) M)
      | .tup is => (match bindG is x M env with
        | some env1 => some (.nx env1 M)
        | none => none)
      | .sub o i => onR env (exE g o env M) fun od M => onR env (exE g i env M) fun id M => (match setSub od id x M with
        | some M1 => some (.nx env M1)
        | none => none)
      | .att _ _ => none
    else none
  | .aug i op e, env, M => match env[i]? with
    | some (some d) => onR env (exE g e env M) fun x M => (match d, x with
      | .int a, .int b => (match binI op a b with
        | some c => some (.nx (env.set i (some (.int c))) M)
        | none => none)
      | _, _ => none)
    | _ => none
  | .augA _ _ _ _, _, _ => none
  | .ret e, env, M => onR env (exE g e env M) fun x M => some (.rt x M)
  | .ife t a b, env, M => onR env (exT g t env M) fun x M => if x then exSs g a env M else exSs g b env M
  | .whl t b, env, M => loopM (wStep (exT g t) (exSs g b)) (env, M)
  | .for_ gt it b, env, M => if g.calm then onR env (exI g it env M) fun w M => forM w.watch (forB gt (exSs g b)) w.items env M else none
  | .brk, env, M => some (.bk env M)
  | .cont, env, M => some (.ct env M)
  | .raise _ _, _, _ => none
  | .try_ _ _ _ _, _, _ => none
def exSs (g : G) : Ss → Env → Mem → Option Fl
  | .nil, env, M => some (.nx env M)
  | .cons s r, env, M => match exS g s env M with
    | some (.nx env1 M1) => exSs g r env1 M1
    | x => x
end

/-! ### defs -/
structure Df where
  ps : Nat
  n : Nat
  body : Ss
abbrev Prg := List (Str × Df)
def startE (n : Nat) (ds : List D) : Env := ds.map some ++ List.replicate (n - ds.length) none
def fin (x : Option Fl) : R D := match x with
  | some (.rt d M) => some (.ok d M)
  | some (.nx _ M) => some (.ok .non M)
  | some (.ex _ c p M) => some (.exc c p M)
  | _ => none
def callK (P : Prg) (calm : Bool) : Nat → Fn
  | 0, _, _, _ => none
  | k + 1, f, ds, M => match P.lookup f with
    | some d => if ds.length = d.ps then fin (exSs ⟨callK P calm k, calm⟩ d.body (startE d.n ds) M) else none
    | none => none
end Z
end
section
set_option Elab.async false
set_option linter.all false
set_option maxRecDepth 100000
/-! From the row's trees to ours. -/
namespace Z
open PySem

inductive GK where
  | fn | cls | con (d : D)
structure Ctx where
  N : List Str
  sc : Scope
  gl : List (Str × GK)
  mats : List (Nat × Nat × Nat)
  own : Option (List Str) := none
def idxStr (x : Str) : List Str → Option Nat
  | [] => none
  | y :: r => if x = y then some 0 else (idxStr x r).map (· + 1)
def isVis (sc : Scope) (x : Str) : Bool := match sc.names.lookup x with
  | some .local => true
  | some .cell => true
  | some .free => true
  | _ => false
def isLoc (sc : Scope) (x : Str) : Bool := match sc.names.lookup x with
  | some .local => true
  | some .cell => true
  | _ => false
def isGl (sc : Scope) (x : Str) : Bool := match sc.names.lookup x with
  | some .globalImplicit => true
  | _ => false
def glk (gl : List (Str × GK)) (x : Str) : Option GK := gl.lookup x
def notDebug (x : Str) : Bool := !(x == ("__debug__" : Str)) && !(x == ("__classdict__" : Str))
def slot (c : Ctx) (x : Str) : Option Nat := if isVis c.sc x && notDebug x then idxStr x c.N else none
/-- a name that a def stores -/
def mayStore (c : Ctx) (x : Str) : Bool := isLoc c.sc x && (notDebug x && (match c.own with
  | none => true
  | some l => l.contains x))
def slotL (c : Ctx) (x : Str) : Option Nat := if mayStore c x then idxStr x c.N else none
/-- the built-ins' names that are looked up -/
def biNames : List Str := ["len", "all", "any", "sorted", "tuple", "list", "set", "sum", "min", "max", "int", "str", "range", "enumerate", "zip", "isinstance", "bool", "reversed"]
/-- a built-in's name -/
def isBi (c : Ctx) (x : Str) : Bool := isGl c.sc x && ((c.gl.lookup x).isNone && biNames.contains x)
def cOp : Operator → Option BOp
  | .Add => some .add | .Sub => some .sub | .Mult => some .mul | .Mod => some .mod | .FloorDiv => some .fdiv | .Pow => some .pow | .LShift => some .shl | .BitXor => some .xor
  | _ => none
def cCmp : CmpOp → COp
  | .Eq => .eq | .NotEq => .ne | .Lt => .lt | .LtE => .le | .Gt => .gt | .GtE => .ge | .In => .mem | .NotIn => .nmem | .Is => .is_ | .IsNot => .isn
def cBi (x : Str) : Option Bi :=
  if x = "len" then some .len else if x = "all" then some .all else if x = "any" then some .any else if x = "sorted" then some .sorted else if x = "tuple" then some .tuple else
  if x = "list" then some .list else if x = "set" then some .set else if x = "sum" then some .sum else if x = "min" then some .min else if x = "max" then some .max else
  if x = "int" then some .int else if x = "str" then some .str else none
def cMt (x : Str) : Option Mt :=
  if x = "append" then some .append else if x = "pop" then some .pop else if x = "extend" then some .extend else if x = "insert" then some .insert else if x = "reverse" then some .reverse else
  if x = "index" then some .index else if x = "count" then some .count else if x = "join" then some .join else if x = "strip" then some .strip else if x = "split" then some .split else
  if x = "startswith" then some .startswith else none
def cTy (c : Ctx) : Expr → Option Ty
  | .Name x _ => if isBi c x then
      (if x = "int" then some .int else if x = "bool" then some .bool else if x = "str" then some .str else if x = "tuple" then some .tuple else if x = "list" then some .list else none) else none
  | _ => none
def cTys (c : Ctx) : List Expr → Option (List Ty)
  | [] => some []
  | e :: es => match cTy c e, cTys c es with
    | some t, some ts => some (t :: ts)
    | _, _ => none
def relS (scope sc : Scope) : Scope :=
  { scope with names := scope.names.map fun (n, k) => if (k == .free && sc.kind == .function && sc.names.lookup n == some .cell) then (n, .cell) else (n, k) }
def ownOf (c : Ctx) (scope : Scope) : List (Str × Nat) := scope.names.filterMap fun p => match p.2 with
  | .local => (idxStr p.1 c.N).map fun i => (p.1, i)
  | .cell => (idxStr p.1 c.N).map fun i => (p.1, i)
  | _ => none
/-- what a target's names are -/
def cNames (c : Ctx) : List Expr → Option (List Nat)
  | [] => some []
  | .Name x _ :: es => match slotL c x, cNames c es with
    | some i, some is => some (i :: is)
    | _, _ => none
  | _ => none
def cTgt (c : Ctx) : Expr → Option (List Nat)
  | .Name x _ => (slotL c x).map fun i => [i]
  | .Tuple es _ _ => if 2 ≤ es.length then cNames c es else none
  | _ => none
def matAt (c : Ctx) (p : Pos) (e : E) : E := if c.mats.contains (p.line, p.col, p.endCol) then .mat e else e
def esOf : List E → Es
  | [] => .nil
  | e :: r => .cons e (esOf r)
/-- not super() -/
def okBase : Expr → Bool
  | .Call (.Name _ _) [] [] _ => false
  | _ => true
mutual
def cE : Nat → Ctx → Expr → Option E
  | 0, _, _ => none
  | n + 1, c, e => (cE1 n c e).map (matAt c e.pos)
def cEs : Nat → Ctx → List Expr → Option Es
  | 0, _, _ => none
  | _ + 1, _, [] => some .nil
  | n + 1, c, e :: es => match cE n c e, cEs n c es with
    | some a, some b => some (.cons a b)
    | _, _ => none
def cE1 : Nat → Ctx → Expr → Option E
  | 0, _, _ => none
  | n + 1, c, e => match e with
    | .Constant .none _ _ => some (.c .non)
    | .Constant (.bool b) _ _ => some (.c (.bl b))
    | .Constant (.int i) _ _ => some (.c (.int i))
    | .Constant (.str s) _ _ => some (.c (.str s))
    | .Name x _ => match slot c x with
      | some i => some (.var i)
      | none => if isGl c.sc x && notDebug x then (match c.gl.lookup x with
        | some (.con d) => some (.c d)
        | _ => none) else none
    | .BinOp a op b _ => match cE n c a, cOp op, cE n c b with
      | some a, some op, some b => some (.bin op a b)
      | _, _, _ => none
    | .UnaryOp .USub a _ => (cE n c a).map .neg
    | .UnaryOp .Not a _ => (cE n c a).map .not
    | .BoolOp .And (a :: r) _ => match cE n c a, cAnd n c r with
      | some a, some r => some (r.elim a (.and a))
      | _, _ => none
    | .BoolOp .Or (a :: r) _ => match cE n c a, cOr n c r with
      | some a, some r => some (r.elim a (.or a))
      | _, _ => none
    | .IfExp t a b _ => match cE n c t, cE n c a, cE n c b with
      | some t, some a, some b => some (.ite t a b)
      | _, _, _ => none
    | .Compare a [op] [b] _ => match cE n c a, cE n c b with
      | some a, some b => some (.cmp (cCmp op) a b)
      | _, _ => none
    | .Compare a [o1, o2] [b, d] _ => match cE n c a, cE n c b, cE n c d with
      | some a, some b, some d => some (.chn (cCmp o1) (cCmp o2) a b d)
      | _, _, _ => none
    | .Tuple es _ _ => (cEs n c es).map .tup
    | .List es _ => (cEs n c es).map .lst
    | .Subscript a (.Slice lo hi none _) _ => match cE n c a, cOpt n c lo, cOpt n c hi with
      | some a, some lo, some hi => some (.sli a lo hi)
      | _, _, _ => none
    | .Subscript a i _ => match cE n c a, cE n c i with
      | some a, some i => some (.idx a i)
      | _, _ => none
    | .ListComp elt [⟨tg, it, ifs, 0⟩] scope _ =>
      let own := ownOf c scope
      let c2 : Ctx := { c with sc := relS scope c.sc, own := some (own.map (·.1)) }
      if L2.blkC c.N c.sc scope own then match cTgt c2 tg, cIt n c it, cIfs n c2 ifs, cE n c2 elt with
        | some g, some w, some t, some e => if g.all (fun i => (own.map (·.2)).contains i) then some (.comp g w t e (own.map (·.2))) else none
        | _, _, _, _ => none
      else none
    | .ListComp elt [⟨tg, it, [], 0⟩, ⟨tg2, it2, [], 0⟩] scope _ =>
      let own := ownOf c scope
      let c2 : Ctx := { c with sc := relS scope c.sc, own := some (own.map (·.1)) }
      if L2.blkC c.N c.sc scope own then match cTgt c2 tg, cIt n c it, cTgt c2 tg2, cIt n c2 it2, cE n c2 elt with
        | some g, some w, some g2, some w2, some e => if (g ++ g2).all (fun i => (own.map (·.2)).contains i) then some (.comp2 g w g2 w2 e (own.map (·.2)) g2) else none
        | _, _, _, _, _ => none
      else none
    | .Call (.Name f _) args [] _ =>
      if isGl c.sc f && notDebug f then match c.gl.lookup f with
        | some .fn => (cEs n c args).map (.call f)
        | some _ => none
        | none => if !biNames.contains f then none else
          match args with
          | [a, .Tuple ts _ _] => if f = "isinstance" then (match cE n c a, cTys c ts with
              | some a, some ts => if ts.length ≤ 30 then some (.isi a ts) else none
              | _, _ => none) else (match cBi f, cEs n c args with
                | some b, some as => some (.bi b as)
                | _, _ => none)
          | [a, t] => if f = "isinstance" then (match cE n c a, cTy c t with
              | some a, some t => some (.isi a [t])
              | _, _ => none) else (match cBi f, cEs n c args with
                | some b, some as => some (.bi b as)
                | _, _ => none)
          | [.Call (.Name r _) [a] [] _] => if f = "list" && (r = "range" && isBi c r) then (cE n c a).map fun a => .bi .range (.cons a .nil) else
              (match cBi f, cEs n c args with
                | some b, some as => some (.bi b as)
                | _, _ => none)
          | _ => match cBi f, cEs n c args with
            | some b, some as => some (.bi b as)
            | _, _ => none
      else none
    | .Call (.Attribute o m ap) args [] pos => if okBase o && (ap.endLine == pos.line && decide (args.length < 30)) then match cMt m, cE n c o, cEs n c args with
      | some m, some o, some as => some (.mth m o as)
      | _, _, _ => none
      else none
    | _ => none
def cOpt : Nat → Ctx → Option Expr → Option E
  | 0, _, _ => none
  | _ + 1, _, none => some .nope
  | n + 1, c, some e => cE n c e
def cAnd : Nat → Ctx → List Expr → Option (Option E)
  | 0, _, _ => none
  | _ + 1, _, [] => some none
  | n + 1, c, a :: r => match cE n c a, cAnd n c r with
    | some a, some r => some (some (r.elim a (.and a)))
    | _, _ => none
def cOr : Nat → Ctx → List Expr → Option (Option E)
  | 0, _, _ => none
  | _ + 1, _, [] => some none
  | n + 1, c, a :: r => match cE n c a, cOr n c r with
    | some a, some r => some (some (r.elim a (.or a)))
    | _, _ => none
def cIfs : Nat → Ctx → List Expr → Option E
  | 0, _, _ => none
  | _ + 1, _, [] => some .nope
  | n + 1, c, [e] => cE n c e
  | _, _, _ => none
def cIt : Nat → Ctx → Expr → Option It
  | 0, _, _ => none
  | n + 1, c, e => match e with
    | .Call (.Name f _) [a] [] _ => if f = "range" && isBi c f then (cE n c a).map fun a => .rng (.c (.int 0)) a else (cE n c e).map .seq
    | .Call (.Name f _) [a, b] [] _ => if f = "range" && isBi c f then (match cE n c a, cE n c b with
        | some a, some b => some (.rng a b)
        | _, _ => none) else (cE n c e).map .seq
    | e => (cE n c e).map .seq
end
/-! ### statements -/
/-- x, y = a, b of two local names -/
def par2 (c : Ctx) (ts vs : List Expr) : Bool := match ts, vs with
  | [.Name x px, .Name y py], [a, b] => (c.sc.names.lookup x == some .local) && ((c.sc.names.lookup y == some .local) && ((px.line == py.line) && (!(x == y) && (!([a, b].all (foldedForSure 8)) && !([a, b].all (constantsAlone 8))))))
  | _, _ => false
def isLC : Expr → Bool
  | .ListComp _ _ _ _ => true
  | _ => false
def isTup : Expr → Bool
  | .Tuple _ _ _ => true
  | _ => false
mutual
def cS : Nat → Ctx → Stmt → Option S
  | 0, _, _ => none
  | n + 1, c, s => match s with
    | .Pass _ => some .skip
    | .Break _ => some .brk
    | .Continue _ => some .cont
    | .Expr (.Constant (.str _) _ _) _ => some .skip
    | .Expr e _ => if isLC e then none else (cE n c e).map .expr
    | .Return none _ => some (.ret (.c .non))
    | .Return (some e) _ => (cE n c e).map .ret
    | .Assign [.Name x _] e _ => match slotL c x, cE n c e with
      | some i, some v => some (.asg (.name i) v)
      | _, _ => none
    | .Assign [.Tuple ts _ _] (.Tuple vs _ _) _ => if par2 c ts vs then match cNames c ts, cEs n c vs with
      | some is, some es => some (.asg (.tup is) (.tup es))
      | _, _ => none
      else none
    | .Assign [.Tuple ts _ _] e _ => if 2 ≤ ts.length && !isTup e then match cNames c ts, cE n c e with
      | some is, some v => some (.asg (.tup is) v)
      | _, _ => none
      else none
    | .Assign [.Subscript o i _] e _ => match cE n c o, cE n c i, cE n c e with
      | some o, some i, some v => some (.asg (.sub o i) v)
      | _, _, _ => none
    | .If t a b _ => match cE n c t, cSs n c a, cSs n c b with
      | some t, some a, some b => some (.ife t a b)
      | _, _, _ => none
    | .For tg it b [] _ => match cTgt c tg, cIt n c it, cSs n c b with
      | some g, some w, some b => some (.for_ g w b)
      | _, _, _ => none
    | _ => none
def cSs : Nat → Ctx → List Stmt → Option Ss
  | 0, _, _ => none
  | _ + 1, _, [] => some .nil
  | n + 1, c, s :: r => match cS n c s, cSs n c r with
    | some s, some r => some (.cons s r)
    | _, _ => none
end
/-- what is said of a def: its name, its names by slot (the parameters first), how many parameters, the lists that are made to change -/
structure Hn where
  f : Str
  N : List Str
  ps : Nat
  mats : List (Nat × Nat × Nat)
def defOf (p : Program) (f : Str) : Option (List Stmt × Scope) := p.main.body.findSome? fun s => match s with
  | .FunctionDef n _ b _ _ _ sc _ _ _ => if n = f then some (b, sc) else none
  | _ => none
def cDef (p : Program) (gl : List (Str × GK)) (h : Hn) : Option (Str × Df) := match defOf p h.f with
  | some (b, sc) => (cSs 400 { N := h.N, sc := sc, gl := gl, mats := h.mats } b).map fun s => (h.f, ⟨h.ps, h.N.length, s⟩)
  | none => none
def cAll (p : Program) (gl : List (Str × GK)) : List Hn → Option Prg
  | [] => some []
  | h :: r => match cDef p gl h, cAll p gl r with
    | some d, some ds => some (d :: ds)
    | _, _ => none
end Z
end
section
set_option Elab.async false
set_option linter.all false
set_option maxRecDepth 100000
set_option maxHeartbeats 1000000
set_option autoImplicit false
/-! How values, slots and the memory lie in the hand layer's heap. -/
namespace Z
open PySem PySem.Spec PyProof.Rows L2

/-- a dict of the text with text keys and plain values -/
structure DcOk (K : PySem.W.Frag) (w : World) (a : Addr) (ks vs : List D) : Prop where
  at_ : ∃ es n, KDict K w a es n
  no : ∀ z : Str, (ks.findIdx? fun k => D.beq k (.str z)) = none → PySem.W.nsIn K a z = some none
  yes : ∀ (z : Str) (j : Nat), (ks.findIdx? fun k => D.beq k (.str z)) = some j → ∃ (u : Value) (y : Str), PySem.W.nsIn K a z = some (some u) ∧ vs[j]? = some (.str y) ∧ RelV (.str y) u

/-- a list from outside: frozen, or an object of the module -/
def ScL (K : PySem.W.Frag) (H : Hp) (a : Addr) (vs : List V) : Prop := (∃ o : Obj, H a = some (.frz o (.lst vs))) ∨
  ∃ (o : Obj) (its : Array Value) (n : Nat), K.lookup a = some o ∧ o.cls = .type "list" ∧ o.dict = none ∧ o.data = .seq its n ∧ its.size ≤ sizeLine ∧ Vals vs its.toList
theorem ScL.sql {K : PySem.W.Frag} {H : Hp} {a : Addr} {vs : List V} (h : ScL K H a vs) : SqL K H a vs := h.imp .inr id
theorem ScL.keep {K : PySem.W.Frag} {H H' : Hp} {a : Addr} {vs : List V} (h : ScL K H a vs) (k : ∀ o, H a = some (.frz o (.lst vs)) → H' a = some (.frz o (.lst vs))) : ScL K H' a vs := h.imp (fun ⟨o, e⟩ => ⟨o, k o e⟩) id
section
variable (K : PySem.W.Frag) (w : World)
mutual
/-- as: where the memory's objects stand; F: addresses that no value names as a list that is only read -/
inductive Rep (as F : List Addr) (H : Hp) : V → D → Prop
  | non : Rep as F H .non .non
  | bl (b : Bool) : Rep as F H (.bl b) (.bl b)
  | int (i : Int) : Rep as F H (.int i) (.int i)
  | str (s : Str) : Rep as F H (.str s) (.str s)
  | tup {a : Addr} {vs : List V} {ds : List D} : SqT K H a vs → Reps as F H vs ds → Rep as F H (.ref a) (.tup ds)
  | tl {a : Addr} {vs : List V} {ds : List D} : H a = some (.lst vs) → a ∉ as → a ∉ F → Reps as F H vs ds → Rep as F H (.ref a) (.tl ds)
  | sc {a : Addr} {vs : List V} {ds : List D} : ScL K H a vs → Reps as F H vs ds → Rep as F H (.ref a) (.sc ds)
  | dc {a : Addr} {ks vs : List D} : DcOk K w a ks vs → Rep as F H (.ref a) (.dc ks vs)
  | ref {n : Nat} {a : Addr} : as[n]? = some a → Rep as F H (.ref a) (.ref n)
inductive Reps (as F : List Addr) (H : Hp) : List V → List D → Prop
  | nil : Reps as F H [] []
  | cons {v : V} {vs : List V} {d : D} {ds : List D} : Rep as F H v d → Reps as F H vs ds → Reps as F H (v :: vs) (d :: ds)
end
/-- an object of the memory -/
inductive RelM (as F : List Addr) (H : Hp) (a : Addr) : MO → Prop
  | lst {vs : List V} {ds : List D} : H a = some (.lst vs) → Reps K w as F H vs ds → RelM as F H a (.lst ds)
structure RelH (as F : List Addr) (H : Hp) (M : Mem) : Prop where
  len : as.length = M.length
  nd : as.Nodup
  fex : ∀ a ∈ F, H a ≠ none
  obj : ∀ (n : Nat) (a : Addr) (o : MO), as[n]? = some a → M[n]? = some o → RelM K w as F H a o
/-- the slots -/
structure RelE (as F : List Addr) (H : Hp) (σ : L2.St) (env : Env) : Prop where
  len : σ.length = env.length
  at_ : ∀ (i : Nat) (d : D), env[i]? = some (some d) → ∃ v, σ[i]? = some (some v) ∧ Rep K w as F H v d
/-- a value just reckoned, as it may be used behind further steps -/
inductive RepW (as F : List Addr) (H : Hp) : V → D → Prop
  | val {v : V} {d : D} : Rep K w as F H v d → RepW as F H v d
  | fl {a : Addr} {vs : List V} {ds : List D} : H a = some (.lst vs) → a ∉ as → a ∉ F → Reps K w as F H vs ds → RepW as F H (.ref a) (.fl ds)
  | st {a : Addr} {ns : List Int} : H a = some (SetO w a (fun i => decide (i ∈ ns)) ns.length) → a ∉ as → a ∉ F → ns.Nodup → RepW as F H (.ref a) (.st (ns.map .int))
/-- .. at once; H₀: the heap ahead -/
inductive RepR (as F : List Addr) (H₀ H : Hp) (M : Mem) : V → D → Prop
  | val {v : V} {d : D} : Rep K w as F H v d → RepR as F H₀ H M v d
  | fl {a : Addr} {vs : List V} {ds : List D} : H₀ a = none → H a = some (.lst vs) → a ∉ as → Reps K w as (a :: F) H vs ds → RelH K w as (a :: F) H M → RepR as F H₀ H M (.ref a) (.fl ds)
  | st {a : Addr} {ns : List Int} : H₀ a = none → H a = some (SetO w a (fun i => decide (i ∈ ns)) ns.length) → a ∉ as → ns.Nodup → RepR as F H₀ H M (.ref a) (.st (ns.map .int))
end
/-- what is kept: all that is not told -/
structure Later (as : List Addr) (H : Hp) (as' : List Addr) (H' : Hp) : Prop where
  pre : ∃ new, as' = as ++ new ∧ ∀ a ∈ new, H a = none
  keep : ∀ (a : Addr) (o : HO), H a = some o → a ∉ as → H' a = some o
  there : ∀ a ∈ as, ∃ xs, H a = some (.lst xs)

variable {K : PySem.W.Frag} {w : World} {as as' as'' F : List Addr} {H H₀ H' H'' : Hp} {M M' : Mem} {v : V} {vs : List V} {d : D} {ds : List D} {σ : L2.St} {env : Env}

theorem Later.rd (L : Later as H as' H') {a : Addr} {o : HO} (h : Rd H a o) (n : a ∉ as) : Rd H' a o := by
  rcases h with h | ⟨ob, h⟩
  · exact .inl (L.keep a o h n)
  · exact .inr ⟨ob, L.keep a _ h n⟩
theorem Later.nin (L : Later as H as' H') {a : Addr} {o : HO} (h : H a = some o) (n : a ∉ as) : a ∉ as' := by
  obtain ⟨new, e, hn⟩ := L.pre
  intro z
  rw [e] at z
  rcases List.mem_append.mp z with z | z
  · exact n z
  · rw [hn a z] at h
    cases h
theorem Later.ninR (L : Later as H as' H') {a : Addr} {o : HO} (h : Rd H a o) (n : a ∉ as) : a ∉ as' := by
  rcases h with h | ⟨ob, h⟩
  · exact L.nin h n
  · exact L.nin h n
theorem Later.tup (L : Later as H as' H') {a : Addr} {xs : List V} (h : SqT K H a xs) : SqT K H' a xs := by
  rcases h with h | h
  · refine .inl (L.rd h fun z => ?_)
    obtain ⟨ys, e⟩ := L.there a z
    rcases h with h | ⟨ob, h⟩
    · rw [e] at h
      cases h
    · rw [e] at h
      cases h
  · exact .inr h
theorem Later.at_ (L : Later as H as' H') {n : Nat} {a : Addr} (h : as[n]? = some a) : as'[n]? = some a := by
  obtain ⟨new, e, _⟩ := L.pre
  rw [e, List.getElem?_append_left (List.getElem?_eq_some_iff.mp h).1]
  exact h
mutual
theorem Rep.later (L : Later as H as' H') : ∀ {v : V} {d : D}, Rep K w as F H v d → Rep K w as' F H' v d
  | _, _, .non => .non
  | _, _, .bl b => .bl b
  | _, _, .int i => .int i
  | _, _, .str s => .str s
  | _, _, .tup h r => .tup (L.tup h) (Reps.later L r)
  | _, _, .tl h n f r => .tl (L.keep _ _ h n) (L.nin h n) f (Reps.later L r)
  | _, _, .sc h r => .sc (h.keep fun o h => L.keep _ _ h fun z => by obtain ⟨ys, e⟩ := L.there _ z; rw [e] at h; cases h) (Reps.later L r)
  | _, _, .dc h => .dc h
  | _, _, .ref h => .ref (L.at_ h)
theorem Reps.later (L : Later as H as' H') : ∀ {vs : List V} {ds : List D}, Reps K w as F H vs ds → Reps K w as' F H' vs ds
  | _, _, .nil => .nil
  | _, _, .cons h r => .cons (Rep.later L h) (Reps.later L r)
end
theorem Rd.some {a : Addr} {o : HO} (h : Rd H a o) : H a ≠ none := by
  rcases h with h | ⟨ob, h⟩
  · rw [h]
    exact fun z => nomatch z
  · rw [h]
    exact fun z => nomatch z
mutual
/-- a fresh address is named by no value -/
theorem Rep.shun {p : Addr} (hp : H p = none) : ∀ {v : V} {d : D}, Rep K w as F H v d → Rep K w as (p :: F) H v d
  | _, _, .non => .non
  | _, _, .bl b => .bl b
  | _, _, .int i => .int i
  | _, _, .str s => .str s
  | _, _, .tup h r => .tup h (Reps.shun hp r)
  | _, _, .tl h n f r => .tl h n (fun z => (List.mem_cons.mp z).elim (fun e => Rd.some (.inl h) (e ▸ hp)) f) (Reps.shun hp r)
  | _, _, .sc h r => .sc h (Reps.shun hp r)
  | _, _, .dc h => .dc h
  | _, _, .ref h => .ref h
theorem Reps.shun {p : Addr} (hp : H p = none) : ∀ {vs : List V} {ds : List D}, Reps K w as F H vs ds → Reps K w as (p :: F) H vs ds
  | _, _, .nil => .nil
  | _, _, .cons h r => .cons (Rep.shun hp h) (Reps.shun hp r)
end
mutual
theorem Rep.less {G : List Addr} (hg : ∀ a ∈ F, a ∈ G) : ∀ {v : V} {d : D}, Rep K w as G H v d → Rep K w as F H v d
  | _, _, .non => .non
  | _, _, .bl b => .bl b
  | _, _, .int i => .int i
  | _, _, .str s => .str s
  | _, _, .tup h r => .tup h (Reps.less hg r)
  | _, _, .tl h n f r => .tl h n (fun z => f (hg _ z)) (Reps.less hg r)
  | _, _, .sc h r => .sc h (Reps.less hg r)
  | _, _, .dc h => .dc h
  | _, _, .ref h => .ref h
theorem Reps.less {G : List Addr} (hg : ∀ a ∈ F, a ∈ G) : ∀ {vs : List V} {ds : List D}, Reps K w as G H vs ds → Reps K w as F H vs ds
  | _, _, .nil => .nil
  | _, _, .cons h r => .cons (Rep.less hg h) (Reps.less hg r)
end
mutual
/-- a value that names no object of the memory -/
theorem Rep.vals : ∀ {v : V} {d : D}, d.val = true → (∀ a ∈ as', a ∈ as ∨ a ∈ F) → Rep K w as F H v d → Rep K w as' F H v d
  | _, _, _, _, .non => .non
  | _, _, _, _, .bl b => .bl b
  | _, _, _, _, .int i => .int i
  | _, _, _, _, .str s => .str s
  | _, _, e, q, .tup h r => .tup h (Reps.vals e q r)
  | _, _, e, q, .tl h n f r => .tl h (fun z => (q _ z).elim n f) f (Reps.vals e q r)
  | _, _, e, q, .sc h r => .sc h (Reps.vals e q r)
  | _, _, _, _, .dc h => .dc h
  | _, _, e, _, .ref h => by cases e
theorem Reps.vals : ∀ {vs : List V} {ds : List D}, D.vals ds = true → (∀ a ∈ as', a ∈ as ∨ a ∈ F) → Reps K w as F H vs ds → Reps K w as' F H vs ds
  | _, _, _, _, .nil => .nil
  | _, _, e, q, .cons h r => by
    have e' := (Bool.and_eq_true_iff.mp (show (D.val _ && D.vals _) = true from e))
    exact .cons (Rep.vals e'.1 q h) (Reps.vals e'.2 q r)
end
theorem Later.free (L : Later as H as' H') {a : Addr} (h : H' a = none) (n : a ∉ as) : H a = none := by
  cases e : H a with
  | none => rfl
  | some o =>
    rw [L.keep a o e n] at h
    cases h
theorem Later.sub (L : Later as H as' H') : ∀ a ∈ as, a ∈ as' := fun a ha => by
  obtain ⟨new, e, _⟩ := L.pre
  rw [e]
  exact List.mem_append_left _ ha
theorem Later.trans (L : Later as H as' H') (L' : Later as' H' as'' H'') : Later as H as'' H'' := by
  obtain ⟨n1, e1, h1⟩ := L.pre
  obtain ⟨n2, e2, h2⟩ := L'.pre
  refine ⟨⟨n1 ++ n2, by rw [e2, e1, List.append_assoc], fun a ha => ?_⟩, fun a o h n => L'.keep a o (L.keep a o h n) (L.nin h n), L.there⟩
  rcases List.mem_append.mp ha with ha | ha
  · exact h1 a ha
  · refine L.free (h2 a ha) fun z => ?_
    obtain ⟨xs, e⟩ := L'.there a (by rw [e1]; exact List.mem_append_left _ z)
    rw [h2 a ha] at e
    cases e
theorem RepW.later (L : Later as H as' H') : RepW K w as F H v d → RepW K w as' F H' v d
  | .val h => .val (h.later L)
  | .fl h n f r => .fl (L.keep _ _ h n) (L.nin h n) f (r.later L)
  | .st h n f r => .st (L.keep _ _ h n) (L.nin h n) f r
theorem sub_cons {a : Addr} : ∀ b ∈ F, b ∈ a :: F := fun _ z => List.mem_cons_of_mem _ z
theorem RelH.less {G : List Addr} (hg : ∀ a ∈ F, a ∈ G) (h : RelH K w as G H M) : RelH K w as F H M := ⟨h.len, h.nd, fun a ha => h.fex a (hg a ha), fun n a o e1 e2 => by
  cases h.obj n a o e1 e2 with
  | lst h1 r => exact .lst h1 (r.less hg)⟩
theorem RepR.weak (h : RepR K w as F H₀ H M v d) (hf : ∀ a ∈ F, H₀ a ≠ none) : RepW K w as F H v d := by
  cases h with
  | val h => exact .val h
  | fl h0 h n r _ => exact .fl h n (fun z => hf _ z h0) (r.less sub_cons)
  | st h0 h n r => exact .st h n (fun z => hf _ z h0) r
/-- looked at from further ahead -/
theorem RepR.back (L : Later as H as' H') (h : RepR K w as'' F H' H'' M v d) (h' : ∀ a ∈ as', a ∈ as'') : RepR K w as'' F H H'' M v d := by
  cases h with
  | val h => exact .val h
  | fl h0 h n r m => exact .fl (L.free h0 fun z => n (h' _ (L.sub _ z))) h n r m
  | st h0 h n r => exact .st (L.free h0 fun z => n (h' _ (L.sub _ z))) h n r
theorem RelE.later (L : Later as H as' H') (h : RelE K w as F H σ env) : RelE K w as' F H' σ env := ⟨h.len, fun i d e => by
  obtain ⟨v, e1, r⟩ := h.at_ i d e
  exact ⟨v, e1, r.later L⟩⟩
theorem RelH.there (h : RelH K w as F H M) : ∀ a ∈ as, ∃ xs, H a = some (.lst xs) := fun a ha => by
  obtain ⟨n, hn, e⟩ := List.getElem_of_mem ha
  have hl := h.len
  have e1 : as[n]? = some a := by rw [List.getElem?_eq_getElem hn, e]
  have hm : n < M.length := by omega
  have q := h.obj n a M[n] e1 (List.getElem?_eq_getElem hm)
  generalize M[n] = o at q
  cases q with
  | lst h1 _ => exact ⟨_, h1⟩
theorem Later.refl (h : RelH K w as F H M) : Later as H as H := ⟨⟨[], by simp, fun a ha => by cases ha⟩, fun a o e _ => e, h.there⟩
theorem nin_new (h : RelH K w as F H M) {p : Addr} (hp : H p = none) : p ∉ as := fun z => by
  obtain ⟨xs, e⟩ := h.there p z
  rw [hp] at e
  cases e
/-- a new thing is laid -/
theorem Later.upd (h : RelH K w as F H M) {p : Addr} {o : HO} (hp : H p = none) : Later as H as (L2.upd H p o) := ⟨⟨[], by simp, fun a ha => by cases ha⟩, fun a o e _ => by rw [upd_ne (ne_of_none e hp)]; exact e, h.there⟩
theorem RelM.later (L : Later as H as' H') {a : Addr} {o : MO} (h : RelM K w as F H a o) (e : ∀ xs, H a = some (.lst xs) → H' a = some (.lst xs)) : RelM K w as' F H' a o := by
  cases h with
  | lst h1 r => exact .lst (e _ h1) (r.later L)
theorem RelM.shun {p : Addr} (hp : H p = none) {a : Addr} {o : MO} (h : RelM K w as F H a o) : RelM K w as (p :: F) H a o := by
  cases h with
  | lst h1 r => exact .lst h1 (r.shun hp)
theorem fex_laid (h : RelH K w as F H M) {p : Addr} {o : HO} (hp : H p = none) : ∀ a ∈ p :: F, L2.upd H p o a ≠ none := fun a ha => by
    rcases List.mem_cons.mp ha with e | ha
    · rw [e, upd_same]
      exact (fun z => nomatch z)
    · cases q : H a with
      | none => exact absurd q (h.fex a ha)
      | some u =>
        rw [upd_ne (ne_of_none q hp), q]
        exact (fun z => nomatch z)
theorem RelH.laid (h : RelH K w as F H M) {p : Addr} {o : HO} (hp : H p = none) : RelH K w as (p :: F) (L2.upd H p o) M := ⟨h.len, h.nd, fex_laid h hp, fun n a o' e1 e2 => ((h.obj n a o' e1 e2).shun hp).later (Later.upd h hp) fun xs e => by rw [upd_ne (ne_of_none e hp)]; exact e⟩
theorem RelH.laid0 (h : RelH K w as F H M) {p : Addr} {o : HO} (hp : H p = none) : RelH K w as F (L2.upd H p o) M := (h.laid hp).less sub_cons
theorem Reps.length : ∀ {vs : List V} {ds : List D}, Reps K w as F H vs ds → vs.length = ds.length
  | _, _, .nil => rfl
  | _, _, .cons _ r => by rw [List.length_cons, List.length_cons, Reps.length r]
theorem Reps.get : ∀ {vs : List V} {ds : List D} {i : Nat} {d : D}, Reps K w as F H vs ds → ds[i]? = some d → ∃ v, vs[i]? = some v ∧ Rep K w as F H v d
  | _, _, _, _, .nil, e => by simp at e
  | _, _, 0, _, .cons h _, e => by
    simp at e
    subst e
    exact ⟨_, rfl, h⟩
  | _, _, i + 1, d, .cons _ r, e => by
    obtain ⟨v, e1, h⟩ := Reps.get (i := i) (d := d) r (by simpa using e)
    exact ⟨v, by simpa using e1, h⟩
theorem Reps.get' : ∀ {vs : List V} {ds : List D} {i : Nat} {v : V}, Reps K w as F H vs ds → vs[i]? = some v → ∃ d, ds[i]? = some d ∧ Rep K w as F H v d
  | _, _, _, _, .nil, e => by simp at e
  | _, _, 0, _, .cons h _, e => by
    simp at e
    subst e
    exact ⟨_, rfl, h⟩
  | _, _, i + 1, v, .cons _ r, e => by
    obtain ⟨d, e1, h⟩ := Reps.get' (i := i) (v := v) r (by simpa using e)
    exact ⟨d, by simpa using e1, h⟩
theorem Reps.append : ∀ {vs us : List V} {ds es : List D}, Reps K w as F H vs ds → Reps K w as F H us es → Reps K w as F H (vs ++ us) (ds ++ es)
  | _, _, _, _, .nil, r => r
  | _, _, _, _, .cons h t, r => .cons h (Reps.append t r)
theorem Reps.drop : ∀ {vs : List V} {ds : List D} (n : Nat), Reps K w as F H vs ds → Reps K w as F H (vs.drop n) (ds.drop n)
  | _, _, 0, r => r
  | _, _, _ + 1, .nil => .nil
  | _, _, n + 1, .cons _ t => Reps.drop n t
theorem Reps.take : ∀ {vs : List V} {ds : List D} (n : Nat), Reps K w as F H vs ds → Reps K w as F H (vs.take n) (ds.take n)
  | _, _, 0, _ => .nil
  | _, _, _ + 1, .nil => .nil
  | _, _, n + 1, .cons h t => .cons h (Reps.take n t)
theorem Reps.set : ∀ {vs : List V} {ds : List D} (n : Nat) {v : V} {d : D}, Reps K w as F H vs ds → Rep K w as F H v d → Reps K w as F H (vs.set n v) (ds.set n d)
  | _, _, _, _, _, .nil, _ => .nil
  | _, _, 0, _, _, .cons _ t, r => .cons r t
  | _, _, n + 1, _, _, .cons h t, r => .cons h (Reps.set n t r)
theorem Reps.eraseIdx : ∀ {vs : List V} {ds : List D} (n : Nat), Reps K w as F H vs ds → Reps K w as F H (vs.eraseIdx n) (ds.eraseIdx n)
  | _, _, _, .nil => .nil
  | _, _, 0, .cons _ t => t
  | _, _, n + 1, .cons h t => .cons h (Reps.eraseIdx n t)
theorem Reps.dropLast {vs : List V} {ds : List D} (h : Reps K w as F H vs ds) : Reps K w as F H vs.dropLast ds.dropLast := by
  rw [List.dropLast_eq_take, List.dropLast_eq_take, h.length]
  exact h.take _
theorem Reps.reverse : ∀ {vs : List V} {ds : List D}, Reps K w as F H vs ds → Reps K w as F H vs.reverse ds.reverse
  | _, _, .nil => .nil
  | _, _, .cons h t => by
    rw [List.reverse_cons, List.reverse_cons]
    exact (Reps.reverse t).append (.cons h .nil)
theorem Reps.rep {vs : List V} {ds : List D} (h : Reps K w as F H vs ds) : ∀ k : Nat, Reps K w as F H (List.replicate k vs).flatten (List.replicate k ds).flatten
  | 0 => .nil
  | k + 1 => by
    rw [List.replicate_succ, List.replicate_succ, List.flatten_cons, List.flatten_cons]
    exact h.append (Reps.rep h k)
theorem RepW.frz {e : D} (h : RepW K w as F H v d) (q : Z.frz d = some e) : Rep K w as F H v e := by
  cases h with
  | val h => cases h <;> first | (cases q; constructor <;> assumption) | cases q
  | fl h n f r =>
    cases q
    exact .tl h n f r
  | st => cases q
theorem RelE.set {i : Nat} (h : RelE K w as F H σ env) (r : Rep K w as F H v d) : RelE K w as F H (σ.set i (some v)) (env.set i (some d)) := by
  refine ⟨by rw [List.length_set, List.length_set]; exact h.len, fun j e q => ?_⟩
  have hl := h.len
  by_cases hj : i = j
  · subst hj
    by_cases hi : i < env.length
    · rw [List.getElem?_set_self hi] at q
      cases q
      exact ⟨v, List.getElem?_set_self (by omega), r⟩
    · rw [List.getElem?_eq_none (by rw [List.length_set]; omega)] at q
      cases q
  · rw [List.getElem?_set_ne hj] at q
    obtain ⟨u, e1, r1⟩ := h.at_ j e q
    exact ⟨u, by rw [List.getElem?_set_ne hj]; exact e1, r1⟩
theorem RelE.clear {i : Nat} (h : RelE K w as F H σ env) : RelE K w as F H (σ.set i none) (env.set i none) := by
  refine ⟨by rw [List.length_set, List.length_set]; exact h.len, fun j e q => ?_⟩
  have hl := h.len
  by_cases hj : i = j
  · subst hj
    by_cases hi : i < env.length
    · rw [List.getElem?_set_self hi] at q
      cases q
    · rw [List.getElem?_eq_none (by rw [List.length_set]; omega)] at q
      cases q
  · rw [List.getElem?_set_ne hj] at q
    obtain ⟨u, e1, r1⟩ := h.at_ j e q
    exact ⟨u, by rw [List.getElem?_set_ne hj]; exact e1, r1⟩
theorem RelE.wipe (h : RelE K w as F H σ env) : ∀ is : List Nat, RelE K w as F H (wipe σ is) (wipeE env is)
  | [] => h
  | i :: is => (RelE.wipe h is).clear
theorem RelE.shun {p : Addr} (hp : H p = none) (h : RelE K w as F H σ env) : RelE K w as (p :: F) H σ env := ⟨h.len, fun i d e => by
  obtain ⟨v, e1, r⟩ := h.at_ i d e
  exact ⟨v, e1, r.shun hp⟩⟩
theorem RelE.less {G : List Addr} (hg : ∀ a ∈ F, a ∈ G) (h : RelE K w as G H σ env) : RelE K w as F H σ env := ⟨h.len, fun i d e => by
  obtain ⟨v, e1, r⟩ := h.at_ i d e
  exact ⟨v, e1, r.less hg⟩⟩
theorem nd_ix {α : Type} : ∀ {l : List α} {i j : Nat} {x : α}, l.Nodup → l[i]? = some x → l[j]? = some x → i = j
  | [], _, _, _, _, e, _ => by simp at e
  | y :: r, 0, 0, _, _, _, _ => rfl
  | y :: r, 0, j + 1, x, n, e, q => by
    simp at e q
    subst e
    exact absurd (List.mem_of_getElem? q) (List.nodup_cons.mp n).1
  | y :: r, i + 1, 0, x, n, e, q => by
    simp at e q
    subst q
    exact absurd (List.mem_of_getElem? e) (List.nodup_cons.mp n).1
  | y :: r, i + 1, j + 1, x, n, e, q => by
    rw [nd_ix (i := i) (j := j) (List.nodup_cons.mp n).2 (by simpa using e) (by simpa using q)]
/-- an object of the memory is written -/
theorem RelH.put (h : RelH K w as F H M) {n : Nat} {a : Addr} {vs : List V} {ds : List D} (ha : as[n]? = some a) (r : Reps K w as F H vs ds) :
    Later as H as (L2.upd H a (.lst vs)) ∧ RelH K w as F (L2.upd H a (.lst vs)) (M.set n (.lst ds)) := by
  have hm : a ∈ as := List.mem_of_getElem? ha
  have L : Later as H as (L2.upd H a (.lst vs)) := ⟨⟨[], by simp, fun a ha => by cases ha⟩, fun b o e nb => by rw [upd_ne (fun z => nb (by rw [z]; exact hm))]; exact e, h.there⟩
  refine ⟨L, by rw [List.length_set]; exact h.len, h.nd, fun b hb => ?_, fun m b o e1 e2 => ?_⟩
  · by_cases hba : b = a
    · rw [hba, upd_same]
      exact fun z => nomatch z
    · rw [upd_ne hba]
      exact h.fex b hb
  have hl := h.len
  by_cases hj : n = m
  · subst hj
    rw [ha] at e1
    cases e1
    have hn : n < M.length := by
      have := (List.getElem?_eq_some_iff.mp ha).1
      omega
    rw [List.getElem?_set_self hn] at e2
    cases e2
    exact .lst upd_same (r.later L)
  · rw [List.getElem?_set_ne hj] at e2
    have hb : b ≠ a := fun z => by
      subst z
      exact hj (nd_ix h.nd ha e1)
    exact (h.obj m b o e1 e2).later L fun xs e => by rw [upd_ne hb]; exact e
mutual
/-- an address that no value names joins the told ones -/
theorem Rep.join {a : Addr} : ∀ {v : V} {d : D}, Rep K w as (a :: F) H v d → Rep K w (as ++ [a]) F H v d
  | _, _, .non => .non
  | _, _, .bl b => .bl b
  | _, _, .int i => .int i
  | _, _, .str s => .str s
  | _, _, .tup h r => .tup h (Reps.join r)
  | _, _, .tl h n f r => .tl h (fun z => (List.mem_append.mp z).elim n fun z => f (by rw [List.mem_singleton.mp z]; exact List.mem_cons_self)) (fun z => f (List.mem_cons_of_mem _ z)) (Reps.join r)
  | _, _, .sc h r => .sc h (Reps.join r)
  | _, _, .dc h => .dc h
  | _, _, .ref h => .ref (by rw [List.getElem?_append_left (List.getElem?_eq_some_iff.mp h).1]; exact h)
theorem Reps.join {a : Addr} : ∀ {vs : List V} {ds : List D}, Reps K w as (a :: F) H vs ds → Reps K w (as ++ [a]) F H vs ds
  | _, _, .nil => .nil
  | _, _, .cons h r => .cons (Rep.join h) (Reps.join r)
end
/-- a list just made becomes an object of the memory -/
theorem RelH.push {a : Addr} {vs : List V} {ds : List D} (h : RelH K w as (a :: F) H M) (h0 : H₀ a = none) (ha : H a = some (.lst vs)) (na : a ∉ as) (r : Reps K w as (a :: F) H vs ds) (L : Later as'' H₀ as H) :
    Later as'' H₀ (as ++ [a]) H ∧ RelH K w (as ++ [a]) F H (M ++ [.lst ds]) ∧ Rep K w (as ++ [a]) F H (.ref a) (.ref M.length) := by
  have hl := h.len
  obtain ⟨new, e, hn⟩ := L.pre
  refine ⟨⟨⟨new ++ [a], by rw [e, List.append_assoc], fun b hb => ?_⟩, L.keep, L.there⟩, ⟨by rw [List.length_append, List.length_append, hl]; rfl, ?_, fun b hb => h.fex b (List.mem_cons_of_mem _ hb), fun n b o e1 e2 => ?_⟩, .ref (by rw [← hl, List.getElem?_append_right (Nat.le_refl _), Nat.sub_self]; rfl)⟩
  · rcases List.mem_append.mp hb with hb | hb
    · exact hn b hb
    · rw [List.mem_singleton.mp hb]
      exact h0
  · exact List.nodup_append.mpr ⟨h.nd, by simp, fun x hx y hy => by
      rw [List.mem_singleton.mp hy]
      exact fun z => na (z ▸ hx)⟩
  · by_cases hlt : n < as.length
    · rw [List.getElem?_append_left hlt] at e1
      rw [List.getElem?_append_left (by omega)] at e2
      cases h.obj n b o e1 e2 with
      | lst h1 r1 => exact .lst h1 r1.join
    · have hlen := (List.getElem?_eq_some_iff.mp e1).1
      rw [List.length_append] at hlen
      have hn' : n = as.length := by
        have : ([a] : List Addr).length = 1 := rfl
        omega
      subst hn'
      rw [List.getElem?_append_right (Nat.le_refl _), Nat.sub_self] at e1
      rw [hl, List.getElem?_append_right (Nat.le_refl _), Nat.sub_self] at e2
      simp at e1 e2
      subst e1 e2
      exact .lst ha r.join
/-- the value of a list just laid -/
theorem RepR.new (h : RelH K w as F H M) {p : Addr} (hp : H p = none) (r : Reps K w as F H vs ds) : RepR K w as F H (L2.upd H p (.lst vs)) M (.ref p) (.fl ds) :=
  .fl hp upd_same (nin_new h hp) ((r.shun hp).later (Later.upd h hp)) (h.laid hp)
theorem RepR.newT (h : RelH K w as F H M) {p : Addr} (hp : H p = none) (r : Reps K w as F H vs ds) : RepR K w as F H (L2.upd H p (.tup vs)) M (.ref p) (.tup ds) :=
  .val (.tup (SqT.of upd_same) (r.later (Later.upd h hp)))
end Z
end
section
set_option Elab.async false
set_option linter.all false
set_option maxRecDepth 100000
set_option maxHeartbeats 1000000
set_option autoImplicit false
/-! Each operation on values does what the evaluator says. -/
namespace Z
open PySem PySem.Spec PyProof.Rows L2
variable {K : PySem.W.Frag} {w : World} {as as' as'' F : List Addr} {H H₀ H' H'' : Hp} {M M' : Mem} {v : V} {vs : List V} {d : D} {ds : List D} {σ : L2.St} {env : Z.Env}

theorem lim : (16777216 : Nat) = sizeLine := sizeLine_eq.symm
theorem ob {α β : Type} {x : Option α} {f : α → Option β} {b : β} (h : x.bind f = some b) : ∃ a, x = some a ∧ f a = some b := by
  cases x with
  | none => cases h
  | some a => exact ⟨a, rfl, h⟩
theorem om {α β : Type} {x : Option α} {f : α → β} {b : β} (h : x.map f = some b) : ∃ a, x = some a ∧ f a = b := by
  cases x with
  | none => cases h
  | some a => exact ⟨a, rfl, Option.some.inj h⟩
theorem oi {α : Type} {c : Bool} {x : Option α} {b : α} (h : (if c = true then x else none) = some b) : c = true ∧ x = some b := by
  cases c with
  | true => exact ⟨rfl, h⟩
  | false => cases h
theorem op {α : Type} {c : Prop} [Decidable c] {x : Option α} {b : α} (h : (if c then x else none) = some b) : c ∧ x = some b := by
  by_cases q : c
  · rw [if_pos q] at h
    exact ⟨q, h⟩
  · rw [if_neg q] at h
    cases h
theorem band {a b : Bool} (h : (a && b) = true) : a = true ∧ b = true := Bool.and_eq_true_iff.mp h

/-! ### lists, tuples -/
theorem lstOf_ok (hM : RelH K w as F H M) (h : RepW K w as F H v d) (e : lstOf d M = some ds) : ∃ a vs, v = .ref a ∧ H a = some (.lst vs) ∧ Reps K w as F H vs ds := by
  unfold lstOf at e
  cases h with
  | val h =>
    cases h with
    | tl h n f r =>
      cases e
      exact ⟨_, _, rfl, h, r⟩
    | @ref n a h =>
      cases q : M[n]? with
      | none =>
        simp only [q] at e
        cases e
      | some o =>
        have z := hM.obj n a o h q
        cases z with
        | lst h1 r =>
          simp only [q] at e
          cases e
          exact ⟨_, _, rfl, h1, r⟩
    | _ => cases e
  | fl h n f r =>
    cases e
    exact ⟨_, _, rfl, h, r⟩
  | st => cases e
theorem seqOf_ok (hM : RelH K w as F H M) (h : RepW K w as F H v d) (e : seqOf d M = some ds) : ∃ a vs, v = .ref a ∧ (SqL K H a vs ∨ SqT K H a vs) ∧ Reps K w as F H vs ds := by
  by_cases ht : ∃ es, d = .tup es
  · obtain ⟨es, rfl⟩ := ht
    cases h with
    | val h =>
      cases h with
      | tup h r =>
        cases e
        exact ⟨_, _, rfl, .inr h, r⟩
  · by_cases hs : ∃ es, d = .sc es
    · obtain ⟨es, rfl⟩ := hs
      cases h with
      | val h =>
        cases h with
        | sc h r =>
          cases e
          exact ⟨_, _, rfl, .inl h.sql, r⟩
    · have e' : lstOf d M = some ds := by
        unfold seqOf at e
        unfold lstOf
        cases d with
        | tup es => exact absurd ⟨es, rfl⟩ ht
        | sc es => exact absurd ⟨es, rfl⟩ hs
        | _ => exact e
      obtain ⟨a, vs, e1, h1, r⟩ := lstOf_ok hM h e'
      exact ⟨a, vs, e1, .inl (.inl (.inl h1)), r⟩
theorem seq_len {X : Cx} {pins : List (Addr × Obj)} {s : Shared} {a : Addr} (I : Inv X pins σ H s) (h : SqL X.K H a vs ∨ SqT X.K H a vs) : vs.length ≤ sizeLine := by
  rcases h with h | h
  · obtain ⟨_, _, _, z⟩ := I.list h
    exact z
  · obtain ⟨_, _, _, z⟩ := I.tuple h
    exact z

/-! ### plain data -/
mutual
theorem Rep.dp : ∀ {v : V} {d : D}, d.plain = true → Rep K w as F H v d → Dp K H v d.py
  | _, _, _, .non => .non
  | _, _, _, .bl b => .bl b
  | _, _, _, .int i => .int i
  | _, _, _, .str s => .str s
  | _, _, e, .tup h r => .tup h (Reps.dp e r)
  | _, _, e, .tl h _ _ r => .lst (.inl (.inl h)) (Reps.dp e r)
  | _, _, e, .sc _ _ => by cases e
  | _, _, e, .dc h => by cases e
  | _, _, e, .ref h => by cases e
theorem Reps.dp : ∀ {vs : List V} {ds : List D}, D.plains ds = true → Reps K w as F H vs ds → DpAll K H vs (D.pys ds)
  | _, _, _, .nil => .nil
  | _, _, e, .cons h r => .cons (Rep.dp (band (show (D.plain _ && D.plains _) = true from e)).1 h) (Reps.dp (band (show (D.plain _ && D.plains _) = true from e)).2 r)
end
theorem view_ok {x : PyData} (hM : RelH K w as F H M) (h : RepW K w as F H v d) (e : view d M = some x) : Dp K H v x := by
  cases h with
  | val h =>
    by_cases hr : ∃ n, d = .ref n
    · obtain ⟨n, rfl⟩ := hr
      cases h with
      | @ref _ a h =>
        cases q : M[n]? with
        | none =>
          simp only [view, q] at e
          cases e
        | some o =>
          have z := hM.obj n a o h q
          cases z with
          | lst h1 r =>
            simp only [view, q] at e
            obtain ⟨e1, e2⟩ := oi e
            cases e2
            exact .lst (.inl (.inl h1)) (r.dp e1)
    · have e' : (if d.plain = true then some d.py else none) = some x := by
        cases d with
        | ref n => exact absurd ⟨n, rfl⟩ hr
        | _ => exact e
      obtain ⟨e1, e2⟩ := oi e'
      cases e2
      exact h.dp e1
  | @fl a vs ds h n f r =>
    have e' : (if D.plains ds = true then some (PyData.list (D.pys ds)) else none) = some x := e
    obtain ⟨e1, e2⟩ := oi e'
    cases e2
    exact .lst (.inl (.inl h)) (r.dp e1)
  | st => cases e
theorem viewS_ok {x : PyData} (hM : RelH K w as F H M) (h : RepW K w as F H v d) (e : viewS d M = some x) : Dp K H v x ∧ SeqAt.shaped x = true := by
  unfold viewS at e
  cases q : view d M with
  | none =>
    rw [q] at e
    cases e
  | some y =>
    rw [q] at e
    obtain ⟨e1, e2⟩ := oi e
    cases e2
    exact ⟨view_ok hM h q, e1⟩

section
variable {X : Cx} {pins : List (Addr × Obj)} {s : Shared} {x y : V} {u t : Value} {Q : VK} {a b : D}

/-- what an operation is to reach -/
abbrev Goal (X : Cx) (as F : List Addr) (H : Hp) (M : Mem) (d : D) (Q : VK) : Prop := ∀ (H' : Hp) (z : V), Later as H as H' → RelH X.K X.w as F H' M → RepR X.K X.w as F H H' M z d → Q z H'
theorem Goal.same (hM : RelH X.K X.w as F H M) (q : Goal X as F H M d Q) (r : Rep X.K X.w as F H v d) : Q v H := q H v (.refl hM) hM (.val r)
theorem Goal.list (hM : RelH X.K X.w as F H M) (q : Goal X as F H M (.fl ds) Q) {p : Addr} (hp : H p = none) (r : Reps X.K X.w as F H vs ds) : Q (.ref p) (upd H p (.lst vs)) :=
  q _ _ (.upd hM hp) (hM.laid0 hp) (.new hM hp r)
theorem Goal.tuple (hM : RelH X.K X.w as F H M) (q : Goal X as F H M (.tup ds) Q) {p : Addr} (hp : H p = none) (r : Reps X.K X.w as F H vs ds) : Q (.ref p) (upd H p (.tup vs)) :=
  q _ _ (.upd hM hp) (hM.laid0 hp) (.newT hM hp r)

theorem cDivOk {i j : Int} (h : (decide (0 < j) && decide (j < 1073741824)) = true) : CDiv i j := ⟨of_decide_eq_true (band h).1, of_decide_eq_true (band h).2⟩
theorem binI_ok {o : Operator} {p : BOp} {i j k : Int} {ti tj : Tok} (I : Inv X pins σ H s) (hc : cOp o = some p) (e : binI p i j = some k) (q : Q (.int k) H) :
    wpAny (model X.prog X.w) X.A (binaryOp o (.int i ti) (.int j tj)) (EP X pins σ Q) X.xe s := by
  cases o with
  | Add =>
    cases hc
    cases e
    exact op_add pins s σ H (.int i) (.int j) _ _ Q I ⟨_, rfl⟩ ⟨_, rfl⟩ ⟨_, _, rfl, rfl, q⟩
  | Sub =>
    cases hc
    cases e
    exact op_sub pins s σ H (.int i) (.int j) _ _ Q I ⟨_, rfl⟩ ⟨_, rfl⟩ ⟨_, _, rfl, rfl, q⟩
  | Mult =>
    cases hc
    obtain ⟨h, e⟩ := oi e
    cases e
    refine op_mul pins s σ H (.int i) (.int j) _ _ Q I ⟨_, rfl⟩ ⟨_, rfl⟩ ⟨_, _, rfl, rfl, ?_, q⟩
    rcases Bool.or_eq_true_iff.mp h with h | h
    · exact .inl ⟨of_decide_eq_true (band h).1, of_decide_eq_true (band h).2⟩
    · exact .inr ⟨of_decide_eq_true (band h).1, of_decide_eq_true (band h).2⟩
  | Mod =>
    cases hc
    obtain ⟨h, e⟩ := op e
    cases e
    exact op_mod pins s σ H (.int i) (.int j) _ _ Q I ⟨_, rfl⟩ ⟨_, rfl⟩ ⟨_, _, rfl, rfl, h, q⟩
  | FloorDiv =>
    cases hc
    obtain ⟨h, e⟩ := oi e
    cases e
    exact op_fdiv pins s σ H (.int i) (.int j) _ _ Q I ⟨_, rfl⟩ ⟨_, rfl⟩ ⟨_, _, rfl, rfl, cDivOk h, q⟩
  | Pow =>
    cases hc
    obtain ⟨h, e⟩ := oi e
    cases e
    have h2 := band h
    have h3 := band h2.2
    exact op_pow pins s σ H (.int i) (.int j) _ _ Q I ⟨_, rfl⟩ ⟨_, rfl⟩ ⟨_, _, rfl, rfl, ⟨of_decide_eq_true h2.1, of_decide_eq_true h3.1, of_decide_eq_true h3.2⟩, q⟩
  | LShift =>
    cases hc
    obtain ⟨h, e⟩ := oi e
    cases e
    have h2 := band h
    have h3 := band h2.2
    exact op_shl pins s σ H (.int i) (.int j) _ _ Q I ⟨_, rfl⟩ ⟨_, rfl⟩ ⟨_, _, rfl, rfl, ⟨of_decide_eq_true h2.1, of_decide_eq_true h3.1, of_decide_eq_true h3.2⟩, q⟩
  | BitXor =>
    cases hc
    cases e
    exact op_xor pins s σ H (.int i) (.int j) _ _ Q I ⟨_, rfl⟩ ⟨_, rfl⟩ ⟨_, _, rfl, rfl, q⟩
  | _ => cases hc
theorem Reps.nil_iff (r : Reps K w as F H vs ds) : vs = [] ↔ ds = [] := by
  cases r with
  | nil => simp
  | cons _ _ => simp
theorem bin_ok {o : Operator} {p : BOp} (I : Inv X pins σ H s) (rx : RelV x u) (ry : RelV y t) (hM : RelH X.K X.w as F H M) (hx : RepW X.K X.w as F H x a) (hy : RepW X.K X.w as F H y b)
    (hc : cOp o = some p) (e : binD p a b M = some d) (q : Goal X as F H M d Q) : wpAny (model X.prog X.w) X.A (binaryOp o u t) (EP X pins σ Q) X.xe s := by
  unfold binD at e
  split at e
  · -- ints
    obtain ⟨k, e1, e2⟩ := om e
    subst e2
    cases hx with
    | val hx =>
      cases hx
      cases hy with
      | val hy =>
        cases hy
        obtain ⟨ti, rfl⟩ := rx
        obtain ⟨tj, rfl⟩ := ry
        exact binI_ok I hc e1 (q.same hM (.int k))
  · -- texts
    obtain ⟨h1, e1⟩ := op e
    cases e1
    cases hx with
    | val hx =>
      cases hx
      cases hy with
      | val hy =>
        cases hy
        cases o with
        | Add => exact op_add_str pins s σ H _ _ u t Q I rx ry ⟨_, _, rfl, rfl, by rw [← lim]; exact h1, q.same hM (.str _)⟩
        | _ => cases hc
  · -- tuples
    obtain ⟨h1, e1⟩ := op e
    cases e1
    cases hx with
    | val hx =>
      cases hx with
      | @tup l xs _ hl r1 =>
        cases hy with
        | val hy =>
          cases hy with
          | @tup r ys _ hr r2 =>
            cases o with
            | Add =>
              refine op_catA pins s σ H _ _ u t Q I rx ry ⟨_, _, xs, ys, rfl, rfl, hl, hr, by rw [r1.length, r2.length, ← lim]; exact h1, fun z => ?_, fun z1 z2 => ?_, fun _ _ p hp => q.tuple hM hp (r1.append r2)⟩
              · rw [r1.nil_iff.mp z, List.nil_append] at q
                exact q.same hM (.tup hr r2)
              · rw [r2.nil_iff.mp z2, List.append_nil] at q
                exact q.same hM (.tup hl r1)
            | _ => cases hc
  · -- a tuple times an int
    obtain ⟨h1, e1⟩ := oi e
    cases e1
    cases hx with
    | val hx =>
      cases hx with
      | @tup l xs _ hl r1 =>
        cases hy with
        | val hy =>
          cases hy
          have h2 := band h1
          have h3 := band h2.2
          have h4 := band h3.2
          cases o with
          | Mult =>
            refine op_repT pins s σ H _ _ u t Q I rx ry ⟨_, _, xs, rfl, rfl, hl, fun z => ?_, of_decide_eq_true h3.1, of_decide_eq_true h4.1, by rw [r1.length]; exact of_decide_eq_true h4.2, fun p hp => q.tuple hM hp (r1.rep _)⟩
            rw [r1.nil_iff.mp z] at h2
            cases h2.1
          | _ => cases hc
  · -- lists
    split at e
    · rename_i xs ys e1 e2
      obtain ⟨h1, e3⟩ := op e
      cases e3
      obtain ⟨l, vs1, rfl, hl, r1⟩ := lstOf_ok hM hx e1
      obtain ⟨r, vs2, rfl, hr, r2⟩ := lstOf_ok hM hy e2
      cases o with
      | Add => exact op_cat pins s σ H _ _ u t Q I rx ry ⟨_, _, _, _, rfl, rfl, hl, hr, by rw [r1.length, r2.length, ← lim]; exact h1, fun p hp => q.list hM hp (r1.append r2)⟩
      | _ => cases hc
    · cases e
  · -- a list times an int
    split at e
    · rename_i xs e1
      obtain ⟨zs, e2, e3⟩ := om e
      subst e3
      obtain ⟨h1, e2⟩ := oi e2
      cases e2
      have h2 := band h1
      have h3 := band h2.2
      obtain ⟨l, vs1, rfl, hl, r1⟩ := lstOf_ok hM hx e1
      cases hy with
      | val hy =>
        cases hy
        cases o with
        | Mult => exact op_rep pins s σ H _ _ u t Q I rx ry ⟨_, _, _, rfl, rfl, hl, of_decide_eq_true h2.1, of_decide_eq_true h3.1, by rw [r1.length, ← lim]; exact of_decide_eq_true h3.2, fun p hp => q.list hM hp (r1.rep _)⟩
        | _ => cases hc
    · cases e
  · cases e
end
end Z
end
section
set_option Elab.async false
set_option linter.all false
set_option maxRecDepth 100000
set_option maxHeartbeats 1000000
set_option autoImplicit false
/-! Comparisons, subscripts, truth. -/
namespace Z
open PySem PySem.Spec PyProof.Rows L2
variable {K : PySem.W.Frag} {w : World} {as as' as'' F : List Addr} {H H₀ H' H'' : Hp} {M M' : Mem} {v : V} {vs : List V} {d : D} {ds : List D} {σ : L2.St} {env : Z.Env}

mutual
theorem D.beq_eq : ∀ (a b : D), D.beq a b = true → a = b
  | .non, b, h => by cases b <;> first | rfl | cases h
  | .bl x, b, h => by
    cases b with
    | bl y => rw [show x = y from beq_iff_eq.mp h]
    | _ => cases h
  | .int x, b, h => by
    cases b with
    | int y => rw [show x = y from of_decide_eq_true h]
    | _ => cases h
  | .str x, b, h => by
    cases b with
    | str y => rw [show x = y from of_decide_eq_true h]
    | _ => cases h
  | .tup x, b, h => by
    cases b with
    | tup y => rw [D.beqs_eq x y h]
    | _ => cases h
  | .tl x, b, h => by
    cases b with
    | tl y => rw [D.beqs_eq x y h]
    | _ => cases h
  | .sc x, b, h => by
    cases b with
    | sc y => rw [D.beqs_eq x y h]
    | _ => cases h
  | .fl x, b, h => by
    cases b with
    | fl y => rw [D.beqs_eq x y h]
    | _ => cases h
  | .dc x z, b, h => by
    cases b with
    | dc y t => rw [D.beqs_eq x y (band h).1, D.beqs_eq z t (band h).2]
    | _ => cases h
  | .st x, b, h => by
    cases b with
    | st y => rw [D.beqs_eq x y h]
    | _ => cases h
  | .ref x, b, h => by
    cases b with
    | ref y => rw [show x = y from of_decide_eq_true h]
    | _ => cases h
theorem D.beqs_eq : ∀ (a b : List D), D.beqs a b = true → a = b
  | [], [], _ => rfl
  | [], _ :: _, h => by cases h
  | _ :: _, [], h => by cases h
  | a :: as, b :: bs, h => by
    have h2 := band (show (D.beq a b && D.beqs as bs) = true from h)
    rw [D.beq_eq a b h2.1, D.beqs_eq as bs h2.2]
end
mutual
theorem D.beq_self : ∀ a : D, D.beq a a = true
  | .non => rfl
  | .bl x => by simp [D.beq]
  | .int x => by simp [D.beq]
  | .str x => by simp [D.beq]
  | .tup x => D.beqs_self x
  | .tl x => D.beqs_self x
  | .sc x => D.beqs_self x
  | .fl x => D.beqs_self x
  | .dc x y => by simp [D.beq, D.beqs_self x, D.beqs_self y]
  | .st x => D.beqs_self x
  | .ref x => by simp [D.beq]
theorem D.beqs_self : ∀ a : List D, D.beqs a a = true
  | [] => rfl
  | a :: r => by simp [D.beqs, D.beq_self a, D.beqs_self r]
end

section
variable {X : Cx} {pins : List (Addr × Obj)} {s : Shared} {x y : V} {u t : Value} {Q : VK} {a b : D} {c : Bool}

theorem strOne {z : Str} (h : z.length = 1) : ∃ k, z = ⟨#[k]⟩ ∧ z.cps.toList.headD 0 = k := by
  obtain ⟨⟨l⟩⟩ := z
  cases l with
  | nil => cases h
  | cons k r =>
    cases r with
    | nil => exact ⟨k, rfl, rfl⟩
    | cons _ _ => cases h
theorem keyIdx {ks : List D} {z : Str} : (ks.any fun k => D.beq k (.str z)) = (ks.findIdx? fun k => D.beq k (.str z)).isSome := by
  rw [List.findIdx?_isSome]
theorem mem_ok (hu : X.A.units + 65 < cLine) (I : Inv X pins σ H s) (rx : RelV x u) (ry : RelV y t) (hM : RelH X.K X.w as F H M) (hx : RepW X.K X.w as F H x a) (hy : RepW X.K X.w as F H y b)
    (e : memD a b M = some c) : (Q (.bl c) H → wpAny (model X.prog X.w) X.A (compareOp .In u t) (EP X pins σ Q) X.xe s) ∧ (Q (.bl !c) H → wpAny (model X.prog X.w) X.A (compareOp .NotIn u t) (EP X pins σ Q) X.xe s) := by
  unfold memD at e
  split at e
  · -- a sign of a text
    rename_i z
    cases hy with
    | val hy =>
      cases hy
      split at e
      · rename_i g
        cases hx with
        | val hx =>
          cases hx
          obtain ⟨h1, e1⟩ := op e
          obtain ⟨k, e2, e3⟩ := strOne h1
          rw [e3] at e1
          cases e1
          subst e2
          exact ⟨fun q => op_in_sign pins s σ H _ _ u t Q I rx ry ⟨k, z, rfl, rfl, q⟩, fun q => op_notIn_sign pins s σ H _ _ u t Q I rx ry ⟨k, z, rfl, rfl, q⟩⟩
      · cases e
  · -- a dict's key
    rename_i ks us
    cases hy with
    | val hy =>
      cases hy with
      | dc hd =>
        obtain ⟨⟨es, n, kd⟩, no, yes⟩ := hd
        split at e
        · rename_i z
          cases hx with
          | val hx =>
            cases hx
            cases e
            rw [keyIdx]
            cases q : ks.findIdx? fun k => D.beq k (.str z) with
            | none =>
              exact ⟨fun h => op_in_kd kd pins s σ H _ _ u t Q I rx ry ⟨z, none, rfl, rfl, no z q, h⟩, fun h => op_notIn_kd kd pins s σ H _ _ u t Q I rx ry ⟨z, none, rfl, rfl, no z q, h⟩⟩
            | some j =>
              obtain ⟨uu, yy, h1, _, _⟩ := yes z j q
              exact ⟨fun h => op_in_kd kd pins s σ H _ _ u t Q I rx ry ⟨z, some uu, rfl, rfl, h1, h⟩, fun h => op_notIn_kd kd pins s σ H _ _ u t Q I rx ry ⟨z, some uu, rfl, rfl, h1, h⟩⟩
        · cases e
  · split at e
    · rename_i xs e1
      obtain ⟨e2, e3⟩ := oi e
      split at e3
      · rename_i p e4
        obtain ⟨e5, e6⟩ := oi e3
        cases e6
        obtain ⟨h1, h2⟩ := viewS_ok hM hx e4
        obtain ⟨l, ws, rfl, hl, r⟩ := seqOf_ok hM hy e1
        obtain ⟨cs, r1⟩ := Dp.reads I p x u h1 rx
        have room := room_in_shaped (xs := D.pys xs) h2 hu
        have lay : PyData.canLayAll0 (D.pys xs) = true := SeqAt.canLay_of_shaped e5
        rcases hl with hl | hl
        · obtain ⟨bs, r2⟩ := Dp.reads I (.list (D.pys xs)) _ t (.lst hl (r.dp e2)) ry
          exact ⟨fun q => SeqAt.in_list_reads r2 r1 lay (SeqAt.canLay_of_shaped h2) room ⟨.bl _, H, I, rfl, q⟩, fun q => SeqAt.notIn_list_reads r2 r1 lay (SeqAt.canLay_of_shaped h2) room ⟨.bl _, H, I, rfl, q⟩⟩
        · obtain ⟨bs, r2⟩ := Dp.reads I (.tuple (D.pys xs)) _ t (.tup hl (r.dp e2)) ry
          exact ⟨fun q => SeqAt.in_tuple_reads r2 r1 lay (SeqAt.canLay_of_shaped h2) room ⟨.bl _, H, I, rfl, q⟩, fun q => SeqAt.notIn_tuple_reads r2 r1 lay (SeqAt.canLay_of_shaped h2) room ⟨.bl _, H, I, rfl, q⟩⟩
      · cases e3
    · cases e
theorem eq_ok (hu : X.A.units + 65 < cLine) (I : Inv X pins σ H s) (rx : RelV x u) (ry : RelV y t) (hM : RelH X.K X.w as F H M) (hx : RepW X.K X.w as F H x a) (hy : RepW X.K X.w as F H y b)
    (e : eqD a b M = some c) : (Q (.bl c) H → wpAny (model X.prog X.w) X.A (compareOp .Eq u t) (EP X pins σ Q) X.xe s) ∧ (Q (.bl !c) H → wpAny (model X.prog X.w) X.A (compareOp .NotEq u t) (EP X pins σ Q) X.xe s) := by
  unfold eqD at e
  split at e
  · rename_i p q e1 e2
    cases e
    obtain ⟨h1, h2⟩ := viewS_ok hM hx e1
    obtain ⟨h3, h4⟩ := viewS_ok hM hy e2
    exact ⟨fun z => op_eqD (by omega) pins s σ H x y u t Q I rx ry ⟨p, q, h1, h3, h2, h4, z⟩, fun z => op_neD (by omega) pins s σ H x y u t Q I rx ry ⟨p, q, h1, h3, h2, h4, z⟩⟩
  · cases e
theorem is_ok (I : Inv X pins σ H s) (rx : RelV x u) (ry : RelV y t) (hx : RepW X.K X.w as F H x a) (hy : RepW X.K X.w as F H y b)
    (e : isD a b = some c) : (Q (.bl c) H → wpAny (model X.prog X.w) X.A (compareOp .Is u t) (EP X pins σ Q) X.xe s) ∧ (Q (.bl !c) H → wpAny (model X.prog X.w) X.A (compareOp .IsNot u t) (EP X pins σ Q) X.xe s) := by
  unfold isD at e
  split at e
  · cases hy with
    | val hy =>
      cases hy
      cases e
      have key : isNon a = decide (x = V.non) := by
        cases hx with
        | val hx => cases hx <;> simp [isNon]
        | fl => simp [isNon]
        | st => simp [isNon]
      rw [key]
      exact ⟨fun q => op_isN pins s σ H x .non u t Q I rx ry ⟨rfl, q⟩, fun q => op_notN pins s σ H x .non u t Q I rx ry ⟨rfl, q⟩⟩
  · cases hy with
    | val hy =>
      cases hy
      cases hx with
      | val hx =>
        cases hx
        rename_i p q
        cases e
        have key : (p == q) = decide (q = p) := by cases p <;> cases q <;> rfl
        rw [key]
        exact ⟨fun z => op_isBl pins s σ H _ _ u t Q I rx ry ⟨_, _, rfl, rfl, z⟩, fun z => op_notBl pins s σ H _ _ u t Q I rx ry ⟨_, _, rfl, rfl, z⟩⟩
  · cases e
theorem cmp_ok {o : CmpOp} (hu : X.A.units + 65 < cLine) (I : Inv X pins σ H s) (rx : RelV x u) (ry : RelV y t) (hM : RelH X.K X.w as F H M) (hx : RepW X.K X.w as F H x a) (hy : RepW X.K X.w as F H y b)
    (e : cmpD (cCmp o) a b M = some c) (q : Q (.bl c) H) : wpAny (model X.prog X.w) X.A (compareOp o u t) (EP X pins σ Q) X.xe s := by
  have nn : ∀ {z : Option Bool}, z.map not = some c → z = some !c := fun {z} h => by
    obtain ⟨k, e1, e2⟩ := om h
    rw [e1, ← e2, Bool.not_not]
  have qq : Q (.bl !!c) H := by rw [Bool.not_not]; exact q
  have ord : ∀ {f : COp}, ordD f a b = some c → ∃ i j, x = .int i ∧ y = .int j ∧ a = .int i ∧ b = .int j := fun {f} h => by
    unfold ordD at h
    split at h
    · cases hx with
      | val hx =>
        cases hx
        cases hy with
        | val hy =>
          cases hy
          exact ⟨_, _, rfl, rfl, rfl, rfl⟩
    · cases h
  cases o with
  | Eq => exact (eq_ok hu I rx ry hM hx hy e).1 q
  | NotEq => exact (eq_ok hu I rx ry hM hx hy (nn e)).2 qq
  | In => exact (mem_ok hu I rx ry hM hx hy e).1 q
  | NotIn => exact (mem_ok hu I rx ry hM hx hy (nn e)).2 qq
  | Is => exact (is_ok I rx ry hx hy e).1 q
  | IsNot => exact (is_ok I rx ry hx hy (nn e)).2 qq
  | Lt =>
    obtain ⟨i, j, rfl, rfl, rfl, rfl⟩ := ord (f := .lt) e
    cases e
    exact op_lt pins s σ H _ _ u t Q I rx ry ⟨_, _, rfl, rfl, q⟩
  | LtE =>
    obtain ⟨i, j, rfl, rfl, rfl, rfl⟩ := ord (f := .le) e
    cases e
    exact op_le pins s σ H _ _ u t Q I rx ry ⟨_, _, rfl, rfl, q⟩
  | Gt =>
    obtain ⟨i, j, rfl, rfl, rfl, rfl⟩ := ord (f := .gt) e
    cases e
    exact op_gt pins s σ H _ _ u t Q I rx ry ⟨_, _, rfl, rfl, q⟩
  | GtE =>
    obtain ⟨i, j, rfl, rfl, rfl, rfl⟩ := ord (f := .ge) e
    cases e
    exact op_ge pins s σ H _ _ u t Q I rx ry ⟨_, _, rfl, rfl, q⟩

/-! ### truth -/
theorem isEmpty_len {α β : Type} {l : List α} {m : List β} (h : l.length = m.length) : l.isEmpty = m.isEmpty := by
  cases l <;> cases m <;> first | rfl | (simp at h)
theorem truth_ok (hM : RelH K w as F H M) (hx : RepW K w as F H x a) (e : truth a M = some c) : TruV K x H c := by
  have lst : ∀ {ds : List D}, lstOf a M = some ds → c = !ds.isEmpty → TruV K x H c := fun {ds} h1 h2 => by
    obtain ⟨l, ws, rfl, hl, r⟩ := lstOf_ok hM hx h1
    exact .inl ⟨ws, .inl (.inl hl), by rw [h2, isEmpty_len r.length]⟩
  unfold truth at e
  split at e
  · cases hx with
    | val hx => cases hx; cases e; rfl
  · cases hx with
    | val hx => cases hx; cases e; rfl
  · cases hx with
    | val hx => cases hx; cases e; rfl
  · cases hx with
    | val hx =>
      cases hx
      obtain ⟨h1, e1⟩ := op e
      cases e1
      exact ⟨by rw [← lim]; exact h1, rfl⟩
  · cases hx with
    | val hx =>
      cases hx with
      | tup h r =>
        cases e
        exact .inr (.inl ⟨_, h, by rw [isEmpty_len r.length]⟩)
  · split at e
    · rename_i ds e1
      cases e
      exact lst e1 rfl
    · cases e
/-! ### subscripts -/
theorem seqIx {α : Type} {l : List α} {i : Int} {k : Nat} {z : α} (h : seqIndex? i l.length = some k) (h2 : l[k]? = some z) : atI l i = some z := by
  have hk : ixN l.length i = some k := by
    unfold seqIndex? at h
    unfold ixN
    by_cases h0 : i < 0
    · simp only [h0, if_true] at h
      obtain ⟨h3, h4⟩ := oi h
      have h5 := band h3
      have h6 := of_decide_eq_true h5.1
      rw [if_neg (by omega), if_pos (by omega)]
      exact h4
    · simp only [h0, if_false] at h
      obtain ⟨h3, h4⟩ := oi h
      have h5 := band h3
      have h6 := of_decide_eq_true h5.2
      rw [if_pos (by omega), if_pos h6]
      exact h4
  unfold atI
  rw [hk]
  exact h2
theorem ixN_of {n : Nat} {i : Int} {k : Nat} (h : seqIndex? i n = some k) : ixN n i = some k := by
  unfold seqIndex? at h
  unfold ixN
  by_cases h0 : i < 0
  · simp only [h0, if_true] at h
    obtain ⟨h3, h4⟩ := oi h
    have h5 := band h3
    have h6 := of_decide_eq_true h5.1
    rw [if_neg (by omega), if_pos (by omega)]
    exact h4
  · simp only [h0, if_false] at h
    obtain ⟨h3, h4⟩ := oi h
    have h5 := band h3
    have h6 := of_decide_eq_true h5.2
    rw [if_pos (by omega), if_pos h6]
    exact h4
theorem idx_ok {value slice : Expr} (I : Inv X pins σ H s) (rx : RelV x u) (ry : RelV y t) (hM : RelH X.K X.w as F H M) (hx : RepW X.K X.w as F H x a) (hy : RepW X.K X.w as F H y b)
    (e : idxD a b M = some d) (hs : subscripted slice false u t = operate [u, t] (getItem u t)) (q : ∀ z, Rep X.K X.w as F H z d → Q z H) : wpAny (model X.prog X.w) X.A (subscriptTail value slice u t) (EP X pins σ Q) X.xe s := by
  unfold idxD at e
  split at e
  · -- a sign
    rename_i z i
    obtain ⟨h1, e⟩ := op e
    split at e
    · rename_i k e1
      split at e
      · rename_i g e2
        cases e
        cases hx with
        | val hx =>
          cases hx
          cases hy with
          | val hy =>
            cases hy
            have e3 : seqIndex? i z.cps.toList.length = some k := by
              rw [← e1]
              simp [Str.length]
            exact ix_str value slice pins s σ H _ _ u t Q I rx ry ⟨z, i, g, rfl, rfl, by rw [← lim]; exact h1, seqIx e3 (by simpa using e2), q _ (.str _)⟩ hs
      · cases e
    · cases e
  · -- a dict
    rename_i ks us
    split at e
    · rename_i z
      split at e
      · rename_i j e1
        cases hx with
        | val hx =>
          cases hx with
          | dc hd =>
            obtain ⟨⟨es, n, kd⟩, no, yes⟩ := hd
            cases hy with
            | val hy =>
              cases hy
              obtain ⟨uu, yy, h1, h2, h3⟩ := yes z j e1
              rw [h2] at e
              cases e
              cases (show u = Value.ref _ from rx)
              exact tail_any (kd_type kd I) slot_dict_getitem.lookup (op_item_kd kd pins s σ H _ _ _ t Q I rx ry ⟨z, uu, .str yy, rfl, rfl, h1, h3, q _ (.str _)⟩) hs
      · cases e
    · cases e
  · split at e
    · rename_i xs e1
      split at e
      · rename_i k e2
        obtain ⟨h3, e4⟩ := oi e
        obtain ⟨l, ws, rfl, hl, r⟩ := seqOf_ok hM hx e1
        cases hy with
        | val hy =>
          cases hy
          obtain ⟨z, e5, r5⟩ := r.get e4
          rw [← r.length] at e2
          rcases hl with hl | hl
          · exact ix_list value slice pins s σ H _ _ u t Q I rx ry ⟨l, ws, _, z, rfl, rfl, hl, seqIx e2 e5, q _ r5⟩ hs
          · exact ix_tup value slice pins s σ H _ _ u t Q I rx ry ⟨l, ws, _, z, rfl, rfl, hl, seqIx e2 e5, q _ r5⟩ hs
      · cases e
    · cases e
  · cases e
end
end Z
end
section
set_option Elab.async false
set_option linter.all false
set_option maxRecDepth 100000
set_option maxHeartbeats 1000000
set_option autoImplicit false
/-! Slices, isinstance, built-ins, methods. -/
namespace Z
open PySem PySem.Spec PyProof.Rows L2
variable {K : PySem.W.Frag} {w : World} {as as' as'' F : List Addr} {H H₀ H' H'' : Hp} {M M' : Mem} {v : V} {vs : List V} {d : D} {ds : List D} {σ : L2.St} {env : Z.Env}

theorem Reps.cut (h : Reps K w as F H vs ds) (lo hi : Option Int) : Reps K w as F H (cutV vs lo hi) (cutD ds lo hi) := by
  unfold cutV cutD
  rw [h.length]
  exact (h.drop _).take _
section
variable {X : Cx} {pins : List (Addr × Obj)} {s : Shared} {x y : V} {u t : Value} {Q : VK} {a b : D} {c : Bool}

theorem sli_ok {vl vu : Value} {lo hi : Option Int} {sl : Addr} (I : Inv X pins σ H s) (rx : RelV x u) (hM : RelH X.K X.w as F H M) (hx : RepW X.K X.w as F H x a) (hs : s.heap.IsSliceOf sl vl vu .none) (pl : IsPart vl lo) (pu : IsPart vu hi)
    (e : sliD a lo hi M = some d) (q : Goal X as F H M d Q) :
    ∃ T id, typeLookup (.type T) "__getitem__" = pure (some (.builtin id)) ∧ s.TypeIs u T ∧ wpAny (model X.prog X.w) X.A (getItem u (.ref sl)) (EP X pins σ Q) X.xe s := by
  unfold sliD at e
  split at e
  · rename_i z
    obtain ⟨h1, e1⟩ := op e
    cases e1
    cases hx with
    | val hx =>
      cases hx
      exact sl_str pins s σ H _ u vl vu lo hi sl Q I rx hs pl pu ⟨z, rfl, by rw [← lim]; exact h1, q.same hM (.str _)⟩
  · cases e
    cases hx with
    | val hx =>
      cases hx with
      | @tup l xs _ h r =>
        rename_i ds
        refine sl_tupA pins s σ H _ u vl vu lo hi sl Q I rx hs pl pu ⟨l, xs, rfl, h, fun z => ?_, fun _ p hp => q.tuple hM hp (r.cut lo hi)⟩
        have e2 : cutD ds lo hi = ds := by
          unfold cutD
          rw [← r.length, z.1, z.2, List.drop_zero, Nat.sub_zero, r.length, List.take_length]
        rw [e2] at q
        exact q.same hM (.tup h r)
  · cases e
    cases hx with
    | val hx =>
      cases hx with
      | @sc l xs ds h r => exact sl_list pins s σ H _ u vl vu lo hi sl Q I rx hs pl pu ⟨l, xs, rfl, h.sql, fun p hp => q.list hM hp (r.cut lo hi)⟩
  · split at e
    · rename_i ds e1
      cases e
      obtain ⟨l, xs, rfl, hl, r⟩ := lstOf_ok hM hx e1
      exact sl_list pins s σ H _ u vl vu lo hi sl Q I rx hs pl pu ⟨l, xs, rfl, .inl (.inl hl), fun p hp => q.list hM hp (r.cut lo hi)⟩
    · cases e

/-! ### isinstance -/
def tnN : TN → String
  | .non => "NoneType" | .bool => "bool" | .int => "int" | .str => "str" | .tuple => "tuple" | .list => "list"
def tyN : Ty → String
  | .int => "int" | .bool => "bool" | .str => "str" | .tuple => "tuple" | .list => "list" | .cls _ => "int"
def allTN : List TN := [.non, .bool, .int, .str, .tuple, .list]
def allTy : List Ty := [.int, .bool, .str, .tuple, .list]
theorem kb : (allTN.all fun n => allTy.all fun t => decide (kitB (tnN n) (tyN t) = some (isB n t))) = true := by decide +kernel
theorem kb1 (n : TN) (t : Ty) (h : noCls t = true) : kitB (tnN n) (tyN t) = some (isB n t) := by
  have h1 := List.all_eq_true.mp kb n (by cases n <;> simp [allTN])
  exact of_decide_eq_true (List.all_eq_true.mp h1 t (by cases t <;> first | (simp [allTy]; done) | cases h))
theorem tyOf_ok {n : TN} (hM : RelH K w as F H M) (hx : RepW K w as F H x a) (e : tyOf a M = some n) : TyX K H x (.type (tnN n)) := by
  cases hx with
  | fl => cases e
  | st => cases e
  | val hx =>
    cases hx with
    | non => cases e; exact .base .non
    | bl b => cases e; exact .base (.bl b)
    | int b => cases e; exact .base (.int b)
    | str b => cases e; exact .base (.str b)
    | tup h r =>
      cases e
      rcases h with (h | ⟨ob, h⟩) | ⟨o, us, n, h, hc, _⟩
      · exact .base (.tup h)
      · exact .fTuple h
      · exact .kTuple h hc
    | tl h n f r => cases e; exact .base (.lst h)
    | sc h r => cases e
    | dc h => cases e
    | @ref n l h =>
      unfold tyOf at e
      cases q : M[n]? with
      | none => simp only [q] at e; cases e
      | some o =>
        have z := hM.obj n l o h q
        cases z with
        | lst h1 r => simp only [q] at e; cases e; exact .base (.lst h1)
theorem kitAny_ok {K : PySem.W.Frag} {n : TN} : ∀ {ts : List Ty}, ts.all noCls = true → PySem.W.kitAny K (.type (tnN n)) (ts.map fun t => .type (tyN t)) = some (ts.any (isB n))
  | [], _ => kitAny_nil
  | t :: ts, h => by
    have h2 := band (show (noCls t && ts.all noCls) = true from h)
    have ih := kitAny_ok (K := K) (n := n) h2.2
    have h3 : PySem.W.kitOne K (.type (tnN n)) (.type (tyN t)) = some (isB n t) := kit_ty (kb1 n t h2.1)
    refine kitAny_cons h3 (fun z => ?_) (fun z => ?_)
    · rw [List.any_cons, z, Bool.false_or]
      exact ih
    · rw [List.any_cons, z, Bool.true_or]
/-- isinstance(x, T) -/
theorem isi_one {T : Ty} {tv : V} (I : Inv X pins σ H s) (hM : RelH X.K X.w as F H M) (hx : RepW X.K X.w as F H x a) (rx : RelV x u) (e : isTs a M [T] = some c) (q : Q (.bl c) H) :
    wpAny (model X.prog X.w) X.A (call (.builtin "isinstance") [u, .type (tyN T)]) (EP X pins σ Q) X.xe s := by
  unfold isTs at e
  split at e
  · rename_i n e1
    obtain ⟨h1, e2⟩ := oi e
    cases e2
    have h2 := (band (show (noCls T && ([] : List Ty).all noCls) = true from h1)).1
    have e3 : ([T].any (isB n)) = isB n T := by simp
    rw [e3] at q
    exact call_isi pins s σ H [x, .ty (tyN T)] _ Q I (.cons rx (.cons rfl .nil)) ⟨x, _, _, _, isB n T, rfl, .ty _, tyOf_ok hM hx e1, kit_ty (kb1 n T h2), q⟩
  · cases e
theorem tys_paired : ∀ ts : List Ty, Paired ClsV (ts.map fun t => V.ty (tyN t)) (ts.map fun t => Value.type (tyN t))
  | [] => .nil
  | t :: ts => .cons (.ty _) (tys_paired ts)
/-- isinstance(x, (T, ..)), the tuple just laid -/
theorem isi_many {ts : List Ty} {tp : Addr} (I : Inv X pins σ H s) (hM : RelH X.K X.w as F H M) (hx : RepW X.K X.w as F H x a) (rx : RelV x u) (ht : H tp = some (.tup (ts.map fun t => V.ty (tyN t)))) (e : isTs a M ts = some c) (q : Q (.bl c) H) :
    wpAny (model X.prog X.w) X.A (call (.builtin "isinstance") [u, .ref tp]) (EP X pins σ Q) X.xe s := by
  unfold isTs at e
  split at e
  · rename_i n e1
    obtain ⟨h1, e2⟩ := oi e
    cases e2
    exact call_isiT pins s σ H [x, .ref tp] _ Q I (.cons rx (.cons rfl .nil)) ⟨x, tp, _, _, _, _, rfl, ht, tys_paired ts, tyOf_ok hM hx e1, kitAny_ok h1, q⟩
  · cases e

/-! ### built-ins -/
theorem bls_of {c : Bool} : ∀ {vs : List V} {ds : List D}, Reps K w as F H vs ds → (allB ds = some c → ∃ bs : List Bool, vs = bs.map V.bl ∧ c = bs.all id) ∧ (anyB ds = some c → ∃ bs : List Bool, vs = bs.map V.bl ∧ c = bs.any id) := by
  intro vs ds r
  have key : ∀ {vs : List V} {ds : List D}, Reps K w as F H vs ds → ∀ c, (allB ds = some c → ∃ bs : List Bool, vs = bs.map V.bl ∧ c = bs.all id) ∧ (anyB ds = some c → ∃ bs : List Bool, vs = bs.map V.bl ∧ c = bs.any id) := by
    intro vs ds
    induction ds generalizing vs with
    | nil =>
      intro r c
      cases r
      exact ⟨fun e => ⟨[], rfl, (Option.some.inj e).symm⟩, fun e => ⟨[], rfl, (Option.some.inj e).symm⟩⟩
    | cons d ds ih =>
      intro r c
      cases r with
      | cons h r =>
        cases h with
        | bl b =>
          refine ⟨fun e => ?_, fun e => ?_⟩
          · unfold allB at e
            split at e
            · rename_i c2 e2
              obtain ⟨bs, e3, e4⟩ := (ih r c2).1 e2
              cases e
              exact ⟨b :: bs, by rw [e3, List.map_cons], by rw [e4, List.all_cons]; rfl⟩
            · cases e
          · unfold anyB at e
            split at e
            · rename_i c2 e2
              obtain ⟨bs, e3, e4⟩ := (ih r c2).2 e2
              cases e
              exact ⟨b :: bs, by rw [e3, List.map_cons], by rw [e4, List.any_cons]; rfl⟩
            · cases e
        | _ => exact ⟨fun e => (by cases e), fun e => (by cases e)⟩
  exact key r c
theorem ints_of : ∀ {vs : List V} {ds : List D} {ns : List Int}, Reps K w as F H vs ds → intL ds = some ns → vs = ns.map V.int ∧ ds = ns.map D.int
  | _, [], _, .nil, e => by cases e; exact ⟨rfl, rfl⟩
  | _, d :: ds, ns, .cons h r, e => by
    cases h with
    | int i =>
      obtain ⟨ms, e1, e2⟩ := om (show (intL ds).map (i :: ·) = some ns from e)
      obtain ⟨e3, e4⟩ := ints_of r e1
      subst e2 e3 e4
      exact ⟨rfl, rfl⟩
    | _ => cases e
theorem strs_of : ∀ {vs : List V} {ds : List D} {ns : List Str}, Reps K w as F H vs ds → strL ds = some ns → vs = ns.map V.str ∧ ds = ns.map D.str
  | _, [], _, .nil, e => by cases e; exact ⟨rfl, rfl⟩
  | _, d :: ds, ns, .cons h r, e => by
    cases h with
    | str i =>
      obtain ⟨ms, e1, e2⟩ := om (show (strL ds).map (i :: ·) = some ns from e)
      obtain ⟨e3, e4⟩ := strs_of r e1
      subst e2 e3 e4
      exact ⟨rfl, rfl⟩
    | _ => cases e
end
end Z
end
section
set_option Elab.async false
set_option linter.all false
set_option maxRecDepth 100000
set_option maxHeartbeats 1000000
set_option autoImplicit false
/-! sorted, the built-ins by name, methods. -/
namespace Z
open PySem PySem.Spec PyProof.Rows L2

section
variable {prog : Program} {w : World} {A : Around} {E : Value → Shared → Prop} {s : Shared}
open PySem.Calls PySem.W in
/-- a tuple's items in a list of their own -/
theorem coll_tup {l : Addr} {vs : List Value} {Q : List Value → Shared → Prop} (hl : IsTup s.heap l vs.toArray) (hz : vs.length ≤ sizeLine)
    (h : Q vs { s with heap := (s.heap.push (seqObj "list" #[] 0)).update s.heap.objs.size (Obj.mapSeq (· ++ vs.toArray)) }) : wpAny (model prog w) A (collect (.ref l)) Q E s := by
  obtain ⟨ot, hot, hcls, cap, hdat⟩ := id hl
  have old : (s.heap.push (seqObj "list" #[] 0)).get? l = some ot := Heap.get?_push_of_some _ hot
  unfold collect
  refine wpAny_bind (wpAny_runValue (codeAny_builtin
    entry_proto_collect' ?_))
  show wpAny _ _ (do
    again (.builtin "list.__iadd__" ⟨[← newList [], .ref l], []⟩)) _ _ s
  refine wpAny_bind (wpAny_newList (wpAny_pure ⟨Code.quiet_builtin _ (by decide +kernel),
    codeAny_builtin entry_list_iadd' ?_⟩))
  show wpAny _ _ (Builtin.List.listExtendWith (.ref s.heap.objs.size)
    (.ref l) (.ref s.heap.objs.size)) _ _ { s with heap := s.heap.push (seqObj "list" #[] 0) }
  unfold Builtin.List.listExtendWith
  refine wpAny_bind (wpAny_typeOf (T := "tuple") ⟨ot, old, hcls⟩ ?_)
  have tt : (Value.type "tuple" == Value.type "tuple") = true := by rfl
  rw [if_pos (by rw [tt, Bool.or_true])]
  refine wpAny_bind (listItems_at old hdat ?_)
  refine wpAny_bind (listItems_at (xs := #[]) (n := 0)
    (Heap.get?_push_size _ rfl) rfl ?_)
  rw [if_neg (by simp)]
  have few : (#[] ++ vs.toArray : Array Value).size ≤ sizeLine + 1 := by
    simp only [Array.size_append, List.size_toArray, List.length_nil]
    omega
  refine wpAny_bind (listUpdate_at (xs := #[]) (n := 0)
    (Heap.get?_push_size _ rfl) rfl ?_ (Nat.zero_le _) few)
  refine wpAny_pure ?_
  show wpAny (model prog w) A (do
      let ob ← load s.heap.objs.size
      match ob.data with
      | .seq ys _ => pure ys.toList
      | _ => unsupported "internal:collect") Q E _
  refine wpAny_bind (wpAny_load (get?_update_seq (Heap.get?_push_size _ rfl) _) ?_)
  show wpAny _ _ (pure ((#[] : Array Value) ++ vs.toArray).toList) Q E _
  have back : ((#[] : Array Value) ++ vs.toArray).toList = vs := by simp
  rw [back]
  exact wpAny_pure h
open PySem.Calls PySem.W in
/-- sorted(t[, reverse=b]) of a tuple: list.sort on a new list of its items -/
theorem srt_tup {l : Addr} {vs : List Value} {kw : List (Str × Value)} {Q : Value → Shared → Prop} (hl : IsTup s.heap l vs.toArray) (hz : vs.length ≤ sizeLine) (ha1 : argsOk "sorted" ⟨[.ref l], kw⟩) (ha2 : ∀ x, argsOk "list.sort" ⟨[.ref x], kw⟩)
    (body : ∀ E' : Value → Shared → Prop, wpAny (model prog w) A.in1.in1 (Builtin.«list.sort» ⟨[.ref (s.heap.objs.size + 1)], kw⟩) (fun f s' => f = .done (.ret .none) ∧ Q (.ref (s.heap.objs.size + 1)) s') E' { s with heap := copyHeap s.heap vs }) :
    wpAny (model prog w) A (call (.builtin "sorted") [.ref l] kw) Q E s := by
  refine call_function_entry_kw
    kind_sorted plain_sorted entry_sorted ha1 ?_
  unfold Builtin.«sorted»
  refine wpAny_bind (m := checkCount "sorted" 1 1 _)
    (wpAny_pure ?_)
  refine wpAny_bind (coll_tup hl hz ?_)
  refine wpAny_bind (wpAny_newList ?_ hz)
  have size1 : ((s.heap.push (seqObj "list" #[] 0)).update s.heap.objs.size (Obj.mapSeq (· ++ vs.toArray))).objs.size
      = s.heap.objs.size + 1 := by rw [Heap.size_update, size_push']
  show wpAny _ _ _ _ _ { s with heap := copyHeap s.heap vs }
  rw [size1]
  refine wpAny_bind (wpAny_holding (wpAny_call_entry_kw slot_list_sort
    ⟨_, copyHeap_at s.heap vs, rfl⟩ entry_list_sort ?body (ha2 _)))
  case body =>
    show wpAny (model prog w) A.in1.in1
      (Builtin.«list.sort» ⟨[.ref (s.heap.objs.size + 1)], kw⟩) _ _ _
    refine wpAny_mono (body _) (fun f s1 hf => ?_) fun _ _ e => e
    obtain ⟨rfl, hq⟩ := hf
    exact ⟨_, rfl, wpAny_pure
      ⟨_, rfl, hq⟩⟩
open PySem.W in
theorem srt_tup_data {β : Type} {bs : List β} {enc : β → PyData} {R : Value → β → Prop} {l : Addr} {vs : List Value} {Q : Value → Shared → Prop} (hl : IsTup s.heap l vs.toArray) (e : EachIs R vs bs) (er : EachIs (fun v b => ∃ as, Reads s.heap v (enc b) as) vs bs)
    (hal : AllAlike (bs.map enc)) (hk : Sortable (bs.map enc)) (hL : bs.length ≤ sizeLine) (hu : ∀ b, b ∈ bs → A.units + 2 + (enc b).depth < cLine)
    (h : ∀ out, out.length = bs.length → EachIs R out (bs.mergeSort (dataLe false enc)) → Q (.ref (s.heap.objs.size + 1)) { s with heap := sortedAll s.heap vs (List.toArray out) }) :
    wpAny (model prog w) A (call (.builtin "sorted") [.ref l]) Q E s := by
  have e2 : EachIs (fun v b => ∃ as, Reads (sortingHeap (copyHeap s.heap vs) (s.heap.objs.size + 1) vs) v (enc b) as) vs bs :=
    er.mono fun _ _ ⟨as, r⟩ => ⟨as, PyProof.Rows.Reads.keeps (fun _ _ => sorting_copy_old) r⟩
  have hz : vs.length ≤ sizeLine := by
    rw [e.length]
    exact hL
  refine srt_tup hl hz (args_sorted1 _) (fun _ => args_list_sort _) fun _ => ?_
  refine list_sort_vals (κ := dataKind (sortingHeap (copyHeap s.heap vs) (s.heap.objs.size + 1) vs) (bs.map enc)) (s := { s with heap := copyHeap s.heap vs }) (copyHeap_at s.heap vs) ?_ hz ⟨rfl, ?_⟩
  · exact SortsAt.data (s := { s with heap := sortingHeap (copyHeap s.heap vs) (s.heap.objs.size + 1) vs })
      (each_map (R := fun v d => ∃ as, Reads (sortingHeap (copyHeap s.heap vs) (s.heap.objs.size + 1) vs) v d as) enc e2) hal hk (bound_map hu)
  · refine h _ ?_ (sortVals_data false e e2 hal)
    rw [sortVals_length false rfl]
    exact e.length
end

variable {K : PySem.W.Frag} {w : World} {as as' as'' F : List Addr} {H H₀ H' H'' : Hp} {M M' : Mem} {v : V} {vs : List V} {d : D} {ds : List D} {σ : L2.St} {env : Z.Env}
section
variable {X : Cx} {pins : List (Addr × Obj)} {s : Shared} {x y : V} {u t : Value} {Q : VK} {a b : D} {c : Bool}
open PySem.W in
theorem each_of {us : List Value} : ∀ {vs : List V} {us : List Value} {ds : List D}, Vals vs us → Reps K w as F H vs ds → EachIs (fun u d => ∃ v, RelV v u ∧ Rep K w as F H v d) us ds
  | _, _, _, .nil, .nil => .nil
  | _, _, _, .cons r t, .cons h q => .cons ⟨_, r, h⟩ (each_of (us := us) t q)
open PySem.W in
theorem of_each : ∀ {us : List Value} {ds : List D}, EachIs (fun u d => ∃ v, RelV v u ∧ Rep K w as F H v d) us ds → ∃ vs, Vals vs us ∧ Reps K w as F H vs ds
  | _, _, .nil => ⟨[], .nil, .nil⟩
  | _, _, .cons ⟨v, r, h⟩ t => by
    obtain ⟨vs, r1, r2⟩ := of_each t
    exact ⟨v :: vs, .cons r r1, .cons h r2⟩
theorem plains_mem {ds : List D} (h : D.plains ds = true) : ∀ d ∈ ds, d.plain = true := by
  induction ds with
  | nil => intro d hd; cases hd
  | cons e r ih =>
    have h2 := band (show (D.plain e && D.plains r) = true from h)
    intro d hd
    rcases List.mem_cons.mp hd with q | q
    · rw [q]; exact h2.1
    · exact ih h2.2 d q
open PySem.W in
theorem each_reads (I : Inv X pins σ H s) : ∀ {vs : List V} {us : List Value} {ds : List D}, D.plains ds = true → Vals vs us → Reps X.K X.w as F H vs ds → EachIs (fun u d => ∃ as, Reads s.heap u (D.py d) as) us ds
  | _, _, _, _, .nil, .nil => .nil
  | _, _, _, hp, .cons r1 r2, .cons h t => .cons (Dp.reads I _ _ _ (h.dp (band (show (D.plain _ && D.plains _) = true from hp)).1) r1) (each_reads I (band (show (D.plain _ && D.plains _) = true from hp)).2 r2 t)
theorem sortable_py {ds : List D} (h : sortable ds = true) : PySem.W.Sortable (ds.map D.py) := by
  rcases Bool.or_eq_true_iff.mp h with h | h
  · refine .inl fun p hp => ?_
    obtain ⟨d, hd, rfl⟩ := List.mem_map.mp hp
    have q := List.all_eq_true.mp h d hd
    cases d with
    | tup es =>
      cases es with
      | nil => cases q
      | cons e r => exact ⟨_, _, rfl⟩
    | _ => cases q
  · refine .inr fun p hp => ?_
    obtain ⟨d, hd, rfl⟩ := List.mem_map.mp hp
    have q := List.all_eq_true.mp h d hd
    cases d with
    | int i => exact ⟨(fun z => nomatch z), fun _ z => nomatch z⟩
    | bl i => exact ⟨(fun z => nomatch z), fun _ z => nomatch z⟩
    | str i => exact ⟨(fun z => nomatch z), fun _ z => nomatch z⟩
    | tl i => exact ⟨(fun z => nomatch z), fun _ z => nomatch z⟩
    | _ => cases q
theorem alikes_py {ds : List D} (h : alikes ds = true) : PySem.W.AllAlike (ds.map D.py) := by
  intro p hp q hq
  obtain ⟨d, hd, rfl⟩ := List.mem_map.mp hp
  obtain ⟨e, he, rfl⟩ := List.mem_map.mp hq
  exact List.all_eq_true.mp (List.all_eq_true.mp h d hd) e he
theorem sorted_ok {rev : Bool} {es : List D} (hu : X.A.units + 70 < cLine) (I : Inv X pins σ H s) (rx : RelV x u) (hM : RelH X.K X.w as F H M) (hx : RepW X.K X.w as F H x a)
    (e1 : seqOf a M = some ds) (e2 : sortD rev ds = some es) (hr : rev = true → ∃ zs, lstOf a M = some zs) (q : Goal X as F H M (.fl es) Q) :
    wpAny (model X.prog X.w) X.A (call (.builtin "sorted") [u] (if rev = true then [(Str.ofString "reverse", .bool true)] else [])) (EP X pins σ Q) X.xe s := by
  obtain ⟨h1, e3⟩ := oi e2
  cases e3
  have h2 := band h1
  have h3 := band h2.2
  have h4 := band h3.2
  have room : ∀ b, b ∈ ds → X.A.units + 2 + (D.py b).depth < cLine := fun b hb => by
    have z := of_decide_eq_true (List.all_eq_true.mp h4.2 b hb)
    omega
  have fin : ∀ {its : List Value}, ∀ out : List Value, out.length = ds.length → PySem.W.EachIs (fun u d => ∃ v, RelV v u ∧ Rep X.K X.w as F H v d) out (ds.mergeSort (PySem.W.dataLe rev D.py)) → ds.length ≤ sizeLine →
      EP X pins σ Q (.ref (s.heap.objs.size + 1)) { s with heap := sortedAll s.heap its out.toArray } := fun {its} out hl he hz => by
    obtain ⟨ws, r1, r2⟩ := of_each he
    obtain ⟨ep, at1⟩ := PyProof.Rows.sortedAll_at s.heap its out.toArray
    have len : ws.length ≤ sizeLine := by
      rw [r1.length, hl]
      exact hz
    have fresh : H (s.heap.objs.size + 1) = none := I.hok.fresh (Nat.le_succ _)
    exact ⟨.ref _, upd H (s.heap.objs.size + 1) (.lst ws), I.laid (t' := s.toks) (fun _ _ => PyProof.Rows.sortedAll_old) (Nat.le_succ _) ⟨len, out, ep, r1, at1⟩, rfl, q.list hM fresh r2⟩
  obtain ⟨l, ws, rfl, hl, r⟩ := seqOf_ok hM hx e1
  cases (show u = Value.ref l from rx)
  have hz : ds.length ≤ sizeLine := by
    rw [← r.length]
    exact seq_len I hl
  rcases hl with hl | hl
  · obtain ⟨its, rv, pl, _⟩ := I.list hl
    cases rev with
    | false => exact PySem.W.sorted_data (enc := D.py) pl.isList (each_of (us := its) rv r) (each_reads I h2.1 rv r) (alikes_py h3.1) (sortable_py h4.1) hz room fun out ho he => fin out ho he hz
    | true => exact PySem.W.sorted_rev_data (b := true) (enc := D.py) pl.isList (each_of (us := its) rv r) (each_reads I h2.1 rv r) (alikes_py h3.1) (sortable_py h4.1) hz room fun out ho he => fin out ho he hz
  · cases rev with
    | false =>
      obtain ⟨its, rv, pl, _⟩ := I.tuple hl
      exact srt_tup_data (enc := D.py) pl (each_of (us := its) rv r) (each_reads I h2.1 rv r) (alikes_py h3.1) (sortable_py h4.1) hz room fun out ho he => fin out ho he hz
    | true =>
      obtain ⟨zs, e4⟩ := hr rfl
      obtain ⟨l2, ws2, e5, hl2, _⟩ := lstOf_ok hM hx e4
      cases e5
      obtain ⟨_, _, ⟨o1, q1, q2, _⟩, _⟩ := I.tuple hl
      obtain ⟨_, _, _, _, _, q3⟩ := I.lstM hl2
      rw [q1] at q3
      cases q3
      exact absurd (show Value.type "list" = Value.type "tuple" from q2) (by decide +kernel)
end
end Z
end
section
set_option Elab.async false
set_option linter.all false
set_option maxRecDepth 100000
set_option maxHeartbeats 1000000
set_option autoImplicit false
/-! The built-ins by name, methods. -/
namespace Z
open PySem PySem.Spec PyProof.Rows L2
variable {K : PySem.W.Frag} {w : World} {as as' as'' F : List Addr} {H H₀ H' H'' : Hp} {M M' : Mem} {v : V} {vs : List V} {d : D} {ds : List D} {σ : L2.St} {env : Z.Env}
section
variable {X : Cx} {pins : List (Addr × Obj)} {s : Shared} {x y : V} {u t : Value} {us : List Value} {Q : VK} {a b : D} {c : Bool}

/-- arguments, as they may be used -/
inductive RepWs (K : PySem.W.Frag) (w : World) (as F : List Addr) (H : Hp) : List V → List D → Prop
  | nil : RepWs K w as F H [] []
  | cons {v : V} {vs : List V} {d : D} {ds : List D} : RepW K w as F H v d → RepWs K w as F H vs ds → RepWs K w as F H (v :: vs) (d :: ds)
def biV : Bi → Value
  | .len => .builtin "len" | .all => .builtin "all" | .any => .builtin "any" | .sorted => .builtin "sorted" | .sortedR => .builtin "sorted" | .tuple => .type "tuple" | .list => .type "list" | .set => .type "set"
  | .sum => .builtin "sum" | .min => .builtin "min" | .max => .builtin "max" | .int => .type "int" | .str => .type "str" | .range => .type "range" | .abs => .builtin "abs"
theorem dedupI_mem (k : Int) : ∀ ns : List Int, k ∈ dedupI ns ↔ k ∈ ns
  | [] => Iff.rfl
  | i :: r => by
    rw [dedupI, List.mem_cons, List.mem_cons, List.mem_filter, dedupI_mem k r]
    by_cases h : k = i
    · simp [h]
    · simp [h]
theorem dedupI_nodup : ∀ ns : List Int, (dedupI ns).Nodup
  | [] => by simp [dedupI]
  | i :: r => by
    rw [dedupI, List.nodup_cons]
    refine ⟨fun h => ?_, (dedupI_nodup r).filter _⟩
    have := (List.mem_filter.mp h).2
    simp at this
theorem dedupI_le : ∀ ns : List Int, (dedupI ns).length ≤ ns.length
  | [] => Nat.le_refl _
  | i :: r => by
    rw [dedupI, List.length_cons, List.length_cons]
    have h1 := List.length_filter_le (fun x => x != i) (dedupI r)
    have h2 := dedupI_le r
    omega
theorem nodup_le {α : Type} [DecidableEq α] : ∀ (l m : List α), l.Nodup → (∀ x ∈ l, x ∈ m) → l.length ≤ m.length
  | [], _, _, _ => Nat.zero_le _
  | x :: l, m, n, h => by
    have n2 := List.nodup_cons.mp n
    have hx := h x List.mem_cons_self
    have ih := nodup_le l (m.erase x) n2.2 fun y hy => by
      have ne : y ≠ x := fun z => n2.1 (by rw [← z]; exact hy)
      exact (List.mem_erase_of_ne ne).mpr (h y (List.mem_cons_of_mem _ hy))
    rw [List.length_erase_of_mem hx] at ih
    have pos : 0 < m.length := List.length_pos_of_mem hx
    rw [List.length_cons]
    omega
theorem setR_len {h : Heap} {p : Addr} {ns : List Int} {n : Nat} (r : SetR w h p (fun j => decide (j ∈ ns)) n) (nd : ns.Nodup) : n = ns.length := by
  obtain ⟨o, es, ep, tb, _, _, _, _, nk, iff, _, _, sz, _⟩ := r
  have l1 : (es.toList.map keyOf).length ≤ ns.length := nodup_le _ _ nk fun k hk => by
    have := (iff k).mpr hk
    simpa using this
  have l2 : ns.length ≤ (es.toList.map keyOf).length := nodup_le _ _ nd fun k hk => (iff k).mp (by simpa using hk)
  have e : (es.toList.map keyOf).length = es.size := by simp
  omega
theorem lenD_ok {n : Nat} (I : Inv X pins σ H s) (rx : RelV x u) (hM : RelH X.K X.w as F H M) (hx : RepW X.K X.w as F H x a) (e : lenD a M = some n) (q : Q (.int n) H) :
    wpAny (model X.prog X.w) X.A (call (.builtin "len") [u]) (EP X pins σ Q) X.xe s := by
  unfold lenD at e
  split at e
  · rename_i z
    obtain ⟨h1, e1⟩ := op e
    cases e1
    cases hx with
    | val hx =>
      cases hx
      exact call_len pins s σ H [.str z] [u] Q I (.cons rx .nil) ⟨_, _, rfl, ⟨by rw [← lim]; exact h1, rfl⟩, q⟩
  · cases hx with
    | val hx => cases hx
    | @st p ns h n1 f nd =>
      cases e
      cases (show u = Value.ref p from rx)
      have R := setO_get I h
      obtain ⟨o, es, ep, tb, g1, g2, g3, _, _, _, g4, g5, sz, _⟩ := R
      refine call_len_set g1 g2 g3 g5 (by unfold scanBound at g4; omega) ⟨.int _, H, I.tok _, ⟨_, by rw [sz]⟩, ?_⟩
      rw [List.length_map] at q
      exact q
  · obtain ⟨zs, e1, e2⟩ := om e
    subst e2
    obtain ⟨l, ws, rfl, hl, r⟩ := seqOf_ok hM hx e1
    refine call_len pins s σ H [.ref l] [u] Q I (.cons rx .nil) ⟨_, _, rfl, ?_, q⟩
    rcases hl with hl | hl
    · exact .inl ⟨ws, hl, r.length.symm⟩
    · exact .inr ⟨ws, hl, r.length.symm⟩
theorem set_ok {ns : List Int} (hc : X.calm = true) (I : Inv X pins σ H s) (rx : RelV x u) (hM : RelH X.K X.w as F H M) (hx : RepW X.K X.w as F H x (.tup ds)) (hz : ds.length ≤ 4000) (e : intL ds = some ns) (q : Goal X as F H M (.st ((dedupI ns).map .int)) Q) :
    wpAny (model X.prog X.w) X.A (call (.type "set") [u]) (EP X pins σ Q) X.xe s := by
  cases hx with
  | val hx =>
    cases hx with
    | @tup l ws _ hl r =>
      cases (show u = Value.ref l from rx)
      obtain ⟨e1, e2⟩ := ints_of r e
      subst e1 e2
      obtain ⟨its, rv, pt, _⟩ := I.tuple hl
      rw [List.length_map] at hz
      refine call_set_tupI ns (I.ok.hd hc) pt (by simpa using intsAre_of rv) (by unfold scanBound; omega) fun h' tk c R hcle k => ?_
      have fresh : H s.heap.objs.size = none := I.hok.fresh (Nat.le_refl _)
      have R2 : SetR X.w h' s.heap.objs.size (fun j => decide (j ∈ dedupI ns)) (dedupI ns).length := by
        have ef : (fun j => decide (j ∈ dedupI ns)) = fun j => decide (j ∈ ns) := funext fun j => by simp [dedupI_mem]
        have R3 : SetR X.w h' s.heap.objs.size (fun j => decide (j ∈ dedupI ns)) c := by
          rw [ef]
          exact R
        have ec := setR_len R3 (dedupI_nodup ns)
        rw [← ec]
        exact R3
      refine ⟨.ref _, upd H s.heap.objs.size (SetO X.w s.heap.objs.size (fun j => decide (j ∈ dedupI ns)) (dedupI ns).length), I.laid k (Nat.le_refl _) (setO_new R2), rfl, q _ _ (.upd hM fresh) (hM.laid0 fresh) ?_⟩
      exact .st fresh upd_same (nin_new hM fresh) (dedupI_nodup ns)
theorem bi_ok {bi : Bi} {xs : List V} {as_ : List D} (hn : bi ≠ .sortedR) (hr : bi ≠ .range) (hc : biHot bi = true ∨ X.calm = true) (hu : X.A.units + 70 < cLine) (I : Inv X pins σ H s) (rx : Vals xs us) (hM : RelH X.K X.w as F H M) (hx : RepWs X.K X.w as F H xs as_)
    (e : biD bi as_ M = some d) (q : Goal X as F H M d Q) : wpAny (model X.prog X.w) X.A (call (biV bi) us) (EP X pins σ Q) X.xe s := by
  have calm : biHot bi = false → X.calm = true := fun z => by
    rcases hc with h | h
    · rw [z] at h
      cases h
    · exact h
  unfold biD at e
  split at e
  · -- len
    split at e
    · rename_i n e1
      cases e
      cases hx with
      | cons h0 t =>
        cases t
        obtain ⟨u1, rfl, r1⟩ := rx.one
        exact lenD_ok I r1 hM h0 e1 (q.same hM (.int _))
    · cases e
  · -- all
    obtain ⟨zs, e1, e2⟩ := ob e
    obtain ⟨g, e3, e4⟩ := om e2
    subst e4
    cases hx with
    | cons h0 t =>
      cases t
      obtain ⟨l, ws, rfl, hl, r⟩ := lstOf_ok hM h0 e1
      obtain ⟨bs, e5, e6⟩ := (bls_of r).1 e3
      subst e5
      exact cr_all (calm rfl) pins s σ H _ us Q I rx ⟨l, bs, rfl, .inl (.inl hl), by rw [← e6]; exact q.same hM (.bl _)⟩
  · -- any
    obtain ⟨zs, e1, e2⟩ := ob e
    obtain ⟨g, e3, e4⟩ := om e2
    subst e4
    cases hx with
    | cons h0 t =>
      cases t
      obtain ⟨l, ws, rfl, hl, r⟩ := lstOf_ok hM h0 e1
      obtain ⟨bs, e5, e6⟩ := (bls_of r).2 e3
      subst e5
      exact cr_any (calm rfl) pins s σ H _ us Q I rx ⟨l, bs, rfl, .inl (.inl hl), by rw [← e6]; exact q.same hM (.bl _)⟩
  · -- sorted
    obtain ⟨zs, e1, e2⟩ := ob e
    obtain ⟨es, e3, e4⟩ := om e2
    subst e4
    cases hx with
    | cons h0 t =>
      cases t
      obtain ⟨u1, rfl, r1⟩ := rx.one
      exact sorted_ok (rev := false) hu I r1 hM h0 e1 e3 (fun z => by cases z) q
  · exact absurd rfl hn
  · -- tuple
    obtain ⟨zs, e1, e2⟩ := om e
    subst e2
    cases hx with
    | cons h0 t =>
      cases t
      obtain ⟨l, ws, rfl, hl, r⟩ := seqOf_ok hM h0 e1
      refine call_tuple_of pins s σ H _ us Q I rx ⟨l, ws, rfl, ?_⟩
      rcases hl with hl | hl
      · exact .inl ⟨hl, fun p hp => q.tuple hM hp r⟩
      · exact .inr ⟨hl, q.same hM (.tup hl r)⟩
  · -- list
    obtain ⟨zs, e1, e2⟩ := om e
    subst e2
    cases hx with
    | cons h0 t =>
      cases t
      obtain ⟨l, ws, rfl, hl, r⟩ := seqOf_ok hM h0 e1
      exact call_list_of pins s σ H _ us Q I rx ⟨l, ws, rfl, hl, fun p hp => q.list hM hp r⟩
  · -- set
    obtain ⟨h1, e1⟩ := op e
    obtain ⟨ns, e2, e3⟩ := om e1
    subst e3
    cases hx with
    | cons h0 t =>
      cases t
      obtain ⟨u1, rfl, r1⟩ := rx.one
      exact set_ok (calm rfl) I r1 hM h0 h1 e2 q
  · -- min
    cases e
    cases hx with
    | cons h0 t =>
      cases t with
      | cons h1 t =>
        cases t
        cases h0 with
        | val h0 =>
          cases h0
          cases h1 with
          | val h1 =>
            cases h1
            exact call_min2 (calm rfl) pins s σ H _ us Q I rx ⟨_, _, rfl, q.same hM (.int _)⟩
  · -- max
    cases e
    cases hx with
    | cons h0 t =>
      cases t with
      | cons h1 t =>
        cases t
        cases h0 with
        | val h0 =>
          cases h0
          cases h1 with
          | val h1 =>
            cases h1
            exact call_max2 (calm rfl) pins s σ H _ us Q I rx ⟨_, _, rfl, q.same hM (.int _)⟩
  · -- int
    cases e
    cases hx with
    | cons h0 t =>
      cases t
      cases h0 with
      | val h0 =>
        cases h0
        exact call_int1 pins s σ H _ us Q I rx (.inl ⟨_, rfl, q.same hM (.int _)⟩)
  · cases e
    cases hx with
    | cons h0 t =>
      cases t
      cases h0 with
      | val h0 =>
        cases h0
        exact call_int1 pins s σ H _ us Q I rx (.inr ⟨_, rfl, q.same hM (.int _)⟩)
  · obtain ⟨h1, e1⟩ := op e
    obtain ⟨n, e2, e3⟩ := om e1
    subst e3
    cases hx with
    | cons h0 t =>
      cases t
      cases h0 with
      | val h0 =>
        cases h0
        exact call_int_str pins s σ H _ us Q I rx ⟨_, n, rfl, e2, h1, q.same hM (.int _)⟩
  · -- str
    obtain ⟨h1, e1⟩ := op e
    cases e1
    cases hx with
    | cons h0 t =>
      cases t
      cases h0 with
      | val h0 =>
        cases h0
        exact call_str_int pins s σ H _ us Q I rx ⟨_, rfl, h1, q.same hM (.str _)⟩
  · cases e
    cases hx with
    | cons h0 t =>
      cases t
      cases h0 with
      | val h0 =>
        cases h0
        obtain ⟨u1, rfl, tk, rfl⟩ := rx.one
        exact PySem.P.str_of_str ⟨.str _, H, I, ⟨_, rfl⟩, q.same hM (.str _)⟩
  · exact absurd rfl hr
  · cases e

/-! ### methods -/
def mtN : Mt → String
  | .append => "list.append" | .pop => "list.pop" | .extend => "list.extend" | .insert => "list.insert" | .reverse => "list.reverse" | .index => "list.index" | .count => "list.count"
  | .join => "str.join" | .strip => "str.strip" | .split => "str.split" | .startswith => "str.startswith"
def mtS : Mt → Str
  | .append => "append" | .pop => "pop" | .extend => "extend" | .insert => "insert" | .reverse => "reverse" | .index => "index" | .count => "count"
  | .join => "join" | .strip => "strip" | .split => "split" | .startswith => "startswith"
/-- the receiver's type -/
theorem mthT_ok {m : Mt} (hM : RelH K w as F H M) (hx : RepW K w as F H x a) (e : mthOk m a = true) : ∃ T : String, PlainAttrs T ∧ Slot T (mtS m) (mtN m) ∧ typeOf (.builtin (mtN m)) = pure (.type "method_descriptor") ∧ tyV K T x H := by
  have lstT : ∀ {r : Nat}, a = .ref r → tyV K "list" x H := fun {r} e1 => by
    subst e1
    cases hx with
    | val hx =>
      cases hx with
      | @ref _ l h =>
        obtain ⟨ws, h1⟩ := hM.there l (List.mem_of_getElem? h)
        exact .inl ⟨rfl, ws, .inl (.inl h1)⟩
  unfold mthOk at e
  split at e
  · exact ⟨"list", PySem.F.plainAttrs_list, PySem.F.slot_list_append, PySem.F.type_list_append, lstT rfl⟩
  · exact ⟨"list", PySem.F.plainAttrs_list, PySem.F.slot_list_pop, PySem.F.type_list_pop, lstT rfl⟩
  · exact ⟨"list", PySem.F.plainAttrs_list, PySem.F.slot_list_reverse, PySem.F.type_list_reverse, lstT rfl⟩
  · cases hx with
    | val hx =>
      cases hx
      exact ⟨"str", PySem.F.plainAttrs_str, PySem.F.slot_str_join, PySem.F.type_str_join, rfl⟩
  · cases e
/-- a method -/
theorem mth_ok {m : Mt} {xs : List V} {as_ : List D} (I : Inv X pins σ H s) (rx : RelV x u) (rs : Vals xs us) (hM : RelH X.K X.w as F H M) (hx : RepW X.K X.w as F H x a) (hs : RepWs X.K X.w as F H xs as_) (hp : ∀ d ∈ as_, argOk d = true)
    (e : mthD m a as_ M = some (d, M')) (q : ∀ (H' : Hp) (z : V), Later as H as H' → RelH X.K X.w as F H' M' → Rep X.K X.w as F H' z d → Q z H') :
    wpAny (model X.prog X.w) X.A (call (.builtin (mtN m)) (u :: us)) (EP X pins σ Q) X.xe s := by
  have obj : ∀ {r : Nat} {zs : List D}, a = .ref r → M[r]? = some (.lst zs) → ∃ l ws, x = .ref l ∧ as[r]? = some l ∧ H l = some (.lst ws) ∧ Reps X.K X.w as F H ws zs := fun {r zs} e1 e2 => by
    subst e1
    cases hx with
    | val hx =>
      cases hx with
      | @ref _ l h =>
        have z := hM.obj r l _ h e2
        cases z with
        | lst h1 r1 => exact ⟨l, _, rfl, h, h1, r1⟩
  unfold mthD at e
  split at e
  · -- append
    rename_i r d1
    split at e
    · rename_i zs e1
      obtain ⟨h1, e2⟩ := oi e
      cases e2
      obtain ⟨l, ws, rfl, ha, hl, r1⟩ := obj rfl e1
      cases hs with
      | cons h0 t =>
        rename_i v0 vs0
        cases t
        have hv : Rep X.K X.w as F H v0 d1 := by
          cases h0 with
          | val h => exact h
          | fl => exact absurd (hp _ List.mem_cons_self) (by simp [argOk, D.val])
          | st => exact absurd (hp _ List.mem_cons_self) (by simp [argOk, D.val])
        obtain ⟨L, hM2⟩ := hM.put ha (r1.append (.cons hv .nil))
        exact (mt_append pins s σ H _ _ u us Q I rx rs ⟨l, ws, v0, rfl, rfl, hl, by rw [r1.length, ← lim]; exact of_decide_eq_true h1, q _ _ L hM2 .non⟩)
    · cases e
  · -- pop
    rename_i r
    split at e
    · rename_i zs e1
      split at e
      · rename_i d1 e2
        cases e
        obtain ⟨l, ws, rfl, ha, hl, r1⟩ := obj rfl e1
        obtain ⟨L, hM2⟩ := hM.put ha r1.dropLast
        obtain ⟨v1, e3, h3⟩ := r1.get e2
        rw [← r1.length] at e3
        cases hs
        exact (mt_pop pins s σ H _ _ u us Q I rx rs ⟨l, ws, v1, rfl, rfl, hl, e3, q _ _ L hM2 (h3.later L)⟩)
      · cases e
    · cases e
  · -- pop at a place
    rename_i r i
    split at e
    · rename_i zs e1
      obtain ⟨h1, e⟩ := oi e
      split at e
      · rename_i k e2
        split at e
        · rename_i d1 e3
          cases e
          have h2 := band h1
          obtain ⟨l, ws, rfl, ha, hl, r1⟩ := obj rfl e1
          obtain ⟨L, hM2⟩ := hM.put ha (r1.eraseIdx k)
          obtain ⟨v1, e4, h4⟩ := r1.get e3
          rw [← r1.length] at e2
          cases hs with
          | cons h0 t =>
            cases t
            cases h0 with
            | val h0 =>
              cases h0
              exact (mt_popAt pins s σ H _ _ u us Q I rx rs ⟨l, ws, i, k, v1, rfl, rfl, hl, of_decide_eq_true h2.1, of_decide_eq_true h2.2, e2, e4, q _ _ L hM2 (h4.later L)⟩)
        · cases e
      · cases e
    · cases e
  · -- reverse
    rename_i r
    split at e
    · rename_i zs e1
      cases e
      obtain ⟨l, ws, rfl, ha, hl, r1⟩ := obj rfl e1
      obtain ⟨L, hM2⟩ := hM.put ha r1.reverse
      cases hs
      exact (mt_reverse pins s σ H _ _ u us Q I rx rs ⟨l, ws, rfl, rfl, hl, q _ _ L hM2 .non⟩)
    · cases e
  · -- join
    rename_i z d1
    split at e
    · rename_i zs e1
      split at e
      · rename_i ys e2
        obtain ⟨h1, e3⟩ := op e
        cases e3
        cases hx with
        | val hx =>
          cases hx
          cases hs with
          | cons h0 t =>
            cases t
            obtain ⟨l, ws, rfl, hl, r1⟩ := seqOf_ok hM h0 e1
            obtain ⟨e4, e5⟩ := strs_of r1 e2
            subst e4
            exact (mt_join pins s σ H _ _ u us Q I rx rs ⟨z, l, ys, rfl, rfl, hl, h1, q _ _ (.refl hM) hM (.str _)⟩)
      · cases e
    · cases e
  · cases e
end
end Z
end
section
set_option Elab.async false
set_option linter.all false
set_option maxRecDepth 100000
set_option maxHeartbeats 1000000
set_option autoImplicit false
/-! Readings by the evaluator; what a context must have. -/
namespace Z
open PySem PySem.Spec PyProof.Rows L2
variable {K : PySem.W.Frag} {w : World} {as as' as'' F : List Addr} {H H₀ H' H'' : Hp} {M M' : Mem} {v : V} {vs : List V} {d : D} {ds : List D} {σ : L2.St} {env : Z.Env}

/-- an exception that was raised: its class, its own dict -/
inductive XRep (K : PySem.W.Frag) (w : World) (mg : Str → Option Value) (as F : List Addr) (H : Hp) (cls : Value) (dx : Option Addr) (c : Str) (p : List (Str × D)) : Prop
  | mk {C d : Addr} {fs : List (Str × V)} : cls = .ref C → dx = some d → mg c = some (.ref C) → H d = some (.xd fs) → fs.map (·.1) = p.map (·.1) → Reps K w as F H (fs.map (·.2)) (p.map (·.2)) → XRep K w mg as F H cls dx c p

section
variable (X : Cx)
/-- what is wanted of an answer of the evaluator: a value's, an exception's -/
def PO (as F : List Addr) (H : Hp) (r : Rs D) (Q : VK) : Prop :=
  ∀ (d : D) (M' : Mem), r = .ok d M' → ∀ (as' : List Addr) (H' : Hp) (v : V), Later as H as' H' → RelH X.K X.w as' F H' M' → RepR X.K X.w as' F H H' M' v d → Q v H'
def PX {α : Type} (W : WX) (as F : List Addr) (H : Hp) (σ : L2.St) (r : Rs α) : Prop :=
  ∀ (c : Str) (p : List (Str × D)) (M' : Mem), r = .exc c p M' → ∀ (as' : List Addr) (H' : Hp) (cls : Value) (dx : Option Addr), Later as H as' H' → RelH X.K X.w as' F H' M' → XRep X.K X.w X.mg as' F H' cls dx c p → W cls dx σ H'
def PB (as F : List Addr) (H : Hp) (r : Rs Bool) (Q : Bool → Hp → Prop) : Prop :=
  ∀ (b : Bool) (M' : Mem), r = .ok b M' → ∀ (as' : List Addr) (H' : Hp), Later as H as' H' → RelH X.K X.w as' F H' M' → Q b H'
def PA_ (as F : List Addr) (H : Hp) (r : Rs (List D)) (Q : List V → Hp → Prop) : Prop :=
  ∀ (ds : List D) (M' : Mem), r = .ok ds M' → ∀ (as' : List Addr) (H' : Hp) (vs : List V), Later as H as' H' → RelH X.K X.w as' F H' M' → RepWs X.K X.w as' F H' vs ds → Q vs H'
def tE (g : G) (W : WX) (e : E) : TE := fun σ H Q => ∃ as F M env r, RelE X.K X.w as F H σ env ∧ RelH X.K X.w as F H M ∧ exE g e env M = some r ∧ PO X as F H r Q ∧ PX X W as F H σ r
def tB_ (g : G) (W : WX) (e : E) : TT := fun σ H Q => ∃ as F M env r, RelE X.K X.w as F H σ env ∧ RelH X.K X.w as F H M ∧ exT g e env M = some r ∧ PB X as F H r Q ∧ PX X W as F H σ r
def tEs (g : G) (W : WX) (es : Es) : TA := fun σ H Q => ∃ as F M env r, RelE X.K X.w as F H σ env ∧ RelH X.K X.w as F H M ∧ exEs g es env M = some r ∧ PA_ X as F H r Q ∧ PX X W as F H σ r
end
section
variable {X : Cx} {g : G} {W : WX} {α β : Type} {r : Rs α} {Q : VK}
theorem PX.later (h : PX X W as F H σ r) (L : Later as H as' H') : PX X W as' F H' σ r := fun c p M' e as2 H2 cls dx L2 hM hx => h c p M' e as2 H2 cls dx (L.trans L2) hM hx
theorem PO.later {r : Rs D} (h : PO X as F H r Q) (L : Later as H as' H') : PO X as' F H' r Q := fun d M' e as2 H2 v L2 hM hr => h d M' e as2 H2 v (L.trans L2) hM (hr.back L L2.sub)
theorem PB.later {r : Rs Bool} {Q : Bool → Hp → Prop} (h : PB X as F H r Q) (L : Later as H as' H') : PB X as' F H' r Q := fun d M' e as2 H2 L2 hM => h d M' e as2 H2 (L.trans L2) hM
theorem PA_.later {r : Rs (List D)} {Q : List V → Hp → Prop} (h : PA_ X as F H r Q) (L : Later as H as' H') : PA_ X as' F H' r Q := fun d M' e as2 H2 vs L2 hM hr => h d M' e as2 H2 vs (L.trans L2) hM hr
theorem PO.goal (h : PO X as F H (.ok d M) Q) : Goal X as F H M d Q := fun H' z L hM r => h d M rfl as H' z L hM r
theorem PO.same (h : PO X as F H (.ok d M) Q) (hM : RelH X.K X.w as F H M) (r : Rep X.K X.w as F H v d) : Q v H := h d M rfl as H v (.refl hM) hM (.val r)
/-- the evaluator's steps, one after the other -/
theorem rb {x : Z.R α} {f : α → Mem → Z.R β} {r : Rs β} (e : x.bind f = some r) : (∃ a M', x = some (.ok a M') ∧ f a M' = some r) ∨ ∃ c p M', x = some (.exc c p M') ∧ r = .exc c p M' := by
  unfold R.bind at e
  split at e
  · cases e
  · cases e
    exact .inr ⟨_, _, _, rfl, rfl⟩
  · exact .inl ⟨_, _, rfl, e⟩
theorem tE_bind {e : E} {f : D → Mem → Z.R β} {r : Rs β} (hE : RelE X.K X.w as F H σ env) (hM : RelH X.K X.w as F H M) (ex : (exE g e env M).bind f = some r) (px : PX X W as F H σ r)
    (ho : ∀ d M' as' H' v, Later as H as' H' → RelH X.K X.w as' F H' M' → RepR X.K X.w as' F H H' M' v d → f d M' = some r → Q v H') : tE X g W e σ H Q := by
  rcases rb ex with ⟨d, M', e1, e2⟩ | ⟨c, p, M', e1, e2⟩
  · refine ⟨as, F, M, env, _, hE, hM, e1, fun d2 M2 q as' H' v L hM' hr => ?_, fun c p M2 q => (by cases q)⟩
    cases q
    exact ho d M' as' H' v L hM' hr e2
  · refine ⟨as, F, M, env, _, hE, hM, e1, fun d2 M2 q => (by cases q), fun c2 p2 M2 q as' H' cls dx L hM' hx => ?_⟩
    cases q
    exact px _ _ _ e2 as' H' cls dx L hM' hx
theorem tB_bind {e : E} {f : Bool → Mem → Z.R β} {r : Rs β} {Q : Bool → Hp → Prop} (hE : RelE X.K X.w as F H σ env) (hM : RelH X.K X.w as F H M) (ex : (exT g e env M).bind f = some r) (px : PX X W as F H σ r)
    (ho : ∀ d M' as' H', Later as H as' H' → RelH X.K X.w as' F H' M' → f d M' = some r → Q d H') : tB_ X g W e σ H Q := by
  rcases rb ex with ⟨d, M', e1, e2⟩ | ⟨c, p, M', e1, e2⟩
  · refine ⟨as, F, M, env, _, hE, hM, e1, fun d2 M2 q as' H' L hM' => ?_, fun c p M2 q => (by cases q)⟩
    cases q
    exact ho d M' as' H' L hM' e2
  · refine ⟨as, F, M, env, _, hE, hM, e1, fun d2 M2 q => (by cases q), fun c2 p2 M2 q as' H' cls dx L hM' hx => ?_⟩
    cases q
    exact px _ _ _ e2 as' H' cls dx L hM' hx
theorem tEs_bind {e : Es} {f : List D → Mem → Z.R β} {r : Rs β} {Q : List V → Hp → Prop} (hE : RelE X.K X.w as F H σ env) (hM : RelH X.K X.w as F H M) (ex : (exEs g e env M).bind f = some r) (px : PX X W as F H σ r)
    (ho : ∀ d M' as' H' vs, Later as H as' H' → RelH X.K X.w as' F H' M' → RepWs X.K X.w as' F H' vs d → f d M' = some r → Q vs H') : tEs X g W e σ H Q := by
  rcases rb ex with ⟨d, M', e1, e2⟩ | ⟨c, p, M', e1, e2⟩
  · refine ⟨as, F, M, env, _, hE, hM, e1, fun d2 M2 q as' H' vs L hM' hr => ?_, fun c p M2 q => (by cases q)⟩
    cases q
    exact ho d M' as' H' vs L hM' hr e2
  · refine ⟨as, F, M, env, _, hE, hM, e1, fun d2 M2 q => (by cases q), fun c2 p2 M2 q as' H' cls dx L hM' hx => ?_⟩
    cases q
    exact px _ _ _ e2 as' H' cls dx L hM' hx
theorem lift1_ok {x : Option D} {r : Rs D} (e : lift1 x M = some r) : ∃ d, x = some d ∧ r = .ok d M := by
  unfold lift1 at e
  split at e
  · cases e
    exact ⟨_, rfl, rfl⟩
  · cases e
theorem liftB_ok {x : Option Bool} {r : Rs D} (e : liftB x M = some r) : ∃ b, x = some b ∧ r = .ok (.bl b) M := by
  unfold liftB at e
  split at e
  · cases e
    exact ⟨_, rfl, rfl⟩
  · cases e
end

/-! ### a def's promise -/
/-- F: the evaluator's answer of a call -/
def spR (K : PySem.W.Frag) (w : World) (mg : Str → Option Value) (Fn_ : Fn) (f : Str) (n : Nat) : Sp := fun vs H Q E => vs.length = n ∧ ∃ as F M ds r, RelH K w as F H M ∧ Reps K w as F H vs ds ∧ Fn_ f ds M = some r ∧
  (∀ (d : D) (M' : Mem), r = .ok d M' → ∀ (as' : List Addr) (H' : Hp) (v : V), Later as H as' H' → RelH K w as' F H' M' → RepR K w as' F H H' M' v d → Q v H') ∧
  (∀ (c : Str) (p : List (Str × D)) (M' : Mem), r = .exc c p M' → ∀ (as' : List Addr) (H' : Hp) (cls : Value) (dx : Option Addr), Later as H as' H' → RelH K w as' F H' M' → XRep K w mg as' F H' cls dx c p → E cls dx H')

/-- the module's names are what the table says -/
structure Gls (K : PySem.W.Frag) (w : World) (mg : Str → Option Value) (gl : List (Str × GK)) : Prop where
  con : ∀ (x : Str) (d : D), gl.lookup x = some (.con d) → ∃ (u : Value) (v : V), mg x = some u ∧ RelV v u ∧ ∀ (as F : List Addr) (H : Hp), Rep K w as F H v d
  free : ∀ x : Str, x ∈ biNames → gl.lookup x = none → mg x = none
/-- what a context must have -/
structure OkC (X : Cx) (c : Ctx) (g : G) (W : WX) : Prop where
  N : X.N = c.N
  nd : X.N.Nodup
  sc : X.env.scope = c.sc
  st : ∀ x, mayStore c x = true → X.fn x = true ∨ X.env.scope.names.lookup x = some .local
  calm : g.calm = true → X.calm = true
  tk : Takes X W
  units : X.A.units + 70 < cLine
  gls : Gls X.K X.w X.mg c.gl
  fn : ∀ f : Str, c.gl.lookup f = some .fn → ∃ (a : Addr) (fd : FuncData) (ps : List Str) (k : Nat), X.mg f = some (.ref a) ∧ PySem.W.keepIn X.K (.ref a) = true ∧ Binds X.K fd ps [] ∧ Room k X.A ∧
    FnOk X.prog X.w X.K X.mg X.base (L2.CX X.prog X.w) k a fd ps (spR X.K X.w X.mg g.call f ps.length) ∧ ∀ (ds : List D) (M : Mem) (r : Rs D), g.call f ds M = some r → ds.length = ps.length
end Z
end
section
set_option Elab.async false
set_option linter.all false
set_option maxRecDepth 100000
set_option maxHeartbeats 1000000
set_option autoImplicit false
/-! Expressions, each kind by itself (but calls of own defs, comprehensions). -/
namespace Z
open PySem PySem.Spec PyProof.Rows L2
variable {K : PySem.W.Frag} {w : World} {as as' as'' F : List Addr} {H H₀ H' H'' : Hp} {M M' : Mem} {v : V} {vs : List V} {d : D} {ds : List D} {σ : L2.St} {env : Z.Env}
theorem RepWs.later (L : Later as H as' H') : ∀ {vs : List V} {ds : List D}, RepWs K w as F H vs ds → RepWs K w as' F H' vs ds
  | _, _, .nil => .nil
  | _, _, .cons h r => .cons (h.later L) (RepWs.later L r)
theorem RepWs.frz : ∀ {vs : List V} {ds es : List D}, RepWs K w as F H vs ds → frzs ds = some es → Reps K w as F H vs es
  | _, _, _, .nil, e => by
    cases e
    exact .nil
  | _, _, _, .cons h r, e => by
    unfold frzs at e
    split at e
    · rename_i e1 e2
      cases e
      exact .cons (h.frz e1) (RepWs.frz r e2)
    · cases e
theorem Reps.weaks : ∀ {vs : List V} {ds : List D}, Reps K w as F H vs ds → RepWs K w as F H vs ds
  | _, _, .nil => .nil
  | _, _, .cons h r => .cons (.val h) (Reps.weaks r)
section
variable {X : Cx} {g : G} {W : WX} {c : Ctx} {e a b : Expr} {ce ca cb : E} {t t' : TE} {pos : Pos}
theorem PE.imp (h : PE X e t) (f : ∀ σ H Q, t' σ H Q → t σ H Q) : PE X e t' := ⟨fun pins s σ H Q I q => h.run pins s σ H Q I (f σ H Q q)⟩
theorem PT.imp {t t' : TT} (h : PT X e t) (f : ∀ σ H Q, t' σ H Q → t σ H Q) : PT X e t' := ⟨fun pins s σ H Q I q => h.run pins s σ H Q I (f σ H Q q)⟩
theorem PW.imp {t t' : TT} (h : PW X e t) (f : ∀ σ H Q, t' σ H Q → t σ H Q) : PW X e t' := ⟨fun wh pins s σ H Q I q => h.run wh pins s σ H Q I (f σ H Q q)⟩
theorem PA.imp {es : List Expr} {t t' : TA} (h : PA X es t) (f : ∀ σ H Q, t' σ H Q → t σ H Q) : PA X es t' := ⟨fun pos pins s σ H Q I q => h.run pos pins s σ H Q I (f σ H Q q)⟩

theorem tE_mono {Q Q' : VK} {H : Hp} (h : tE X g W ce σ H Q) (f : ∀ v H', Q v H' → Q' v H') : tE X g W ce σ H Q' :=
  let ⟨as, F, M, env, r0, hE, hM, ex, po, px⟩ := h
  ⟨as, F, M, env, r0, hE, hM, ex, fun d M' e as' H' v L hM' hr => f _ _ (po d M' e as' H' v L hM' hr), px⟩
theorem tB_mono {Q Q' : Bool → Hp → Prop} {H : Hp} (h : tB_ X g W ce σ H Q) (f : ∀ v H', Q v H' → Q' v H') : tB_ X g W ce σ H Q' :=
  let ⟨as, F, M, env, r0, hE, hM, ex, po, px⟩ := h
  ⟨as, F, M, env, r0, hE, hM, ex, fun d M' e as' H' L hM' => f _ _ (po d M' e as' H' L hM'), px⟩

/-! ### two steps, one after the other -/
/-- behind two values -/
def Two (X : Cx) (W : WX) (σ : L2.St) (env : Z.Env) (k : D → D → Mem → Z.R D) (x y : V) (H2 : Hp) (Q : VK) : Prop :=
  ∃ as2 F M2 da db r, RelE X.K X.w as2 F H2 σ env ∧ RelH X.K X.w as2 F H2 M2 ∧ RepW X.K X.w as2 F H2 x da ∧ RepW X.K X.w as2 F H2 y db ∧ k da db M2 = some r ∧ PO X as2 F H2 r Q ∧ PX X W as2 F H2 σ r
theorem two {Q : VK} {r : Rs D} {k : D → D → Mem → Z.R D} (hE : RelE X.K X.w as F H σ env) (hM : RelH X.K X.w as F H M) (ex : ((exE g ca env M).bind fun x M => (exE g cb env M).bind fun y M => k x y M) = some r) (po : PO X as F H r Q) (px : PX X W as F H σ r) :
    tE X g W ca σ H fun x H1 => tE X g W cb σ H1 fun y H2 => Two X W σ env k x y H2 Q := by
  refine tE_bind hE hM ex px fun da M1 as1 H1 x L1 hM1 r1 e1 => ?_
  refine tE_bind (hE.later L1) hM1 e1 (px.later L1) fun db M2 as2 H2 y L2 hM2 r2 e2 => ?_
  exact ⟨as2, F, M2, da, db, r, (hE.later L1).later L2, hM2, (r1.weak hM.fex).later L2, r2.weak hM1.fex, e2, (po.later L1).later L2, (px.later L1).later L2⟩
theorem one {Q : VK} {r : Rs D} {k : D → Mem → Z.R D} (hE : RelE X.K X.w as F H σ env) (hM : RelH X.K X.w as F H M) (ex : ((exE g ca env M).bind k) = some r) (po : PO X as F H r Q) (px : PX X W as F H σ r) :
    tE X g W ca σ H fun x H1 => ∃ as1 M1 da, RelE X.K X.w as1 F H1 σ env ∧ RelH X.K X.w as1 F H1 M1 ∧ RepW X.K X.w as1 F H1 x da ∧ k da M1 = some r ∧ PO X as1 F H1 r Q ∧ PX X W as1 F H1 σ r := by
  refine tE_bind hE hM ex px fun da M1 as1 H1 x L1 hM1 r1 e1 => ?_
  exact ⟨as1, M1, da, hE.later L1, hM1, r1.weak hM.fex, e1, po.later L1, px.later L1⟩

/-! ### what is read at once -/
theorem s_c (h : PE X e (tC v)) (r : ∀ as F H, Rep X.K X.w as F H v d) : PE X e (tE X g W (.c d)) := PE.imp h fun σ H Q ⟨as, F, M, env, r0, hE, hM, ex, po, px⟩ => by
  unfold exE at ex
  cases ex
  exact po.same hM (r as F H)
theorem s_var {i : Nat} (h : PE X e (tVar i)) : PE X e (tE X g W (.var i)) := PE.imp h fun σ H Q ⟨as, F, M, env, r0, hE, hM, ex, po, px⟩ => by
  unfold exE at ex
  split at ex
  · rename_i d e1
    cases ex
    obtain ⟨v, e2, r⟩ := hE.at_ i d e1
    exact ⟨v, e2, po.same hM r⟩
  · cases ex
/-- a list that is made to change -/
theorem s_mat (h : PE X e (tE X g W ce)) : PE X e (tE X g W (.mat ce)) := PE.imp h fun σ H Q ⟨as, F, M, env, r0, hE, hM, ex, po, px⟩ => by
  unfold exE at ex
  refine tE_bind hE hM ex px fun d M1 as1 H1 x L1 hM1 r1 e1 => ?_
  split at e1
  · rename_i ds
    cases e1
    cases r1 with
    | val r => cases r
    | fl h0 h1 na r2 hM2 =>
      obtain ⟨L2, hM3, r3⟩ := hM2.push h0 h1 na r2 L1
      exact po _ _ rfl _ _ _ L2 hM3 (.val r3)
  · cases e1
/-- a test by a value's truth -/
def Plain (g : G) (ce : E) : Prop := ∀ env M, exT g ce env M = (exE g ce env M).bind fun x M => (truth x M).bind fun t => some (.ok t M)
theorem s_truth (h : PE X e (tE X g W ce)) (pl : Plain g ce) (he : ∀ whole, isTrue e X.env whole = (do let v ← whole; standAt e.pos; holding [v] (truthy v))) : PT X e (tB_ X g W ce) :=
  PT.imp (pt_truth h he) fun σ H Q ⟨as, F, M, env, r0, hE, hM, ex, po, px⟩ => by
    rw [pl] at ex
    refine tE_bind hE hM ex px fun d M1 as1 H1 x L1 hM1 r1 e1 => ?_
    obtain ⟨k, e2, e3⟩ := ob e1
    cases e3
    exact ⟨k, truth_ok hM1 (r1.weak hM.fex) e2, po _ _ rfl _ _ L1 hM1⟩
/-- no test of the evaluator's -/
theorem s_none (h : ∀ env M, exT g ce env M = none) : PT X e (tB_ X g W ce) := ⟨fun pins s σ H Q I ⟨as, F, M, env, r0, hE, hM, ex, po, px⟩ => by
  rw [h] at ex
  cases ex⟩

/-! ### operations -/
def rBin (X : Cx) (p : BOp) : R2 := fun x y H Q => ∃ as F M da db d, RelH X.K X.w as F H M ∧ RepW X.K X.w as F H x da ∧ RepW X.K X.w as F H y db ∧ binD p da db M = some d ∧ Goal X as F H M d Q
theorem op_bin {o : Operator} {p : BOp} (hc : cOp o = some p) : OpR X (binaryOp o) (rBin X p) := fun pins s σ H x y u t Q I rx ry ⟨as, F, M, da, db, d, hM, hx, hy, e, q⟩ => bin_ok I rx ry hM hx hy hc e q
theorem s_bin {o : Operator} {p : BOp} (hc : cOp o = some p) (ha : PE X a (tE X g W ca)) (hb : PE X b (tE X g W cb)) : PE X (.BinOp a o b pos) (tE X g W (.bin p ca cb)) :=
  PE.imp (pe_op (op_bin hc) ha hb) fun σ H Q ⟨as, F, M, env, r0, hE, hM, ex, po, px⟩ => by
    unfold exE at ex
    have h := two (Q := Q) hE hM ex po px
    refine tE_mono h fun x H1 h => tE_mono h fun y H2 ⟨as2, F, M2, da, db, r, hE2, hM2, hx, hy, e, po, px⟩ => ?_
    obtain ⟨d, e3, rfl⟩ := lift1_ok e
    exact ⟨as2, F, M2, da, db, d, hM2, hx, hy, e3, po.goal⟩

theorem s_neg (ha : PE X a (tE X g W ca)) : PE X (.UnaryOp .USub a pos) (tE X g W (.neg ca)) :=
  PE.imp (pe_un un_neg ha) fun σ H Q ⟨as, F, M, env, r0, hE, hM, ex, po, px⟩ => by
    unfold exE at ex
    refine tE_mono (one (Q := Q) hE hM ex po px) fun x H1 ⟨as1, M1, da, hE1, hM1, hx, e, po, px⟩ => ?_
    split at e
    · rename_i i
      cases e
      cases hx with
      | val hx =>
        cases hx
        exact ⟨i, rfl, po.goal.same hM1 (.int _)⟩
    · cases e
theorem s_not (ha : PE X a (tE X g W ca)) : PE X (.UnaryOp .Not a pos) (tE X g W (.not ca)) :=
  PE.imp (pe_notT ha) fun σ H Q ⟨as, F, M, env, r0, hE, hM, ex, po, px⟩ => by
    unfold exE at ex
    refine tE_mono (one (Q := Q) hE hM ex po px) fun x H1 ⟨as1, M1, da, hE1, hM1, hx, e, po, px⟩ => ?_
    obtain ⟨k, e2, e3⟩ := ob e
    cases e3
    exact ⟨k, truth_ok hM1 hx e2, po.goal.same hM1 (.bl _)⟩
theorem s_notT (ha : PT X a (tB_ X g W ca)) : PT X (.UnaryOp .Not a pos) (tB_ X g W (.not ca)) :=
  PT.imp (pt_not ha) fun σ H Q ⟨as, F, M, env, r0, hE, hM, ex, po, px⟩ => by
    unfold exT at ex
    refine tB_bind hE hM ex px fun k M1 as1 H1 L1 hM1 e1 => ?_
    cases e1
    exact po _ _ rfl _ _ L1 hM1
/-- a step that ends the reading -/
theorem tE_end {Q : VK} {r : Rs D} (hE : RelE X.K X.w as F H σ env) (hM : RelH X.K X.w as F H M) (ex : exE g ce env M = some r) (po : PO X as F H r Q) (px : PX X W as F H σ r) : tE X g W ce σ H Q := ⟨as, F, M, env, r, hE, hM, ex, po, px⟩
theorem tB_end {Q : Bool → Hp → Prop} {r : Rs Bool} (hE : RelE X.K X.w as F H σ env) (hM : RelH X.K X.w as F H M) (ex : exT g ce env M = some r) (po : PB X as F H r Q) (px : PX X W as F H σ r) : tB_ X g W ce σ H Q := ⟨as, F, M, env, r, hE, hM, ex, po, px⟩
theorem s_and {rest : List Expr} (ha : PE X a (tE X g W ca)) (hb : PE X (.BoolOp .And (b :: rest) pos) (tE X g W cb)) : PE X (.BoolOp .And (a :: b :: rest) pos) (tE X g W (.and ca cb)) :=
  PE.imp (pe_and ha hb) fun σ H Q ⟨as, F, M, env, r0, hE, hM, ex, po, px⟩ => by
    unfold exE at ex
    refine tE_mono (one (Q := Q) hE hM ex po px) fun x H1 ⟨as1, M1, da, hE1, hM1, hx, e, po, px⟩ => ?_
    split at e
    · cases hx with
      | val hx =>
        cases hx
        exact ⟨true, rfl, by rw [if_pos rfl]; exact tE_end hE1 hM1 e po px⟩
    · cases hx with
      | val hx =>
        cases hx
        cases e
        exact ⟨false, rfl, by rw [if_neg Bool.false_ne_true]; exact po.goal.same hM1 (.bl _)⟩
    · cases e
theorem s_or {rest : List Expr} (ha : PE X a (tE X g W ca)) (hb : PE X (.BoolOp .Or (b :: rest) pos) (tE X g W cb)) : PE X (.BoolOp .Or (a :: b :: rest) pos) (tE X g W (.or ca cb)) :=
  PE.imp (pe_or ha hb) fun σ H Q ⟨as, F, M, env, r0, hE, hM, ex, po, px⟩ => by
    unfold exE at ex
    refine tE_mono (one (Q := Q) hE hM ex po px) fun x H1 ⟨as1, M1, da, hE1, hM1, hx, e, po, px⟩ => ?_
    split at e
    · cases hx with
      | val hx =>
        cases hx
        cases e
        exact ⟨true, rfl, by rw [if_pos rfl]; exact po.goal.same hM1 (.bl _)⟩
    · cases hx with
      | val hx =>
        cases hx
        exact ⟨false, rfl, by rw [if_neg Bool.false_ne_true]; exact tE_end hE1 hM1 e po px⟩
    · cases e
theorem s_andT {rest : List Expr} (ha : PT X a (tB_ X g W ca)) (hb : PW X (.BoolOp .And (b :: rest) pos) (tB_ X g W cb)) : PW X (.BoolOp .And (a :: b :: rest) pos) (tB_ X g W (.and ca cb)) :=
  PW.imp (pw_and ha hb) fun σ H Q ⟨as, F, M, env, r0, hE, hM, ex, po, px⟩ => by
    unfold exT at ex
    refine tB_bind hE hM ex px fun k M1 as1 H1 L1 hM1 e1 => ?_
    cases k with
    | true =>
      rw [if_pos rfl] at e1 ⊢
      exact tB_end (hE.later L1) hM1 e1 (po.later L1) (px.later L1)
    | false =>
      rw [if_neg Bool.false_ne_true] at e1 ⊢
      cases e1
      exact po _ _ rfl _ _ L1 hM1
theorem s_orT {rest : List Expr} (ha : PT X a (tB_ X g W ca)) (hb : PW X (.BoolOp .Or (b :: rest) pos) (tB_ X g W cb)) : PW X (.BoolOp .Or (a :: b :: rest) pos) (tB_ X g W (.or ca cb)) :=
  PW.imp (pw_or ha hb) fun σ H Q ⟨as, F, M, env, r0, hE, hM, ex, po, px⟩ => by
    unfold exT at ex
    refine tB_bind hE hM ex px fun k M1 as1 H1 L1 hM1 e1 => ?_
    cases k with
    | true =>
      rw [if_pos rfl] at e1 ⊢
      cases e1
      exact po _ _ rfl _ _ L1 hM1
    | false =>
      rw [if_neg Bool.false_ne_true] at e1 ⊢
      exact tB_end (hE.later L1) hM1 e1 (po.later L1) (px.later L1)
theorem s_ite {t : Expr} {ct : E} (ht : PT X t (tB_ X g W ct)) (ha : PE X a (tE X g W ca)) (hb : PE X b (tE X g W cb)) : PE X (.IfExp t a b pos) (tE X g W (.ite ct ca cb)) :=
  PE.imp (pe_ifExp ht ha hb) fun σ H Q ⟨as, F, M, env, r0, hE, hM, ex, po, px⟩ => by
    unfold exE at ex
    refine tB_bind hE hM ex px fun k M1 as1 H1 L1 hM1 e1 => ?_
    cases k with
    | true =>
      rw [if_pos rfl] at e1 ⊢
      exact tE_end (hE.later L1) hM1 e1 (po.later L1) (px.later L1)
    | false =>
      rw [if_neg Bool.false_ne_true] at e1 ⊢
      exact tE_end (hE.later L1) hM1 e1 (po.later L1) (px.later L1)
theorem pt_ifExp {t : Expr} {tt ta tb : TT} (ht : PT X t tt) (ha : PT X a ta) (hb : PT X b tb) : PT X (.IfExp t a b pos) (fun σ H Q => tt σ H fun k H1 => if k = true then ta σ H1 Q else tb σ H1 Q) := by
  refine ⟨fun pins s σ H Q I h => ?_⟩
  refine isTrue_IfExp (thn (ht.run pins s σ H _ I h) fun k s1 ⟨H1, I1, q1⟩ => ?_)
  cases k with
  | true => exact ha.run pins s1 σ H1 Q I1 q1
  | false => exact hb.run pins s1 σ H1 Q I1 q1
theorem s_iteT {t : Expr} {ct : E} (ht : PT X t (tB_ X g W ct)) (ha : PT X a (tB_ X g W ca)) (hb : PT X b (tB_ X g W cb)) : PT X (.IfExp t a b pos) (tB_ X g W (.ite ct ca cb)) :=
  PT.imp (pt_ifExp ht ha hb) fun σ H Q ⟨as, F, M, env, r0, hE, hM, ex, po, px⟩ => by
    unfold exT at ex
    refine tB_bind hE hM ex px fun k M1 as1 H1 L1 hM1 e1 => ?_
    cases k with
    | true =>
      rw [if_pos rfl] at e1 ⊢
      exact tB_end (hE.later L1) hM1 e1 (po.later L1) (px.later L1)
    | false =>
      rw [if_neg Bool.false_ne_true] at e1 ⊢
      exact tB_end (hE.later L1) hM1 e1 (po.later L1) (px.later L1)

/-! ### comparisons -/
def rCmp (X : Cx) (p : COp) : R2 := fun x y H Q => ∃ as F M da db c, RelH X.K X.w as F H M ∧ RepW X.K X.w as F H x da ∧ RepW X.K X.w as F H y db ∧ cmpD p da db M = some c ∧ Q (.bl c) H
theorem op_cmp {o : CmpOp} (hu : X.A.units + 65 < cLine) : OpR X (compareOp o) (rCmp X (cCmp o)) := fun pins s σ H x y u t Q I rx ry ⟨as, F, M, da, db, c, hM, hx, hy, e, q⟩ => cmp_ok hu I rx ry hM hx hy e q
theorem s_cmp {o : CmpOp} (hu : X.A.units + 65 < cLine) (hm : behindInMarks o b = false) (ha : PE X a (tE X g W ca)) (hb : PE X b (tE X g W cb)) :
    PE X (.Compare a [o] [b] pos) (tE X g W (.cmp (cCmp o) ca cb)) ∧ PT X (.Compare a [o] [b] pos) (tB_ X g W (.cmp (cCmp o) ca cb)) := by
  refine ⟨PE.imp (pe_cmpR (op_cmp hu) ha hb hm) fun σ H Q ⟨as, F, M, env, r0, hE, hM, ex, po, px⟩ => ?_, PT.imp (pt_cmpR (op_cmp hu) ha hb hm) fun σ H Q ⟨as, F, M, env, r0, hE, hM, ex, po, px⟩ => ?_⟩
  · unfold exE at ex
    refine tE_mono (two (Q := Q) hE hM ex po px) fun x H1 h => tE_mono h fun y H2 ⟨as2, F, M2, da, db, r, hE2, hM2, hx, hy, e, po, px⟩ => ?_
    obtain ⟨k, e3, rfl⟩ := liftB_ok e
    exact ⟨as2, F, M2, da, db, k, hM2, hx, hy, e3, po.goal.same hM2 (.bl k)⟩
  · unfold exT at ex
    refine tE_bind hE hM ex px fun da M1 as1 H1 x L1 hM1 r1 e1 => ?_
    refine tE_bind (hE.later L1) hM1 e1 (px.later L1) fun db M2 as2 H2 y L2 hM2 r2 e2 => ?_
    split at e2
    · rename_i k e3
      cases e2
      exact ⟨as2, F, M2, da, db, k, hM2, (r1.weak hM.fex).later L2, r2.weak hM1.fex, e3, k, rfl, (po.later L1).later L2 _ _ rfl _ _ (.refl hM2) hM2⟩
    · cases e2
theorem s_chn {o1 o2 : CmpOp} {d : Expr} {cd : E} (hu : X.A.units + 65 < cLine) (hm : behindInMarks o2 d = false) (ha : PE X a (tE X g W ca)) (hb : PE X b (tE X g W cb)) (hd : PE X d (tE X g W cd)) :
    PE X (.Compare a [o1, o2] [b, d] pos) (tE X g W (.chn (cCmp o1) (cCmp o2) ca cb cd)) ∧ PT X (.Compare a [o1, o2] [b, d] pos) (tB_ X g W (.chn (cCmp o1) (cCmp o2) ca cb cd)) := by
  refine ⟨PE.imp (pe_chain (op_cmp hu) (op_cmp hu) ha hb hd (show lastMarks [o1, o2] [b, d] = false from hm)) fun σ H Q ⟨as, F, M, env, r0, hE, hM, ex, po, px⟩ => ?_, PT.imp (pt_chain (op_cmp hu) (op_cmp hu) ha hb hd (show lastMarks [o1, o2] [b, d] = false from hm)) fun σ H Q ⟨as, F, M, env, r0, hE, hM, ex, po, px⟩ => ?_⟩
  · unfold exE at ex
    refine tE_bind hE hM ex px fun da M1 as1 H1 x L1 hM1 r1 e1 => ?_
    refine tE_bind (hE.later L1) hM1 e1 (px.later L1) fun db M2 as2 H2 y L2 hM2 r2 e2 => ?_
    have hy := r2.weak hM1.fex
    split at e2
    · cases e2
    · rename_i e3
      cases e2
      exact ⟨as2, F, M2, da, db, false, hM2, (r1.weak hM.fex).later L2, hy, e3, false, rfl, by rw [if_neg Bool.false_ne_true]; exact ((po.later L1).later L2).goal.same hM2 (.bl _)⟩
    · rename_i e3
      refine ⟨as2, F, M2, da, db, true, hM2, (r1.weak hM.fex).later L2, hy, e3, true, rfl, ?_⟩
      rw [if_pos rfl]
      refine tE_bind ((hE.later L1).later L2) hM2 e2 ((px.later L1).later L2) fun dz M3 as3 H3 z L3 hM3 r3 e4 => ?_
      obtain ⟨k, e5, rfl⟩ := liftB_ok e4
      exact ⟨as3, F, M3, db, dz, k, hM3, hy.later L3, r3.weak hM2.fex, e5, (((po.later L1).later L2).later L3).goal.same hM3 (.bl k)⟩
  · unfold exT at ex
    refine tE_bind hE hM ex px fun da M1 as1 H1 x L1 hM1 r1 e1 => ?_
    refine tE_bind (hE.later L1) hM1 e1 (px.later L1) fun db M2 as2 H2 y L2 hM2 r2 e2 => ?_
    have hy := r2.weak hM1.fex
    split at e2
    · cases e2
    · rename_i e3
      cases e2
      exact ⟨as2, F, M2, da, db, false, hM2, (r1.weak hM.fex).later L2, hy, e3, false, rfl, by rw [if_neg Bool.false_ne_true]; exact ⟨false, rfl, (po.later L1).later L2 _ _ rfl _ _ (.refl hM2) hM2⟩⟩
    · rename_i e3
      refine ⟨as2, F, M2, da, db, true, hM2, (r1.weak hM.fex).later L2, hy, e3, true, rfl, ?_⟩
      rw [if_pos rfl]
      refine tE_bind ((hE.later L1).later L2) hM2 e2 ((px.later L1).later L2) fun dz M3 as3 H3 z L3 hM3 r3 e4 => ?_
      split at e4
      · rename_i k e5
        cases e4
        exact ⟨as3, F, M3, db, dz, k, hM3, hy.later L3, r3.weak hM2.fex, e5, k, rfl, ((po.later L1).later L2).later L3 _ _ rfl _ _ (.refl hM3) hM3⟩
      · cases e4
end
end Z
end
section
set_option Elab.async false
set_option linter.all false
set_option maxRecDepth 100000
set_option maxHeartbeats 1000000
set_option autoImplicit false
/-! Arguments, displays, subscripts, built-ins, methods. -/
namespace Z
open PySem PySem.Spec PyProof.Rows L2
variable {K : PySem.W.Frag} {w : World} {as as' as'' F : List Addr} {H H₀ H' H'' : Hp} {M M' : Mem} {v : V} {vs : List V} {d : D} {ds : List D} {σ : L2.St} {env : Z.Env}
/-- no star -/
def NS (e : Expr) : Prop := ∀ x p, e ≠ .Starred x p
theorem star1 {e : Expr} {es : List Expr} {env : PySem.Env} (h : NS e) : starEach (e :: es) env = (false, eval e env) :: starEach es env := by
  cases e <;> first
    | rfl
    | exact absurd rfl (h _ _)
theorem star_plain {env : PySem.Env} {pos : Pos} : ∀ {es : List Expr}, (∀ e ∈ es, NS e) → (backTo pos (starEach es env)).any (·.1) = false
  | [], _ => rfl
  | e :: es, h => by
    rw [star1 (h e List.mem_cons_self)]
    show (false || (backTo pos (starEach es env)).any (·.1)) = false
    rw [star_plain fun x hx => h x (List.mem_cons_of_mem _ hx)]
    rfl
theorem star_all {env : PySem.Env} {pos : Pos} : ∀ {es : List Expr}, (∀ e ∈ es, NS e) → (backTo pos (starEach es env)).all (fun x => !x.1) = true
  | [], _ => rfl
  | e :: es, h => by
    rw [star1 (h e List.mem_cons_self)]
    show (true && (backTo pos (starEach es env)).all (fun x => !x.1)) = true
    rw [star_all fun x hx => h x (List.mem_cons_of_mem _ hx)]
    rfl
section
variable {X : Cx} {g : G} {W : WX} {c : Ctx} {e a b : Expr} {es : List Expr} {ce ca cb : E} {ces : Es} {t t' : TE} {pos : Pos}
theorem s_nil : PA X [] (tEs X g W .nil) := PA.imp pa_nil fun σ H Q ⟨as, F, M, env, r0, hE, hM, ex, po, px⟩ => by
  unfold exEs at ex
  cases ex
  exact po _ _ rfl _ _ _ (.refl hM) hM .nil
theorem s_cons (n : NS e) (h : PE X e (tE X g W ce)) (r : PA X es (tEs X g W ces)) : PA X (e :: es) (tEs X g W (.cons ce ces)) := PA.imp (pa_cons h r (star1 n)) fun σ H Q ⟨as, F, M, env, r0, hE, hM, ex, po, px⟩ => by
  unfold exEs at ex
  refine tE_bind hE hM ex px fun d M1 as1 H1 x L1 hM1 r1 e1 => ?_
  refine tEs_bind (hE.later L1) hM1 e1 (px.later L1) fun ds M2 as2 H2 xs L2 hM2 r2 e2 => ?_
  cases e2
  exact po _ _ rfl _ _ _ (L1.trans L2) hM2 (.cons ((r1.weak hM.fex).later L2) r2)
theorem tEs_mono {Q Q' : List V → Hp → Prop} {H : Hp} (h : tEs X g W ces σ H Q) (f : ∀ v H', Q v H' → Q' v H') : tEs X g W ces σ H Q' :=
  let ⟨as, F, M, env, r0, hE, hM, ex, po, px⟩ := h
  ⟨as, F, M, env, r0, hE, hM, ex, fun d M' e as' H' v L hM' hr => f _ _ (po d M' e as' H' v L hM' hr), px⟩
/-- arguments, then a step -/
theorem args {Q : VK} {r : Rs D} {k : List D → Mem → Z.R D} (hE : RelE X.K X.w as F H σ env) (hM : RelH X.K X.w as F H M) (ex : ((exEs g ces env M).bind k) = some r) (po : PO X as F H r Q) (px : PX X W as F H σ r) :
    tEs X g W ces σ H fun xs H1 => ∃ as1 M1 ds, RelE X.K X.w as1 F H1 σ env ∧ RelH X.K X.w as1 F H1 M1 ∧ RepWs X.K X.w as1 F H1 xs ds ∧ k ds M1 = some r ∧ PO X as1 F H1 r Q ∧ PX X W as1 F H1 σ r := by
  refine tEs_bind hE hM ex px fun ds M1 as1 H1 x L1 hM1 r1 e1 => ?_
  exact ⟨as1, M1, ds, hE.later L1, hM1, r1, e1, po.later L1, px.later L1⟩
theorem s_tup {k : Nat} (h : PA X es (tEs X g W ces)) : PE X (.Tuple es k pos) (tE X g W (.tup ces)) := PE.imp (pe_tup h) fun σ H Q ⟨as, F, M, env, r0, hE, hM, ex, po, px⟩ => by
  unfold exE at ex
  refine tEs_mono (args (Q := Q) hE hM ex po px) fun xs H1 ⟨as1, M1, ds, hE1, hM1, hx, e, po, px⟩ => ?_
  obtain ⟨es, e1, e2⟩ := ob e
  obtain ⟨h1, e3⟩ := op e2
  cases e3
  have r := hx.frz e1
  exact ⟨by rw [r.length, ← lim]; exact h1, fun p hp => po.goal.tuple hM1 hp r⟩
theorem s_lst (h : PA X es (tEs X g W ces)) : PE X (.List es pos) (tE X g W (.lst ces)) := PE.imp (pe_lst h) fun σ H Q ⟨as, F, M, env, r0, hE, hM, ex, po, px⟩ => by
  unfold exE at ex
  refine tEs_mono (args (Q := Q) hE hM ex po px) fun xs H1 ⟨as1, M1, ds, hE1, hM1, hx, e, po, px⟩ => ?_
  obtain ⟨es, e1, e2⟩ := ob e
  obtain ⟨h1, e3⟩ := op e2
  cases e3
  have r := hx.frz e1
  exact ⟨by rw [r.length, ← lim]; exact h1, fun p hp => po.goal.list hM1 hp r⟩

/-! ### subscripts -/
theorem s_idx (hs : ∀ u t, subscripted b false u t = operate [u, t] (getItem u t)) (ha : PE X a (tE X g W ca)) (hb : PE X b (tE X g W cb)) : PE X (.Subscript a b pos) (tE X g W (.idx ca cb)) := by
  refine ⟨fun pins s σ H Q I ⟨as, F, M, env, r0, hE, hM, ex, po, px⟩ => ?_⟩
  unfold exE at ex
  refine Subscript_ (thn (ha.run pins s σ H _ I (two (Q := Q) hE hM ex po px)) fun u s1 ⟨x, H1, I1, r1, q1⟩ => thn (hb.run pins s1 σ H1 _ I1 q1) fun t s2 ⟨y, H2, I2, r2, as2, F2, M2, da, db, r, hE2, hM2, hx, hy, e, po, px⟩ => ?_)
  obtain ⟨d, e3, rfl⟩ := lift1_ok e
  exact idx_ok I2 r1 r2 hM2 hx hy e3 (hs u t) fun z hz => po.goal.same hM2 hz
/-- a part of a slice -/
def tO (X : Cx) (g : G) (W : WX) (ce : E) : TO := fun σ H Q => tE X g W ce σ H fun x H1 => (x = .non ∧ Q none H1) ∨ ∃ i, x = .int i ∧ Q (some i) H1
theorem s_part (h : PE X e (tE X g W ce)) : L2.PO X (some e) (tO X g W ce) := by
  refine ⟨fun pins s σ H Q I hw => ?_⟩
  rw [evalPart_some]
  refine thn (h.run pins s σ H _ I hw) fun u s1 ⟨x, H1, I1, r1, q1⟩ => ?_
  rcases q1 with ⟨rfl, q⟩ | ⟨i, rfl, q⟩
  · cases r1
    exact ⟨none, H1, I1, .none, q⟩
  · obtain ⟨t, rfl⟩ := r1
    exact ⟨some i, H1, I1, .int i t, q⟩
theorem s_nopart : L2.PO X none (tO X g W .nope) := by
  refine ⟨fun pins s σ H Q I ⟨as, F, M, env, r0, hE, hM, ex, po, px⟩ => ?_⟩
  unfold exE at ex
  cases ex
  rw [evalPart_none]
  have q := po.same hM .non
  rcases q with ⟨_, q⟩ | ⟨i, e, q⟩
  · exact wpAny_pure ⟨none, H, I, .none, q⟩
  · cases e
def rSli (X : Cx) : V → Option Int → Option Int → Hp → VK → Prop := fun x lo hi H Q => ∃ as F M da d, RelH X.K X.w as F H M ∧ RepW X.K X.w as F H x da ∧ sliD da lo hi M = some d ∧ Goal X as F H M d Q
theorem sl_sli : SlR X (rSli X) := fun pins s σ H x v vl vu lo hi sl Q I rx hs pl pu ⟨as, F, M, da, d, hM, hx, e, q⟩ => sli_ok I rx hM hx hs pl pu e q
theorem s_sli {lo hi : Option Expr} {cl ch : E} {p2 : Pos} (ha : PE X a (tE X g W ca)) (hl : L2.PO X lo (tO X g W cl)) (hh : L2.PO X hi (tO X g W ch)) : PE X (.Subscript a (.Slice lo hi none p2) pos) (tE X g W (.sli ca cl ch)) :=
  PE.imp (pe_slice sl_sli ha hl hh) fun σ H Q ⟨as, F, M, env, r0, hE, hM, ex, po, px⟩ => by
    unfold exE at ex
    refine tE_bind hE hM ex px fun da M1 as1 H1 x L1 hM1 r1 e1 => ?_
    refine tE_bind (hE.later L1) hM1 e1 (px.later L1) fun dl M2 as2 H2 y L2 hM2 r2 e2 => ?_
    obtain ⟨lo, e3, e4⟩ := ob e2
    have hx2 := (r1.weak hM.fex).later L2
    have po2 := (po.later L1).later L2
    have cont : ∀ {as2 : List Addr} {H2 : Hp} {M2 : Mem} {x : V} {da : D} {lo : Option Int}, RelE X.K X.w as2 F H2 σ env → RelH X.K X.w as2 F H2 M2 → RepW X.K X.w as2 F H2 x da → PO X as2 F H2 r0 Q → PX X W as2 F H2 σ r0 →
        ((exE g ch env M2).bind fun h M => (optI h).bind fun h => lift1 (sliD da lo h M) M) = some r0 → tO X g W ch σ H2 fun u H3 => rSli X x lo u H3 Q := fun {as2 H2 M2 x da lo} hE2 hM2 hx po px e => by
      refine tE_bind hE2 hM2 e px fun dh M3 as3 H3 z L3 hM3 r3 e5 => ?_
      obtain ⟨hi, e6, e7⟩ := ob e5
      obtain ⟨d, e8, rfl⟩ := lift1_ok e7
      have fin : rSli X x lo hi H3 Q := ⟨as3, F, M3, da, d, hM3, hx.later L3, e8, (po.later L3).goal⟩
      unfold optI at e6
      split at e6
      · cases e6
        cases r3 with
        | val r3 =>
          cases r3
          exact .inr ⟨_, rfl, fin⟩
      · cases e6
        cases r3 with
        | val r3 =>
          cases r3
          exact .inl ⟨rfl, fin⟩
      · cases e6
    have res := cont ((hE.later L1).later L2) hM2 hx2 po2 ((px.later L1).later L2) e4
    unfold optI at e3
    split at e3
    · cases e3
      cases r2 with
      | val r2 =>
        cases r2
        exact .inr ⟨_, rfl, res⟩
    · cases e3
      cases r2 with
      | val r2 =>
        cases r2
        exact .inl ⟨rfl, res⟩
    · cases e3

/-! ### calls of built-ins -/
theorem kinds (bi : Bi) : (∃ id, biV bi = .builtin id) ∨ ∃ T, biV bi = .type T := by cases bi <;> first | exact .inl ⟨_, rfl⟩ | exact .inr ⟨_, rfl⟩
/-- f(e, ..), f a built-in's name -/
theorem pe_bi {f : Str} {fv : Value} {p : Pos} {ta : TA} {r : List V → Hp → VK → Prop} (hk : (∃ id, fv = .builtin id) ∨ ∃ T, fv = .type T) (hc : CallR X fv r) (hg : Gl X f) (hm : X.mg f = none) (hv : bootBuiltins f = some fv) (hn : f ≠ "__name__") (hd : (f == ("__debug__" : Str)) = false)
    (ns : ∀ x ∈ e :: es, NS x) (ha : PA X (e :: es) ta) : PE X (.Call (.Name f p) (e :: es) [] pos) (tCB r ta) := by
  have h1 := star1 (es := es) (env := X.env) (ns e List.mem_cons_self)
  have h2 := star_plain (env := X.env) (pos := pos) fun x hx => ns x (List.mem_cons_of_mem _ hx)
  rcases hk with ⟨id, rfl⟩ | ⟨T, rfl⟩
  · exact pe_callB hc hg hm hv ha hn hd h1 h2
  · exact pe_callTy hc hg hm hv ha hn hd h1 h2
def rBi (X : Cx) (bi : Bi) : List V → Hp → VK → Prop := fun xs H Q => ∃ as F M ds d, RelH X.K X.w as F H M ∧ RepWs X.K X.w as F H xs ds ∧ biD bi ds M = some d ∧ Goal X as F H M d Q
theorem s_bi {f : Str} {bi : Bi} {p : Pos} (hn1 : bi ≠ .sortedR) (hn2 : bi ≠ .range) (hu : X.A.units + 70 < cLine) (hcalm : g.calm = true → X.calm = true) (hg : Gl X f) (hm : X.mg f = none) (hv : bootBuiltins f = some (biV bi)) (hn : f ≠ "__name__") (hd : (f == ("__debug__" : Str)) = false)
    (ns : ∀ x ∈ es, NS x) (ha : PA X es (tEs X g W ces)) (hl : es = [] → ces = .nil) : PE X (.Call (.Name f p) es [] pos) (tE X g W (.bi bi ces)) := by
  cases es with
  | nil =>
    rw [hl rfl]
    refine ⟨fun pins s σ H Q I ⟨as, F, M, env, r0, hE, hM, ex, po, px⟩ => ?_⟩
    unfold exE at ex
    obtain ⟨h1, ex⟩ := oi ex
    unfold exEs at ex
    obtain ⟨d, e1, _⟩ := lift1_ok (show lift1 (biD bi [] M) M = some r0 from ex)
    unfold biD at e1
    split at e1 <;> simp_all
  | cons e0 es =>
    refine ⟨fun pins s σ H Q I ⟨as, F, M, env, r0, hE, hM, ex, po, px⟩ => ?_⟩
    unfold exE at ex
    obtain ⟨h1, ex⟩ := oi ex
    have hot : biHot bi = true ∨ X.calm = true := by
      rcases Bool.or_eq_true_iff.mp h1 with h | h
      · exact .inl h
      · exact .inr (hcalm h)
    have cr : CallR X (biV bi) (rBi X bi) := fun pins s σ H xs us Q I rx ⟨as, F, M, ds, d, hM, hx, e, q⟩ => bi_ok hn1 hn2 hot hu I rx hM hx e q
    refine (pe_bi (kinds bi) cr hg hm hv hn hd ns ha).run pins s σ H Q I (tEs_mono (args (Q := Q) hE hM ex po px) fun xs H1 ⟨as1, M1, ds, hE1, hM1, hx, e, po, px⟩ => ?_)
    obtain ⟨d, e3, rfl⟩ := lift1_ok e
    exact ⟨as1, F, M1, ds, d, hM1, hx, e3, po.goal⟩
theorem reps_rg (K : PySem.W.Frag) (w : World) (as F : List Addr) (H : Hp) : ∀ (n : Nat) (lo : Int), Reps K w as F H ((List.range n).map fun i => V.int (lo + (i : Nat))) (rangeL lo n)
  | 0, _ => .nil
  | n + 1, lo => by
    rw [List.range_succ_eq_map, List.map_cons, List.map_map]
    have ih := reps_rg K w as F H n (lo + 1)
    have e : ((fun i : Nat => V.int (lo + (i : Int))) ∘ Nat.succ) = fun i : Nat => V.int (lo + 1 + (i : Int)) := by
      funext i
      show V.int (lo + ((i + 1 : Nat) : Int)) = V.int (lo + 1 + (i : Int))
      congr 1
      omega
    rw [e]
    refine .cons ?_ ih
    have z : lo + ((0 : Nat) : Int) = lo := by simp
    rw [z]
    exact .int lo
theorem biD_rg {x d : D} (e : biD .range [x] M = some d) : ∃ n : Int, x = .int n ∧ (decide (-(2 ^ 62) ≤ n) && decide (n ≤ 16777216)) = true ∧ d = .fl (rangeL 0 n.toNat) := by
  cases x <;> first
    | (cases e; done)
    | skip
  rename_i n
  obtain ⟨h, e2⟩ := oi (show (if decide (-(2 ^ 62) ≤ n) && decide (n ≤ 16777216) then some (D.fl (rangeL 0 n.toNat)) else none) = some d from e)
  cases e2
  exact ⟨n, rfl, h, rfl⟩
theorem s_listRg {p p2 pos2 : Pos} (hcalm : g.calm = true → X.calm = true) (hg : Gl X "list") (hm : X.mg "list" = none) (hg2 : Gl X "range") (hm2 : X.mg "range" = none) (ns : NS a) (ha : PE X a (tE X g W ca)) :
    PE X (.Call (.Name "list" p) [.Call (.Name "range" p2) [a] [] pos2] [] pos) (tE X g W (.bi .range (.cons ca .nil))) := by
  refine ⟨fun pins s σ H Q I ⟨as, F, M, env, r0, hE, hM, ex, po, px⟩ => ?_⟩
  unfold exE at ex
  obtain ⟨h1, ex⟩ := oi ex
  have hc : X.calm = true := hcalm (by simpa [biHot] using h1)
  refine (pe_listRg hc hg hm (prg_1 hg2 hm2 ha (star1 ns)) rfl).run pins s σ H Q I ?_
  unfold exEs at ex
  unfold exEs at ex
  have ex' : ((exE g ca env M).bind fun x M => lift1 (biD .range [x] M) M) = some r0 := by
    cases hq : exE g ca env M with
    | none =>
      rw [hq] at ex
      exact ex
    | some r =>
      rw [hq] at ex
      cases r <;> exact ex
  refine tE_mono (one (Q := Q) hE hM ex' po px) fun x H1 ⟨as1, M1, da, hE1, hM1, hx, e, po, px⟩ => ?_
  obtain ⟨d, e1, rfl⟩ := lift1_ok e
  obtain ⟨n, rfl, h2, rfl⟩ := biD_rg e1
  have h3 := band h2
  have h4 := of_decide_eq_true h3.1
  have h5 := of_decide_eq_true h3.2
  cases hx with
  | val hx =>
    cases hx
    refine ⟨n, rfl, ⟨by omega, by omega, by omega, by omega, by omega⟩, fun q hq => po.goal.list hM1 hq ?_⟩
    unfold rgV
    rw [Int.sub_zero]
    exact reps_rg _ _ _ _ _ _ _
end
end Z
end
section
set_option Elab.async false
set_option linter.all false
set_option maxRecDepth 100000
set_option maxHeartbeats 1000000
set_option autoImplicit false
/-! isinstance, methods, calls of own defs. -/
namespace Z
open PySem PySem.Spec PyProof.Rows L2
variable {K : PySem.W.Frag} {w : World} {as as' as'' F : List Addr} {H H₀ H' H'' : Hp} {M M' : Mem} {v : V} {vs : List V} {d : D} {ds : List D} {σ : L2.St} {env : Z.Env}
section
variable {X : Cx} {g : G} {W : WX} {c : Ctx} {e a b : Expr} {es : List Expr} {ce ca cb : E} {ces : Es} {t t' : TE} {pos : Pos}
def rIsi1 (X : Cx) (T : Ty) : List V → Hp → VK → Prop := fun xs H Q => ∃ x as F M da c, xs = [x, .ty (tyN T)] ∧ RelH X.K X.w as F H M ∧ RepW X.K X.w as F H x da ∧ isTs da M [T] = some c ∧ Q (.bl c) H
/-- isinstance(a, T): T a name -/
theorem s_isi1 {T : Ty} {x : Str} {p p2 : Pos} (hg : Gl X "isinstance") (hm : X.mg "isinstance" = none) (na : NS a) (ha : PE X a (tE X g W ca)) (hT : PE X (.Name x p2) (tC (.ty (tyN T)))) :
    PE X (.Call (.Name "isinstance" p) [a, .Name x p2] [] pos) (tE X g W (.isi ca [T])) := by
  have cr : CallR X (.builtin "isinstance") (rIsi1 X T) := fun pins s σ H xs us Q I rx ⟨x, as, F, M, da, c, ex, hM, hx, e, q⟩ => by
    subst ex
    obtain ⟨u, t, rfl, r1, r2⟩ := rx.two
    cases r2
    exact isi_one (tv := .non) I hM hx r1 e q
  have pa : PA X [a, .Name x p2] _ := pa_cons ha (pa_cons hT pa_nil rfl) (star1 na)
  refine PE.imp (pe_bi (.inl ⟨_, rfl⟩) cr hg hm (by decide +kernel) (by decide) (by decide) (fun y hy => ?_) pa) fun σ H Q ⟨as, F, M, env, r0, hE, hM, ex, po, px⟩ => ?_
  · rcases List.mem_cons.mp hy with rfl | hy
    · exact na
    · rw [List.mem_singleton.mp hy]
      exact fun _ _ z => nomatch z
  · unfold exE at ex
    refine tE_mono (one (Q := Q) hE hM ex po px) fun x H1 ⟨as1, M1, da, hE1, hM1, hx, e, po, px⟩ => ?_
    obtain ⟨k, e1, rfl⟩ := liftB_ok e
    exact ⟨x, as1, F, M1, da, k, rfl, hM1, hx, e1, po.goal.same hM1 (.bl k)⟩
def rIsiN (X : Cx) (ts : List Ty) : List V → Hp → VK → Prop := fun xs H Q => ∃ x tp as F M da c, xs = [x, .ref tp] ∧ H tp = some (.tup (ts.map fun t => V.ty (tyN t))) ∧ RelH X.K X.w as F H M ∧ RepW X.K X.w as F H x da ∧ isTs da M ts = some c ∧ Q (.bl c) H
/-- the classes' names -/
theorem tys_ok {ts : List Ty} (h : PA X es (fun σ H Q => Q (ts.map fun t => V.ty (tyN t)) H)) (hl : ts.length ≤ 30) (na : NS a) (ha : PE X a (tE X g W ca)) {k : Nat} {p p2 : Pos} (hg : Gl X "isinstance") (hm : X.mg "isinstance" = none) :
    PE X (.Call (.Name "isinstance" p) [a, .Tuple es k p2] [] pos) (tE X g W (.isi ca ts)) := by
  have cr : CallR X (.builtin "isinstance") (rIsiN X ts) := fun pins s σ H xs us Q I rx ⟨x, tp, as, F, M, da, c, ex, ht, hM, hx, e, q⟩ => by
    subst ex
    obtain ⟨u, t, rfl, r1, r2⟩ := rx.two
    cases r2
    exact isi_many I hM hx r1 ht e q
  have pa : PA X [a, .Tuple es k p2] _ := pa_cons ha (pa_cons (pe_tup h) pa_nil rfl) (star1 na)
  refine PE.imp (pe_bi (.inl ⟨_, rfl⟩) cr hg hm (by decide +kernel) (by decide) (by decide) (fun y hy => ?_) pa) fun σ H Q ⟨as, F, M, env, r0, hE, hM, ex, po, px⟩ => ?_
  · rcases List.mem_cons.mp hy with rfl | hy
    · exact na
    · rw [List.mem_singleton.mp hy]
      exact fun _ _ z => nomatch z
  · unfold exE at ex
    refine tE_mono (one (Q := Q) hE hM ex po px) fun x H1 ⟨as1, M1, da, hE1, hM1, hx, e, po, px⟩ => ?_
    obtain ⟨k, e1, rfl⟩ := liftB_ok e
    refine ⟨by rw [List.length_map, sizeLine_eq]; omega, fun tp hp => ?_⟩
    have L := Later.upd (o := .tup (ts.map fun t => V.ty (tyN t))) hM1 hp
    exact ⟨x, tp, as1, F, M1, da, k, rfl, upd_same, hM1.laid0 hp, hx.later L, e1, (po.later L).goal.same (hM1.laid0 hp) (.bl k)⟩

/-! ### methods -/
theorem s_mth {m : Mt} {ms : Str} {o : Expr} {apos : Pos} (hms : ms = mtS m) (hbase : attributeBase o ms X.env (eval o X.env) = eval o X.env) (hline : (apos.endLine == pos.line) = true) (hfew : es.length < 30) (ns : ∀ x ∈ es, NS x) (ha : PE X o (tE X g W ca)) (hs : PA X es (tEs X g W ces)) (hl : es = [] → ces = .nil) :
    PE X (.Call (.Attribute o ms apos) es [] pos) (tE X g W (.mth m ca ces)) := by
  subst hms
  refine ⟨fun pins s σ H Q I ⟨as, F, M, env, r0, hE, hM, ex, po, px⟩ => ?_⟩
  unfold exE at ex
  have few : ((backTo pos (starEach es X.env)).all (fun x => !x.1) && (backToKw pos (keywordEach [] X.env)).all (fun x => x.1.isSome)
      && decide (es.length + ([] : List Keyword).length + (if ([] : List Keyword).isEmpty then 0 else 1) < 30)) = true := by
    rw [star_all ns]
    show (true && decide (es.length + 0 + 0 < 30)) = true
    simp only [Bool.true_and]
    exact decide_eq_true (by omega)
  refine wpAny_Call_method_late hbase few hline rfl (thn (ha.run pins s σ H _ I (one (Q := Q) hE hM ex po px)) fun u s1 ⟨x, H1, I1, r1, as1, M1, da, hE1, hM1, hx, e, po, px⟩ => ?_)
  obtain ⟨h1, e⟩ := oi e
  obtain ⟨T, pa, slot, hty, ty⟩ := mthT_ok hM1 hx h1
  obtain ⟨h2, h3⟩ := tyV_is I1 r1 ty
  refine ⟨T, mtN m, pa, slot, hty, h2, h3, ?_⟩
  have fin : ∀ (us : List Value) (s2 : Shared), AP X pins σ (fun xs H2 => ∃ as2 M2 ds, Later as1 H1 as2 H2 ∧ RelH X.K X.w as2 F H2 M2 ∧ RepWs X.K X.w as2 F H2 xs ds ∧ ((frzs ds).bind fun ds => (if ds.all argOk then (match mthD m da ds M2 with | some (d, M) => some (Rs.ok d M) | none => none) else none)) = some r0 ∧ PO X as2 F H2 r0 Q) us s2 →
      wpAny (model X.prog X.w) X.A (call (.builtin (mtN m)) (u :: us)) (EP X pins σ Q) X.xe s2 := fun us s2 ⟨xs, H2, I2, r2, as2, M2, ds, L2, hM2, hs, e, po⟩ => by
    obtain ⟨es, e1, e2⟩ := ob e
    obtain ⟨h4, e3⟩ := oi e2
    split at e3
    · rename_i d M3 e4
      cases e3
      exact mth_ok I2 r1 r2 hM2 (hx.later L2) (hs.frz e1).weaks (fun d hd => List.all_eq_true.mp h4 d hd) e4 fun H' z L hM' hr => po d M3 rfl as2 H' z L hM' (.val hr)
    · cases e3
  have ta : tEs X g W ces σ H1 fun xs H2 => ∃ as2 M2 ds, Later as1 H1 as2 H2 ∧ RelH X.K X.w as2 F H2 M2 ∧ RepWs X.K X.w as2 F H2 xs ds ∧ ((frzs ds).bind fun ds => (if ds.all argOk then (match mthD m da ds M2 with | some (d, M) => some (Rs.ok d M) | none => none) else none)) = some r0 ∧ PO X as2 F H2 r0 Q := by
    refine tEs_bind hE1 hM1 e px fun ds M2 as2 H2 xs L2 hM2 r2 e2 => ?_
    exact ⟨as2, M2, ds, L2, hM2, r2, e2, po.later L2⟩
  cases es with
  | nil =>
    rw [hl rfl] at ta
    obtain ⟨as3, F3, M3, env3, r3, hE3, hM3, ex3, po3, px3⟩ := ta
    unfold exEs at ex3
    cases ex3
    have h5 := po3 [] M3 rfl _ _ [] (.refl hM3) hM3 .nil
    exact Calls.callWith_builtin rfl (PySem.evalArgs_none (fin [] s1 ⟨[], H1, I1, .nil, h5⟩))
  | cons e0 es =>
    have h1 := star1 (es := es) (env := X.env) (ns e0 List.mem_cons_self)
    have h2 := star_plain (env := X.env) (pos := pos) fun x hx => ns x (List.mem_cons_of_mem _ hx)
    have h5 := hs.run pos pins s1 σ H1 _ I1 ta
    rw [h1] at h5 ⊢
    exact Calls.callWith_builtin (by show (false || (backTo pos (starEach es X.env)).any (·.1)) = false; rw [h2] <;> rfl) (Calls.evalArgs_plain (thn h5 fun us s2 h6 => fin us s2 h6))
end
end Z
end
section
set_option Elab.async false
set_option linter.all false
set_option maxRecDepth 100000
set_option maxHeartbeats 1000000
set_option autoImplicit false
/-! A call of an own def: over the objects that are handed over. -/
namespace Z
open PySem PySem.Spec PyProof.Rows L2
variable {K : PySem.W.Frag} {w : World} {as as' as'' as1 F F1 F2 G : List Addr} {H H₀ H' H'' : Hp} {M M' M1 : Mem} {v : V} {vs : List V} {d : D} {ds : List D} {σ : L2.St} {env : Z.Env} {rs : List Nat} {os : List MO}
mutual
/-- a value that names no object of the memory, among other names -/
theorem Rep.vals2 (h1 : ∀ a ∈ as', a ∈ as ∨ a ∈ F) (h2 : ∀ a ∈ G, a ∈ as ∨ a ∈ F) : ∀ {v : V} {d : D}, d.val = true → Rep K w as F H v d → Rep K w as' G H v d
  | _, _, _, .non => .non
  | _, _, _, .bl b => .bl b
  | _, _, _, .int i => .int i
  | _, _, _, .str s => .str s
  | _, _, e, .tup h r => .tup h (Reps.vals2 h1 h2 e r)
  | _, _, e, .tl h n f r => .tl h (fun z => (h1 _ z).elim n f) (fun z => (h2 _ z).elim n f) (Reps.vals2 h1 h2 e r)
  | _, _, e, .sc h r => .sc h (Reps.vals2 h1 h2 e r)
  | _, _, _, .dc h => .dc h
  | _, _, e, .ref h => by cases e
theorem Reps.vals2 (h1 : ∀ a ∈ as', a ∈ as ∨ a ∈ F) (h2 : ∀ a ∈ G, a ∈ as ∨ a ∈ F) : ∀ {vs : List V} {ds : List D}, D.vals ds = true → Reps K w as F H vs ds → Reps K w as' G H vs ds
  | _, _, _, .nil => .nil
  | _, _, e, .cons h r => by
    have e' := band (show (D.val _ && D.vals _) = true from e)
    exact .cons (Rep.vals2 h1 h2 e'.1 h) (Reps.vals2 h1 h2 e'.2 r)
end
mutual
/-- more addresses that no value names -/
theorem Rep.grow (h2 : ∀ a ∈ G, a ∈ F ∨ H a = none) : ∀ {v : V} {d : D}, Rep K w as F H v d → Rep K w as G H v d
  | _, _, .non => .non
  | _, _, .bl b => .bl b
  | _, _, .int i => .int i
  | _, _, .str s => .str s
  | _, _, .tup h r => .tup h (Reps.grow h2 r)
  | _, _, .tl h n f r => .tl h n (fun z => (h2 _ z).elim f fun e => by rw [h] at e; cases e) (Reps.grow h2 r)
  | _, _, .sc h r => .sc h (Reps.grow h2 r)
  | _, _, .dc h => .dc h
  | _, _, .ref h => .ref h
theorem Reps.grow (h2 : ∀ a ∈ G, a ∈ F ∨ H a = none) : ∀ {vs : List V} {ds : List D}, Reps K w as F H vs ds → Reps K w as G H vs ds
  | _, _, .nil => .nil
  | _, _, .cons h r => .cons (Rep.grow h2 h) (Reps.grow h2 r)
end
theorem objs_get : ∀ {rs : List Nat} {os : List MO}, objs M rs = some os → os.length = rs.length ∧ ∀ (j r : Nat), rs[j]? = some r → ∃ o, M[r]? = some o ∧ os[j]? = some o
  | [], os, e => by
    cases e
    exact ⟨rfl, fun j r h => by simp at h⟩
  | r0 :: rs, os, e => by
    unfold objs at e
    split at e
    · rename_i o os' e1 e2
      cases e
      obtain ⟨h1, h2⟩ := objs_get e2
      refine ⟨by rw [List.length_cons, List.length_cons, h1], fun j r h => ?_⟩
      cases j with
      | zero =>
        simp at h
        subst h
        exact ⟨o, e1, rfl⟩
      | succ j => exact h2 j r (by simpa using h)
    · cases e
theorem putBack_len : ∀ (rs : List Nat) (os : List MO) (M : Mem), (putBack rs os M).length = M.length
  | [], _, _ => rfl
  | _ :: _, [], _ => rfl
  | r :: rs, o :: os, M => by
    unfold putBack
    rw [putBack_len, List.length_set]
theorem putBack_out : ∀ (rs : List Nat) (os : List MO) (M : Mem) (n : Nat), n ∉ rs → (putBack rs os M)[n]? = M[n]?
  | [], _, _, _, _ => rfl
  | _ :: _, [], _, _, _ => rfl
  | r :: rs, o :: os, M, n, h => by
    unfold putBack
    rw [putBack_out rs os _ n fun z => h (List.mem_cons_of_mem _ z), List.getElem?_set_ne fun z => h (by rw [z]; exact List.mem_cons_self)]
theorem putBack_in : ∀ (rs : List Nat) (os : List MO) (M : Mem) (j n : Nat) (o : MO), rs.Nodup → rs[j]? = some n → os[j]? = some o → n < M.length → (putBack rs os M)[n]? = some o
  | [], _, _, _, _, _, _, e, _, _ => by simp at e
  | _ :: _, [], _, _, _, _, _, _, e, _ => by simp at e
  | r :: rs, o0 :: os, M, 0, n, o, nd, e1, e2, hl => by
    unfold putBack
    simp at e1 e2
    subst e1 e2
    rw [putBack_out rs os _ _ (List.nodup_cons.mp nd).1, List.getElem?_set_self hl]
  | r :: rs, o0 :: os, M, j + 1, n, o, nd, e1, e2, hl => by
    unfold putBack
    exact putBack_in rs os _ j n o (List.nodup_cons.mp nd).2 (by simpa using e1) (by simpa using e2) (by rw [List.length_set]; exact hl)
theorem flats_get {os : List MO} (h : flats os = true) {j : Nat} {o : MO} (e : os[j]? = some o) : flat o = true := List.all_eq_true.mp h o (List.mem_of_getElem? e)
theorem RelM.vals {a : Addr} {o : MO} (h : RelM K w as F H a o) (f : flat o = true) (h1 : ∀ a ∈ as', a ∈ as ∨ a ∈ F) (h2 : ∀ a ∈ G, a ∈ as ∨ a ∈ F) : RelM K w as' G H a o := by
  cases h with
  | lst e r => exact .lst e (r.vals2 h1 h2 f)

/-- the addresses of the objects handed over -/
def sel (as : List Addr) (rs : List Nat) : List Addr := rs.map fun r => as.getD r 0
structure Sel (K : PySem.W.Frag) (w : World) (as F : List Addr) (H : Hp) (M : Mem) (rs : List Nat) (os : List MO) : Prop where
  hM : RelH K w as F H M
  nd : rs.Nodup
  obj : objs M rs = some os
  fl : flats os = true
theorem Sel.at_ (S : Sel K w as F H M rs os) {j r : Nat} (h : rs[j]? = some r) : ∃ a, as[r]? = some a ∧ (sel as rs)[j]? = some a ∧ r < M.length := by
  obtain ⟨o, h1, _⟩ := (objs_get S.obj).2 j r h
  have h2 := (List.getElem?_eq_some_iff.mp h1).1
  have h3 := S.hM.len
  refine ⟨as[r], List.getElem?_eq_getElem (by omega), ?_, h2⟩
  unfold sel
  rw [List.getElem?_map, h]
  show some (as.getD r 0) = some as[r]
  rw [List.getD_eq_getElem?_getD, List.getElem?_eq_getElem (by omega)]
  rfl
theorem Sel.sub (S : Sel K w as F H M rs os) : ∀ a ∈ sel as rs, a ∈ as := fun a ha => by
  obtain ⟨j, hj, e⟩ := List.getElem_of_mem ha
  have hj' : j < rs.length := by unfold sel at hj; rw [List.length_map] at hj; exact hj
  obtain ⟨b, h1, h2, _⟩ := S.at_ (List.getElem?_eq_getElem hj')
  rw [List.getElem?_eq_getElem hj, e] at h2
  cases h2
  exact List.mem_of_getElem? h1
theorem Sel.nod (S : Sel K w as F H M rs os) : (sel as rs).Nodup := by
  refine List.pairwise_iff_getElem.mpr fun i j hi hj hij e0 => ?_
  have e : (sel as rs)[i]? = (sel as rs)[j]? := by rw [List.getElem?_eq_getElem hi, List.getElem?_eq_getElem hj, e0]
  have hj' : j < rs.length := by unfold sel at hj; rw [List.length_map] at hj; exact hj
  obtain ⟨a, h1, h2, _⟩ := S.at_ (List.getElem?_eq_getElem (by omega : i < rs.length))
  obtain ⟨b, h3, h4, _⟩ := S.at_ (List.getElem?_eq_getElem hj')
  rw [h2, h4] at e
  cases e
  have z := nd_ix S.hM.nd h1 h3
  have := nd_ix S.nd (List.getElem?_eq_getElem (by omega : i < rs.length)) (by rw [z]; exact List.getElem?_eq_getElem hj')
  omega
theorem Sel.there (S : Sel K w as F H M rs os) : ∀ a ∈ as, H a ≠ none := fun a ha e => by
  obtain ⟨xs, h⟩ := S.hM.there a ha
  rw [h] at e
  cases e
/-- the local memory -/
theorem Sel.relH (S : Sel K w as F H M rs os) : RelH K w (sel as rs) (as ++ F) H os := by
  have hl := (objs_get S.obj).1
  refine ⟨by unfold sel; rw [List.length_map, hl], S.nod, fun a ha => ?_, fun n a o e1 e2 => ?_⟩
  · rcases List.mem_append.mp ha with ha | ha
    · exact S.there a ha
    · exact S.hM.fex a ha
  · have hn : n < rs.length := by
      have := (List.getElem?_eq_some_iff.mp e2).1
      omega
    obtain ⟨b, h1, h2, _⟩ := S.at_ (List.getElem?_eq_getElem hn)
    rw [h2] at e1
    cases e1
    obtain ⟨o', h3, h4⟩ := (objs_get S.obj).2 n _ (List.getElem?_eq_getElem hn)
    rw [h4] at e2
    cases e2
    exact (S.hM.obj _ _ _ h1 h3).vals (flats_get S.fl h4) (fun c hc => .inl (S.sub c hc)) fun c hc => (List.mem_append.mp hc)
theorem Sel.args (S : Sel K w as F H M rs os) : ∀ {vs : List V} {ds : List D}, ds.all argOk = true → (∀ r, D.ref r ∈ ds → r ∈ rs) → Reps K w as F H vs ds → Reps K w (sel as rs) (as ++ F) H vs (ds.map (ren rs))
  | _, _, _, _, .nil => .nil
  | _, d :: ds, e, q, .cons h t => by
    have e' := band (show (argOk d && ds.all argOk) = true from e)
    refine .cons ?_ (Sel.args S e'.2 (fun r hr => q r (List.mem_cons_of_mem _ hr)) t)
    by_cases hd : ∃ r, d = .ref r
    · obtain ⟨r, rfl⟩ := hd
      cases h with
      | ref h =>
        have hr := q r List.mem_cons_self
        have h2 : rs[rs.idxOf r]? = some r := by
          rw [List.getElem?_eq_getElem (List.idxOf_lt_length_of_mem hr), List.getElem_idxOf]
        obtain ⟨b, h3, h4, _⟩ := S.at_ h2
        rw [h] at h3
        cases h3
        exact .ref h4
    · have hv : d.val = true := by
        cases d <;> first | exact e'.1 | exact absurd ⟨_, rfl⟩ hd
      have hr : ren rs d = d := by
        cases d <;> first | rfl | exact absurd ⟨_, rfl⟩ hd
      rw [hr]
      exact h.vals2 (fun c hc => .inl (S.sub c hc)) (fun c hc => List.mem_append.mp hc) hv
end Z
end
section
set_option Elab.async false
set_option linter.all false
set_option maxRecDepth 100000
set_option maxHeartbeats 1000000
set_option autoImplicit false
/-! The end of such a call; the call. -/
namespace Z
open PySem PySem.Spec PyProof.Rows L2
variable {K : PySem.W.Frag} {w : World} {as as' as'' as1 F F1 F2 G : List Addr} {H H₀ H' H'' : Hp} {M M' M1 : Mem} {v : V} {vs : List V} {d d' : D} {ds ds' : List D} {σ : L2.St} {env : Z.Env} {rs : List Nat} {os : List MO}
/-- what holds at the callee's end; F2: the callee's names, G: ours -/
structure Bk (K : PySem.W.Frag) (w : World) (as F : List Addr) (H : Hp) (M : Mem) (rs : List Nat) (os : List MO) (as' F2 : List Addr) (H' : Hp) (M1 : Mem) : Prop where
  S : Sel K w as F H M rs os
  L : Later (sel as rs) H as' H'
  m : RelH K w as' F2 H' M1
  sub : ∀ a ∈ as ++ F, a ∈ F2
  fl : flats (M1.take rs.length) = true
theorem Bk.later (B : Bk K w as F H M rs os as' F2 H' M1) : Later as H as H' :=
  ⟨⟨[], by simp, fun a ha => by cases ha⟩, fun a o e n => B.L.keep a o e fun z => n (B.S.sub a z), B.S.hM.there⟩
theorem Bk.new (B : Bk K w as F H M rs os as' F2 H' M1) {r : Nat} {a : Addr} (h : as'[r]? = some a) (hr : rs.length ≤ r) : H a = none := by
  obtain ⟨new, e, hn⟩ := B.L.pre
  have hl : (sel as rs).length = rs.length := by unfold sel; rw [List.length_map]
  rw [e, List.getElem?_append_right (by omega)] at h
  exact hn a (List.mem_of_getElem? h)
/-- ours: the names from ahead, or addresses of the callee's that no value names -/
def GOk (F : List Addr) (H : Hp) (as' F2 G : List Addr) : Prop := ∀ a ∈ G, a ∈ F ∨ (H a = none ∧ (a ∈ as' ∨ a ∈ F2))
theorem Bk.g1 (B : Bk K w as F H M rs os as' F2 H' M1) (hG : GOk F H as' F2 G) : ∀ a ∈ G, a ∈ as' ∨ a ∈ F2 := fun a ha => (hG a ha).elim (fun z => .inr (B.sub a (List.mem_append_right _ z))) fun z => z.2
theorem Bk.a1 (B : Bk K w as F H M rs os as' F2 H' M1) : ∀ a ∈ as, a ∈ as' ∨ a ∈ F2 := fun a ha => .inr (B.sub a (List.mem_append_left _ ha))
theorem Bk.mem (B : Bk K w as F H M rs os as' F2 H' M1) (hG : GOk F H as' F2 G) (hG2 : ∀ a ∈ G, a ∈ F ∨ H' a ≠ none) : RelH K w as G H' (putBack rs (M1.take rs.length) M) := by
  have hl : (M1.take rs.length).length = rs.length := by
    have h1 := B.m.len
    obtain ⟨new, e, _⟩ := B.L.pre
    have h2 : (sel as rs).length = rs.length := by unfold sel; rw [List.length_map]
    have h3 : as'.length = rs.length + new.length := by rw [e, List.length_append, h2]
    rw [List.length_take]
    omega
  refine ⟨by rw [putBack_len]; exact B.S.hM.len, B.S.hM.nd, fun a ha => ?_, fun n a o e1 e2 => ?_⟩
  · rcases hG2 a ha with h | h
    · exact B.m.fex a (B.sub a (List.mem_append_right _ h))
    · exact h
  · by_cases hn : n ∈ rs
    · obtain ⟨j, hj, e3⟩ := List.getElem_of_mem hn
      have e4 : rs[j]? = some n := by rw [List.getElem?_eq_getElem hj, e3]
      obtain ⟨b, h1, h2, h3⟩ := B.S.at_ e4
      rw [e1] at h1
      cases h1
      have e5 : (M1.take rs.length)[j]? = some (M1.take rs.length)[j] := List.getElem?_eq_getElem (by omega)
      rw [putBack_in rs _ M j n _ B.S.nd e4 e5 h3] at e2
      cases e2
      have e6 : M1[j]? = some (M1.take rs.length)[j] := by
        rw [List.getElem?_take_of_lt hj] at e5
        exact e5
      exact (B.m.obj j a _ (B.L.at_ h2) e6).vals (flats_get B.fl e5) B.a1 (B.g1 hG)
    · rw [putBack_out rs _ M n hn] at e2
      have ha : a ∉ sel as rs := fun z => by
        obtain ⟨j, hj, e3⟩ := List.getElem_of_mem z
        have hj' : j < rs.length := by unfold sel at hj; rw [List.length_map] at hj; exact hj
        obtain ⟨b, h1, h2, _⟩ := B.S.at_ (List.getElem?_eq_getElem hj')
        rw [List.getElem?_eq_getElem hj, e3] at h2
        cases h2
        have := nd_ix B.S.hM.nd e1 h1
        exact hn (by rw [this]; exact List.getElem_mem hj')
      cases B.S.hM.obj n a o e1 e2 with
      | lst h r => exact .lst (B.L.keep _ _ h ha) ((r.grow fun c hc => (hG c hc).imp id And.left).later B.later)
/-- .. none among the names is the address of an own list of the callee's but the one at av -/
theorem deep_ok (B : Bk K w as F H M rs os as' F2 H' M1) (hG : GOk F H as' F2 G) {av : Nat} (hA : ∀ a ∈ G, a ∈ F ∨ a ∉ as' ∨ as'[av]? = some a) :
    ∀ n, (∀ v d d', deep rs.length av M1 n d = some d' → Rep K w as' F2 H' v d → Rep K w as G H' v d') ∧ (∀ vs ds ds', deeps rs.length av M1 n ds = some ds' → Reps K w as' F2 H' vs ds → Reps K w as G H' vs ds') := by
  intro n
  induction n with
  | zero => exact ⟨fun v d d' e => by (unfold deep at e; cases e), fun vs ds ds' e => by (unfold deeps at e; cases e)⟩
  | succ n ih =>
    refine ⟨fun v d d' e h => ?_, fun vs ds ds' e h => ?_⟩
    · unfold deep at e
      split at e
      · rename_i hv
        cases e
        exact h.vals2 B.a1 (B.g1 hG) hv
      · split at e
        · rename_i r _
          split at e
          · cases e
          · rename_i h1
            split at e
            · rename_i zs e1
              obtain ⟨ys, e2, e3⟩ := om e
              subst e3
              cases h with
              | @ref _ b h =>
                simp only [Bool.or_eq_true, decide_eq_true_eq, beq_iff_eq, not_or, Nat.not_lt] at h1
                have hb := B.new h h1.1
                have z := B.m.obj r b _ h e1
                cases z with
                | lst h2 r2 =>
                  refine .tl h2 (fun z => B.S.there b z hb) (fun z => ?_) (ih.2 _ _ _ e2 r2)
                  rcases hA b z with h3 | h3 | h3
                  · exact B.S.hM.fex b h3 hb
                  · exact h3 (List.mem_of_getElem? h)
                  · exact h1.2 (nd_ix B.m.nd h h3)
            · cases e
        · obtain ⟨ys, e2, e3⟩ := om e
          subst e3
          cases h with
          | tup h r => exact .tup h (ih.2 _ _ _ e2 r)
        · obtain ⟨ys, e2, e3⟩ := om e
          subst e3
          cases h with
          | tl h n1 n2 r => exact .tl h (fun z => n2 (B.sub _ (List.mem_append_left _ z))) (fun z => (B.g1 hG _ z).elim n1 n2) (ih.2 _ _ _ e2 r)
        · cases e
    · unfold deeps at e
      split at e
      · cases e
      · cases e
        cases h
        exact .nil
      · rename_i e1
        cases e1
        split at e
        · rename_i e1 e2
          cases e
          cases h with
          | cons h t => exact .cons (ih.1 _ _ _ e1 h) (ih.2 _ _ _ e2 t)
        · cases e
theorem gok_F {as' F2 : List Addr} : GOk F H as' F2 F := fun a ha => .inl ha
/-- the callee's value as ours -/
theorem out_ok (S : Sel K w as F H M rs os) (L : Later (sel as rs) H as' H') (m : RelH K w as' (as ++ F) H' M1) (fl : flats (M1.take rs.length) = true) (r : RepR K w as' (as ++ F) H H' M1 v d) (e : outD rs.length M1 d = some d') :
    RelH K w as F H' (putBack rs (M1.take rs.length) M) ∧ RepR K w as F H H' (putBack rs (M1.take rs.length) M) v d' := by
  have B : Bk K w as F H M rs os as' (as ++ F) H' M1 := ⟨S, L, m, fun _ z => z, fl⟩
  have base := B.mem gok_F (fun a ha => .inl ha)
  have there := S.there
  refine ⟨base, ?_⟩
  cases r with
  | st h0 h na nd =>
    unfold outD deep at e
    simp [D.val] at e
  | @fl a vs ds h0 h na r m2 =>
    have B2 : Bk K w as F H M rs os as' (a :: (as ++ F)) H' M1 := ⟨S, L, m2, fun _ z => List.mem_cons_of_mem _ z, fl⟩
    have hG : GOk F H as' (a :: (as ++ F)) (a :: F) := fun b hb => (List.mem_cons.mp hb).elim (fun z => .inr (by rw [z]; exact ⟨h0, .inr List.mem_cons_self⟩)) .inl
    have mem := B2.mem hG fun b hb => (List.mem_cons.mp hb).elim (fun z => .inr (by rw [z, h]; exact fun q => nomatch q)) .inl
    have na2 : a ∉ as := fun z => there a z h0
    unfold outD at e
    dsimp only at e
    split at e
    · rename_i hv
      cases e
      exact .fl h0 h na2 (r.vals2 B2.a1 (B2.g1 hG) hv) mem
    · obtain ⟨ys, e2, e3⟩ := om e
      subst e3
      exact .fl h0 h na2 ((deep_ok B2 hG (av := M1.length) (fun b hb => (List.mem_cons.mp hb).elim (fun z => .inr (.inl (by rw [z]; exact na))) .inl) _).2 _ _ _ e2 r) mem
  | val r =>
    by_cases hd : ∃ n, d = .ref n
    · obtain ⟨n, rfl⟩ := hd
      cases r with
      | @ref _ b hb =>
        unfold outD at e
        dsimp only at e
        split at e
        · cases e
        · rename_i hn
          split at e
          · rename_i ds e1
            have h0 := B.new hb (by omega)
            have z := m.obj n b _ hb e1
            cases z with
            | @lst vs _ h r =>
              have hG : GOk F H as' (as ++ F) (b :: F) := fun c hc => (List.mem_cons.mp hc).elim (fun z => .inr (by rw [z]; exact ⟨h0, .inl (List.mem_of_getElem? hb)⟩)) .inl
              have mem := B.mem hG fun c hc => (List.mem_cons.mp hc).elim (fun z => .inr (by rw [z, h]; exact fun q => nomatch q)) .inl
              have nb : b ∉ as := fun z => there b z h0
              split at e
              · rename_i hv
                cases e
                exact .fl h0 h nb (r.vals2 B.a1 (B.g1 hG) hv) mem
              · obtain ⟨ys, e2, e3⟩ := om e
                subst e3
                exact .fl h0 h nb ((deep_ok B hG (av := n) (fun c hc => (List.mem_cons.mp hc).elim (fun z => .inr (.inr (by rw [z]; exact hb))) .inl) _).2 _ _ _ e2 r) mem
          · cases e
    · have e' : deep rs.length M1.length M1 100000 d = some d' := by
        cases d <;> first
          | exact e
          | exact absurd ⟨_, rfl⟩ hd
          | cases r
      exact .val ((deep_ok B gok_F (fun b hb => .inl hb) _).1 _ _ _ e' r)
theorem nodup_dups : ∀ (n : Nat) (l : List Nat), l.length ≤ n → l.eraseDups.Nodup
  | _, [], _ => by
    rw [List.eraseDups_nil]
    exact List.nodup_nil
  | 0, a :: l, h => by
    rw [List.length_cons] at h
    omega
  | n + 1, a :: l, h => by
    rw [List.eraseDups_cons]
    rw [List.length_cons] at h
    have := List.length_filter_le (fun b => !b == a) l
    refine List.nodup_cons.mpr ⟨fun z => ?_, nodup_dups n _ (by omega)⟩
    rw [List.mem_eraseDups] at z
    have := (List.mem_filter.mp z).2
    simp at this
/-- a call of an own def -/
theorem inv_ok {X : Cx} {W : WX} {Q : VK} {r : Rs D} {Fn_ : Fn} {f : Str} {n : Nat} (hn : ds.length = n) (hM : RelH X.K X.w as F H M) (hs : Reps X.K X.w as F H vs ds) (e : inv Fn_ f ds M = some r) (po : PO X as F H r Q) (px : PX X W as F H σ r) :
    spR X.K X.w X.mg Fn_ f n vs H Q (fun cls dx H' => W cls dx σ H') := by
  refine ⟨hs.length.trans hn, ?_⟩
  unfold inv at e
  obtain ⟨h1, e⟩ := oi e
  split at e
  · cases e
  · rename_i os e1
    split at e
    · rename_i hfl
      have mem : ∀ r, D.ref r ∈ ds → r ∈ refsOf ds := fun r hr => by
        unfold refsOf
        rw [List.mem_eraseDups]
        exact List.mem_flatMap.mpr ⟨_, hr, List.mem_singleton.mpr rfl⟩
      have S : Sel X.K X.w as F H M (refsOf ds) os := ⟨hM, by unfold refsOf; exact nodup_dups _ _ (Nat.le_refl _), e1, hfl⟩
      refine ⟨sel as (refsOf ds), as ++ F, os, ds.map (ren (refsOf ds)), ?_⟩
      cases q : Fn_ f (ds.map (ren (refsOf ds))) os with
      | none =>
        rw [q] at e
        cases e
      | some r1 =>
        rw [q] at e
        refine ⟨r1, S.relH, S.args h1 mem hs, rfl, fun d M1 ed as' H' v L m rr => ?_, fun c p M1 ed as' H' cls dx L m xr => ?_⟩
        · subst ed
          unfold backR at e
          dsimp only at e
          split at e
          · rename_i fl
            split at e
            · rename_i d' e2
              cases e
              obtain ⟨m2, r2⟩ := out_ok S L m fl rr e2
              exact po _ _ rfl as H' v (Bk.later ⟨S, L, m, fun _ z => z, fl⟩) m2 r2
            · cases e
          · cases e
        · subst ed
          unfold backR at e
          dsimp only at e
          obtain ⟨h2, e3⟩ := oi e
          cases e3
          have h3 := band h2
          have B : Bk X.K X.w as F H M (refsOf ds) os as' (as ++ F) H' M1 := ⟨S, L, m, fun _ z => z, h3.1⟩
          refine px _ _ _ rfl as H' cls dx B.later (B.mem gok_F fun a ha => .inl ha) ?_
          obtain ⟨x1, x2, x3, x4, x5, x6⟩ := xr
          refine ⟨x1, x2, x3, x4, x5, x6.vals2 B.a1 (B.g1 gok_F) ?_⟩
          have : ∀ p : List (Str × D), p.all (fun q => q.2.val) = true → D.vals (p.map (·.2)) = true := fun p => by
            induction p with
            | nil => exact fun _ => rfl
            | cons x p ih =>
              intro h
              have h' := band (show (x.2.val && p.all fun q => q.2.val) = true from h)
              show (x.2.val && D.vals (p.map (·.2))) = true
              rw [h'.1, ih h'.2]
              rfl
          exact this p h3.2
    · exact ⟨as, F, M, ds, r, hM, hs, e, po, fun c p M' er as' H' cls dx L m x => px c p M' er as' H' cls dx L m x⟩
end Z
end
section
set_option Elab.async false
set_option linter.all false
set_option maxRecDepth 100000
set_option maxHeartbeats 1000000
set_option autoImplicit false
/-! Calls of own defs; what a loop walks; targets. -/
namespace Z
open PySem PySem.Spec PyProof.Rows L2
variable {K : PySem.W.Frag} {w : World} {as as' as'' F F2 : List Addr} {H H₀ H' H'' : Hp} {M M' : Mem} {v : V} {vs : List V} {d : D} {ds : List D} {σ : L2.St} {env : Z.Env}
section
variable {X : Cx} {g : G} {W : WX} {c : Ctx} {e a b : Expr} {es : List Expr} {ce ca cb : E} {ces : Es} {t t' : TE} {pos : Pos}
theorem backR_len {rs : List Nat} {x : Z.R D} {r : Rs D} (e : backR rs M x = some r) : ∃ r1, x = some r1 := by
  cases x with
  | none => cases e
  | some r1 => exact ⟨r1, rfl⟩
theorem inv_len {Fn_ : Fn} {f : Str} {n : Nat} {r : Rs D} (h : ∀ (ds : List D) (M : Mem) (r : Rs D), Fn_ f ds M = some r → ds.length = n) (e : inv Fn_ f ds M = some r) : ds.length = n := by
  unfold inv at e
  obtain ⟨h1, e⟩ := oi e
  split at e
  · cases e
  · split at e
    · obtain ⟨r1, e1⟩ := backR_len e
      have := h _ _ _ e1
      rw [List.length_map] at this
      exact this
    · exact h _ _ _ e
/-- a call of an own def -/
theorem s_call {f : Str} {p : Pos} {fa : Addr} {fd : FuncData} {ps : List Str} {k : Nat} (tk : Takes X W) (hg : Gl X f) (hd : (f == ("__debug__" : Str)) = false) (hm : X.mg f = some (.ref fa)) (hk : PySem.W.keepIn X.K (.ref fa) = true) (hb : Binds X.K fd ps []) (hr : Room k X.A)
    (Fo : FnOk X.prog X.w X.K X.mg X.base (L2.CX X.prog X.w) k fa fd ps (spR X.K X.w X.mg g.call f ps.length)) (hlen : ∀ (ds : List D) (M : Mem) (r : Rs D), g.call f ds M = some r → ds.length = ps.length)
    (ns : ∀ x ∈ es, NS x) (ha : PA X es (tEs X g W ces)) (hl : es = [] → ces = .nil) : PE X (.Call (.Name f p) es [] pos) (tE X g W (.call f ces)) := by
  cases es with
  | nil =>
    rw [hl rfl]
    refine ⟨fun pins s σ H Q I ⟨as, F, M, env, r0, hE, hM, ex, po, px⟩ => ?_⟩
    unfold exE at ex
    unfold exEs at ex
    have e : inv g.call f [] M = some r0 := ex
    refine wpAny_Call_Name_kw (ld_glob I hg hm ?_ hd)
    exact PySem.W.callWith_K0 I.kIn hk (run_fnS (E := WE W) (us := []) Fo hr hb (passAt tk σ) I .nil (inv_ok (inv_len hlen e) hM .nil e po px))
  | cons e0 es =>
    have h1 := star1 (es := es) (env := X.env) (ns e0 List.mem_cons_self)
    have h2 := star_plain (env := X.env) (pos := pos) fun x hx => ns x (List.mem_cons_of_mem _ hx)
    refine PE.imp (pe_callS (E := WE W) Fo hr hg hm hk hb (passAt tk) ha hd h1 h2) fun σ H Q ⟨as, F, M, env, r0, hE, hM, ex, po, px⟩ => ?_
    unfold exE at ex
    refine tEs_mono (args (Q := Q) hE hM ex po px) fun xs H1 ⟨as1, M1, ds, hE1, hM1, hx, e, po, px⟩ => ?_
    obtain ⟨es', e1, e2⟩ := ob e
    exact inv_ok (inv_len hlen e2) hM1 (hx.frz e1) e2 po px

/-! ### what a loop walks -/
/-- what is kept, but for lists that no value names -/
structure LaterF (as F : List Addr) (H : Hp) (as' : List Addr) (H' : Hp) : Prop where
  pre : ∃ new, as' = as ++ new ∧ ∀ a ∈ new, a ∈ F ∨ H a = none
  keep : ∀ (a : Addr) (o : HO), H a = some o → a ∉ as → (a ∉ F ∨ ∀ xs, o ≠ .lst xs) → H' a = some o
  there : ∀ a ∈ as, ∃ xs, H a = some (.lst xs)
theorem Later.lf (L : Later as H as' H') : LaterF as F H as' H' := ⟨let ⟨n, e, h⟩ := L.pre; ⟨n, e, fun a ha => .inr (h a ha)⟩, fun a o e n _ => L.keep a o e n, L.there⟩
theorem LaterF.nin (L : LaterF as F H as' H') {a : Addr} {o : HO} (h : H a = some o) (n : a ∉ as) (f : a ∉ F) : a ∉ as' := by
  obtain ⟨new, e, hn⟩ := L.pre
  intro z
  rw [e] at z
  rcases List.mem_append.mp z with z | z
  · exact n z
  · rcases hn a z with q | q
    · exact f q
    · rw [q] at h
      cases h
theorem LaterF.at_ (L : LaterF as F H as' H') {n : Nat} {a : Addr} (h : as[n]? = some a) : as'[n]? = some a := by
  obtain ⟨new, e, _⟩ := L.pre
  rw [e, List.getElem?_append_left (List.getElem?_eq_some_iff.mp h).1]
  exact h
theorem LaterF.any (L : LaterF as F H as' H') {a : Addr} {o : HO} (h : H a = some o) (no : ∀ xs, o ≠ .lst xs) : H' a = some o := L.keep a o h (fun z => by
  obtain ⟨ys, q⟩ := L.there a z
  rw [q] at h
  cases h
  exact no _ rfl) (.inr no)
theorem LaterF.tup (L : LaterF as F H as' H') {a : Addr} {xs : List V} (h : SqT K H a xs) : SqT K H' a xs := by
  rcases h with (h | ⟨o, h⟩) | h
  · exact .inl (.inl (L.any h fun _ z => nomatch z))
  · exact .inl (.inr ⟨o, L.any h fun _ z => nomatch z⟩)
  · exact .inr h
theorem LaterF.trans (L : LaterF as F H as' H') (L2 : Later as' H' as'' H'') : LaterF as F H as'' H'' := by
  obtain ⟨n1, e1, h1⟩ := L.pre
  obtain ⟨n2, e2, h2⟩ := L2.pre
  refine ⟨⟨n1 ++ n2, by rw [e2, e1, List.append_assoc], fun a ha => ?_⟩, fun a o h n q => ?_, L.there⟩
  · rcases List.mem_append.mp ha with ha | ha
    · exact h1 a ha
    · have h3 := h2 a ha
      by_cases hf : a ∈ F
      · exact .inl hf
      · refine .inr ?_
        cases q : H a with
        | none => rfl
        | some o =>
          have hm : a ∉ as := fun hm => by
            obtain ⟨xs, e⟩ := L2.there a (by rw [e1]; exact List.mem_append_left _ hm)
            rw [h3] at e
            cases e
          rw [L.keep a o q hm (.inl hf)] at h3
          cases h3
  · refine L2.keep a o (L.keep a o h n q) fun z => ?_
    rw [e1] at z
    rcases List.mem_append.mp z with z | z
    · exact n z
    · obtain ⟨xs, e⟩ := L2.there a (by rw [e1]; exact List.mem_append_right _ z)
      have e2 := L.keep a o h n q
      rw [e] at e2
      cases e2
      rcases h1 a z with h3 | h3
      · rcases q with q | q
        · exact q h3
        · exact q _ rfl
      · rw [h3] at h
        cases h
mutual
theorem Rep.lf (L : LaterF as F H as' H') (hF : ∀ a ∈ F2, a ∈ F ∨ H a = none) : ∀ {v : V} {d : D}, Rep K w as F H v d → Rep K w as' F2 H' v d
  | _, _, .non => .non
  | _, _, .bl b => .bl b
  | _, _, .int i => .int i
  | _, _, .str s => .str s
  | _, _, .tup h r => .tup (L.tup h) (Reps.lf L hF r)
  | _, _, .tl h n f r => .tl (L.keep _ _ h n (.inl f)) (L.nin h n f) (fun z => (hF _ z).elim f fun e => by rw [h] at e; cases e) (Reps.lf L hF r)
  | _, _, .sc h r => .sc (h.keep fun o h => L.any h fun _ z => nomatch z) (Reps.lf L hF r)
  | _, _, .dc h => .dc h
  | _, _, .ref h => .ref (L.at_ h)
theorem Reps.lf (L : LaterF as F H as' H') (hF : ∀ a ∈ F2, a ∈ F ∨ H a = none) : ∀ {vs : List V} {ds : List D}, Reps K w as F H vs ds → Reps K w as' F2 H' vs ds
  | _, _, .nil => .nil
  | _, _, .cons h r => .cons (Rep.lf L hF h) (Reps.lf L hF r)
end
/-- the iterator yields the items while the watch holds -/
def WkOk (K : PySem.W.Frag) (w : World) (as F : List Addr) (H : Hp) (J : L2.It) (k : Wk) : Prop :=
  ∀ (as2 F2 : List Addr) (H2 : Hp) (M2 : Mem), LaterF as F H as2 H2 → RelH K w as2 F2 H2 M2 → (∀ a ∈ F2, a ∈ F ∨ H a = none) → k.watch M2 = true → ∀ i : Nat, (i = k.items.length → J.stop i H2) ∧
    ∀ d : D, k.items[i]? = some d → J.go i H2 ∧ ∀ x H3, J.yld i H2 x H3 → Later as2 H2 as2 H3 ∧ RelH K w as2 F2 H3 M2 ∧ Rep K w as2 F2 H3 x d
def tI (X : Cx) (g : G) (W : WX) (it : Z.It) : TI := fun σ H R => ∃ as F M env r, RelE X.K X.w as F H σ env ∧ RelH X.K X.w as F H M ∧ exI g it env M = some r ∧
  (∀ (k : Wk) (M' : Mem), r = .ok k M' → ∀ (as' : List Addr) (H' : Hp), Later as H as' H' → RelH X.K X.w as' F H' M' → ∀ J, WkOk X.K X.w as' F H' J k → R J H') ∧ PX X W as F H σ r
theorem PI.imp {tg : Expr} {t t' : TI} (h : PI X tg e t) (f : ∀ σ H R, t' σ H R → t σ H R) : PI X tg e t' := ⟨fun pins s σ H R I q => h.run pins s σ H R I (f σ H R q)⟩
/-- a list or a tuple, by its value -/
theorem pi_seq {tg : Expr} (he : PE X e t) : PI X tg e (fun σ H R => t σ H fun x H1 => ∃ a, x = .ref a ∧ (((∃ xs, SqL X.K H1 a xs) ∧ R (Itl X.K a) H1) ∨ ((∃ xs, SqT X.K H1 a xs) ∧ R (Itt X.K a) H1))) := by
  refine ⟨fun pins s σ H R I h => thn (he.run pins s σ H _ I h) ?_⟩
  rintro v s1 ⟨x, H1, I1, r1, p, rfl, ⟨⟨xs, hq⟩, q⟩ | ⟨⟨xs, hq⟩, q⟩⟩
  · cases r1
    obtain ⟨its, rv, pl, hz⟩ := I1.list hq
    have fr := I1.hok.fresh (Nat.le_refl s1.heap.objs.size)
    refine wpAny_pyIter_list pl.isList ⟨_, [s1.heap.objs.size], _, _, H1, rfl, ?_, turn_list p _, ⟨_, Heap.get?_push_size _ rfl, rfl, rfl⟩, ?_, q⟩
    · exact I1.kept (t' := s1.toks) fun b o => Heap.get?_push_of_some _
    · intro b hb
      rw [List.mem_singleton.mp hb]
      exact I1.fpOk (Nat.le_refl _) fr
  · cases r1
    obtain ⟨its, rv, pl, hz⟩ := I1.tuple hq
    have fr := I1.hok.fresh (Nat.le_refl s1.heap.objs.size)
    refine wpAny_pyIter_tuple (show s1.heap.IsTuple p its.toArray from pl) ⟨_, [s1.heap.objs.size], _, _, H1, rfl, ?_, turn_tuple p _, ⟨_, Heap.get?_push_size _ rfl, rfl, rfl⟩, ?_, q⟩
    · exact I1.kept (t' := s1.toks) fun b o => Heap.get?_push_of_some _
    · intro b hb
      rw [List.mem_singleton.mp hb]
      exact I1.fpOk (Nat.le_refl _) fr
theorem wk_list {k : Wk} {p : Addr} (h : ∀ (as2 F2 : List Addr) (H2 : Hp) (M2 : Mem), LaterF as F H as2 H2 → RelH K w as2 F2 H2 M2 → (∀ a ∈ F2, a ∈ F ∨ H a = none) → k.watch M2 = true → ∃ xs, SqL K H2 p xs ∧ Reps K w as2 F2 H2 xs k.items) : WkOk K w as F H (Itl K p) k := by
  intro as2 F2 H2 M2 L hM hF hw i
  obtain ⟨xs, hq, r⟩ := h as2 F2 H2 M2 L hM hF hw
  refine ⟨fun e => ⟨xs, hq, by rw [r.length, e]; exact Nat.le_refl _⟩, fun d e => ?_⟩
  obtain ⟨x, e1, r1⟩ := r.get e
  refine ⟨⟨xs, x, hq, e1⟩, ?_⟩
  rintro y H3 ⟨rfl, hy⟩
  have e2 := hy xs hq
  rw [e1] at e2
  cases e2
  exact ⟨.refl hM, hM, r1⟩
theorem wk_tup {k : Wk} {p : Addr} (h : ∀ (as2 F2 : List Addr) (H2 : Hp) (M2 : Mem), LaterF as F H as2 H2 → RelH K w as2 F2 H2 M2 → (∀ a ∈ F2, a ∈ F ∨ H a = none) → k.watch M2 = true → ∃ xs, SqT K H2 p xs ∧ Reps K w as2 F2 H2 xs k.items) : WkOk K w as F H (Itt K p) k := by
  intro as2 F2 H2 M2 L hM hF hw i
  obtain ⟨xs, hq, r⟩ := h as2 F2 H2 M2 L hM hF hw
  refine ⟨fun e => ⟨xs, hq, by rw [r.length, e]; exact Nat.le_refl _⟩, fun d e => ?_⟩
  obtain ⟨x, e1, r1⟩ := r.get e
  refine ⟨⟨xs, x, hq, e1⟩, ?_⟩
  rintro y H3 ⟨rfl, hy⟩
  have e2 := hy xs hq
  rw [e1] at e2
  cases e2
  exact ⟨.refl hM, hM, r1⟩
/-- the walk of a list or a tuple -/
theorem wkSeq_ok {k : Wk} (hM : RelH K w as F H M) (hx : RepW K w as F H v d) (e : wkSeq d M = some k) : ∃ p, v = .ref p ∧ (((∃ xs, SqL K H p xs) ∧ WkOk K w as F H (Itl K p) k) ∨ ((∃ xs, SqT K H p xs) ∧ WkOk K w as F H (Itt K p) k)) := by
  unfold wkSeq at e
  split at e
  · rename_i ds e1
    cases e
    cases hx with
    | val hx =>
      cases hx with
      | @tup p vs ds' h r =>
        cases e1
        exact ⟨p, rfl, .inr ⟨⟨_, h⟩, wk_tup fun as2 F2 H2 M2 L hM hF hw => ⟨vs, L.tup h, r.lf L hF⟩⟩⟩
      | @tl p vs ds' h n f r =>
        cases e1
        exact ⟨p, rfl, .inl ⟨⟨_, SqL.of h⟩, wk_list fun as2 F2 H2 M2 L hM hF hw => ⟨vs, SqL.of (L.keep _ _ h n (.inl f)), r.lf L hF⟩⟩⟩
      | @sc p vs ds' h r =>
        cases e1
        exact ⟨p, rfl, .inl ⟨⟨_, h.sql⟩, wk_list fun as2 F2 H2 M2 L hM hF hw => ⟨vs, (h.keep fun o h => L.any h fun _ z => nomatch z).sql, r.lf L hF⟩⟩⟩
      | @ref n p h =>
        unfold seqOf at e1
        dsimp only at e1
        split at e1
        · rename_i zs e2
          cases e1
          have z := hM.obj n p _ h e2
          cases z with
          | lst h2 r2 =>
            refine ⟨p, rfl, .inl ⟨⟨_, SqL.of h2⟩, wk_list fun as2 F2 H2 M2 L hM2 hF hw => ?_⟩⟩
            have hw' : watchOf (.ref n) ds M2 = true := hw
            unfold watchOf at hw'
            dsimp only at hw'
            split at hw'
            · rename_i ys e3
              have e4 := D.beqs_eq _ _ hw'
              subst e4
              have z2 := hM2.obj n p _ (L.at_ h) e3
              cases z2 with
              | lst h3 r3 => exact ⟨_, SqL.of h3, r3⟩
            · cases hw'
        · cases e1
      | _ => cases e1
    | @fl p vs ds' h n f r =>
      cases e1
      exact ⟨p, rfl, .inl ⟨⟨_, SqL.of h⟩, wk_list fun as2 F2 H2 M2 L hM hF hw => ⟨vs, SqL.of (L.keep _ _ h n (.inl f)), r.lf L hF⟩⟩⟩
    | st => cases e1
  · cases e
theorem liftW_ok {x : Option Wk} {r : Rs Wk} (e : liftW x M = some r) : ∃ k, x = some k ∧ r = .ok k M := by
  unfold liftW at e
  split at e
  · cases e
    exact ⟨_, rfl, rfl⟩
  · cases e
theorem s_seq {tg : Expr} (he : PE X e (tE X g W ce)) : PI X tg e (tI X g W (.seq ce)) := PI.imp (pi_seq he) fun σ H R ⟨as, F, M, env, r0, hE, hM, ex, po, px⟩ => by
  unfold exI at ex
  refine tE_bind hE hM ex px fun d M1 as1 H1 x L1 hM1 r1 e1 => ?_
  obtain ⟨k, e2, rfl⟩ := liftW_ok e1
  obtain ⟨p, rfl, ⟨h1, h2⟩ | ⟨h1, h2⟩⟩ := wkSeq_ok hM1 (r1.weak hM.fex) e2
  · exact ⟨p, rfl, .inl ⟨h1, po _ _ rfl _ _ L1 hM1 _ h2⟩⟩
  · exact ⟨p, rfl, .inr ⟨h1, po _ _ rfl _ _ L1 hM1 _ h2⟩⟩
theorem rangeL_get : ∀ (n : Nat) (lo : Int) (i : Nat) (d : D), (rangeL lo n)[i]? = some d → i < n ∧ d = .int (lo + i)
  | 0, _, _, _, e => by
    unfold rangeL at e
    simp at e
  | n + 1, lo, 0, d, e => by
    unfold rangeL at e
    simp at e
    exact ⟨by omega, by rw [← e]; simp⟩
  | n + 1, lo, i + 1, d, e => by
    unfold rangeL at e
    obtain ⟨h1, h2⟩ := rangeL_get n (lo + 1) i d (by simpa using e)
    exact ⟨by omega, by rw [h2]; congr 1; omega⟩
theorem rangeL_len : ∀ (n : Nat) (lo : Int), (rangeL lo n).length = n
  | 0, _ => rfl
  | n + 1, lo => by
    unfold rangeL
    rw [List.length_cons, rangeL_len n]
theorem wk_rng {lo : Int} {n : Nat} : WkOk K w as F H (Itr lo n) ⟨rangeL lo n, still⟩ := by
  intro as2 F2 H2 M2 L hM hF hw i
  refine ⟨fun e => ?_, fun d e => ?_⟩
  · rw [show i = (rangeL lo n).length from e, rangeL_len]
    exact Nat.le_refl _
  · obtain ⟨h1, rfl⟩ := rangeL_get n lo i d e
    refine ⟨h1, ?_⟩
    rintro x H3 ⟨rfl, rfl⟩
    exact ⟨.refl hM, hM, .int _⟩
theorem wkRng_ok {x y : V} {da db : D} {k : Wk} (hx : RepW K w as F H x da) (hy : RepW K w as F H y db) (e : wkRng da db = some k) : ∃ i j : Int, x = .int i ∧ y = .int j ∧ da = .int i ∧ (-(2 ^ 62) ≤ i ∧ i < 2 ^ 62 ∧ -(2 ^ 62) ≤ j ∧ j < 2 ^ 62) ∧ k = ⟨rangeL i (j - i).toNat, still⟩ := by
  unfold wkRng at e
  split at e
  · rename_i lo hi
    obtain ⟨h, e⟩ := oi e
    cases e
    have h1 := band h
    have h2 := band h1.2
    have h3 := band h2.2
    cases hx with
    | val hx =>
      cases hx
      cases hy with
      | val hy =>
        cases hy
        exact ⟨lo, hi, rfl, rfl, rfl, ⟨of_decide_eq_true h1.1, of_decide_eq_true h2.1, of_decide_eq_true h3.1, of_decide_eq_true h3.2⟩, rfl⟩
  · cases e
theorem s_rng2 {tg : Expr} {p : Pos} (hg : Gl X "range") (hm : X.mg "range" = none) (na : NS a) (nb : NS b) (ha : PE X a (tE X g W ca)) (hb : PE X b (tE X g W cb)) : PI X tg (.Call (.Name "range" p) [a, b] [] pos) (tI X g W (.rng ca cb)) := by
  have h2 : starEach [b] X.env = [(false, eval b X.env)] := star1 nb
  have h1 : starEach [a, b] X.env = [(false, eval a X.env), (false, eval b X.env)] := by rw [star1 na, h2]
  refine PI.imp (pi_range2 hg hm (pa_cons ha (pa_cons hb pa_nil h2) (star1 na)) h1 h2) fun σ H R ⟨as, F, M, env, r0, hE, hM, ex, po, px⟩ => ?_
  unfold exI at ex
  refine tE_bind hE hM ex px fun da M1 as1 H1 x L1 hM1 r1 e1 => ?_
  refine tE_bind (hE.later L1) hM1 e1 (px.later L1) fun db M2 as2 H2 y L2 hM2 r2 e2 => ?_
  obtain ⟨k, e3, rfl⟩ := liftW_ok e2
  obtain ⟨i, j, rfl, rfl, _, h3, rfl⟩ := wkRng_ok ((r1.weak hM.fex).later L2) (r2.weak hM1.fex) e3
  exact ⟨i, j, rfl, h3, po _ _ rfl _ _ (L1.trans L2) hM2 _ wk_rng⟩
theorem exE_c : exE g (.c d) env M = some (.ok d M) := by
  unfold exE
  rfl
theorem s_rng1 {tg : Expr} {p : Pos} (hg : Gl X "range") (hm : X.mg "range" = none) (na : NS a) (ha : PE X a (tE X g W ca)) : PI X tg (.Call (.Name "range" p) [a] [] pos) (tI X g W (.rng (.c (.int 0)) ca)) := by
  refine PI.imp (pi_range1 hg hm (pa_cons ha pa_nil (star1 na)) (star1 na)) fun σ H R ⟨as, F, M, env, r0, hE, hM, ex, po, px⟩ => ?_
  unfold exI at ex
  have ex' : ((exE g ca env M).bind fun y M => liftW (wkRng (.int 0) y) M) = some r0 := by
    rw [exE_c] at ex
    exact ex
  refine tE_bind hE hM ex' px fun da M1 as1 H1 x L1 hM1 r1 e1 => ?_
  obtain ⟨k, e3, rfl⟩ := liftW_ok e1
  obtain ⟨i, j, h0, rfl, e4, h3, rfl⟩ := wkRng_ok (RepW.val (.int 0)) (r1.weak hM.fex) e3
  cases e4
  refine ⟨j, rfl, h3.2.2.1, h3.2.2.2, po _ _ rfl _ _ L1 hM1 _ ?_⟩
  have e5 : (j - 0).toNat = j.toNat := by rw [Int.sub_zero]
  rw [e5]
  exact wk_rng
end
end Z
end
section
set_option Elab.async false
set_option linter.all false
set_option maxRecDepth 100000
set_option maxHeartbeats 1000000
set_option autoImplicit false
/-! Targets; list comprehensions. -/
namespace Z
open PySem PySem.Spec PyProof.Rows L2
variable {K : PySem.W.Frag} {w : World} {as as' as'' F F2 : List Addr} {H H₀ H' H'' : Hp} {M M' : Mem} {v : V} {vs : List V} {d : D} {ds : List D} {σ σ1 : L2.St} {env env1 : Z.Env}
/-! ### targets -/
def setsV : List Nat → List V → L2.St → L2.St
  | i :: is, v :: vs, σ => setsV is vs (σ.set i (some v))
  | _, _, σ => σ
theorem wipe_set {i : Nat} {x : Option V} {σ : L2.St} : ∀ {l : List Nat}, i ∈ l → wipe (σ.set i x) l = wipe σ l
  | [], h => by cases h
  | j :: l, h => by
    unfold wipe
    by_cases e : i ∈ l
    · rw [wipe_set e]
    · have : i = j := by
        rcases List.mem_cons.mp h with h | h
        · exact h
        · exact absurd h e
      subst this
      clear h
      have key : ∀ (l : List Nat) (σ : L2.St), i ∉ l → wipe (σ.set i x) l = (wipe σ l).set i x := fun l => by
        induction l with
        | nil => exact fun _ _ => rfl
        | cons k l ih =>
          intro σ hn
          unfold wipe
          rw [ih σ fun z => hn (List.mem_cons_of_mem _ z), List.set_comm _ _ fun z => hn (by rw [z]; exact List.mem_cons_self)]
      rw [key l σ e, List.set_set]
theorem wipe_sets : ∀ {is : List Nat} {xs : List V} {σ : L2.St} {l : List Nat}, (∀ i ∈ is, i ∈ l) → wipe (setsV is xs σ) l = wipe σ l
  | [], _, _, _, _ => by unfold setsV; rfl
  | i :: is, [], _, _, _ => by unfold setsV; rfl
  | i :: is, x :: xs, σ, l, h => by
    unfold setsV
    rw [wipe_sets fun j hj => h j (List.mem_cons_of_mem _ hj), wipe_set (h i List.mem_cons_self)]
theorem wipe_get {σ : L2.St} {i : Nat} : ∀ {l : List Nat}, i ∈ l → i < σ.length → (wipe σ l)[i]? = some none
  | [], h, _ => by cases h
  | j :: l, h, hl => by
    unfold wipe
    by_cases e : j = i
    · rw [e, List.getElem?_set_self (by rw [wipe_length]; exact hl)]
    · rw [List.getElem?_set_ne e]
      exact wipe_get ((List.mem_cons.mp h).resolve_left fun z => e z.symm) hl
theorem wipe_wipe {σ : L2.St} {l : List Nat} : wipe (wipe σ l) l = wipe σ l := by
  refine List.ext_getElem? fun i => ?_
  by_cases h : i ∈ l
  · by_cases hl : i < σ.length
    · rw [wipe_get h (by rw [wipe_length]; exact hl), wipe_get h hl]
    · rw [List.getElem?_eq_none (by rw [wipe_length, wipe_length]; omega), List.getElem?_eq_none (by rw [wipe_length]; omega)]
  · rw [wipe_out h]
theorem RelE.sets : ∀ {is : List Nat} {xs : List V} {ds : List D} {σ : L2.St} {env env1 : Z.Env}, RelE K w as F H σ env → Reps K w as F H xs ds → bindT is ds env = some env1 → RelE K w as F H (setsV is xs σ) env1 ∧ is.length = ds.length
  | [], _, _, _, _, _, h, .nil, e => by
    cases e
    exact ⟨h, rfl⟩
  | i :: is, _, _, _, _, _, h, .nil, e => by cases e
  | [], _, _, _, _, _, h, .cons _ _, e => by cases e
  | i :: is, _, _, _, _, _, h, .cons r t, e => by
    have := RelE.sets (is := is) (h.set (i := i) r) t e
    exact ⟨this.1, by rw [List.length_cons, List.length_cons, this.2]⟩
/-- a target's reading -/
def tG (X : Cx) (is : List Nat) : TG := fun v σ H Q => ∃ as F M d env env1, RelE X.K X.w as F H σ env ∧ RelH X.K X.w as F H M ∧ Rep X.K X.w as F H v d ∧ bindG is d M env = some env1 ∧
  ∀ σ1, RelE X.K X.w as F H σ1 env1 → (∀ l, (∀ i ∈ is, i ∈ l) → wipe σ1 l = wipe σ l) → Q σ1 H
section
variable {X : Cx} {g : G} {W : WX} {c : Ctx} {e a b : Expr} {es : List Expr} {ce ca cb : E} {ces : Es} {t t' : TE} {pos : Pos}
theorem PG.imp {tg : Expr} {t t' : TG} (h : PG X tg t) (f : ∀ v σ H Q, t' v σ H Q → t v σ H Q) : PG X tg t' := ⟨fun pins s σ H v u Q I r q => h.run pins s σ H v u Q I r (f v σ H Q q)⟩
theorem PGs.imp {tg : List Expr} {t t' : TGs} (h : PGs X tg t) (f : ∀ v σ H Q, t' v σ H Q → t v σ H Q) : PGs X tg t' := ⟨fun pins s σ H v u Q I r q => h.run pins s σ H v u Q I r (f v σ H Q q)⟩
/-- a stored name -/
structure Sto (X : Cx) (x : Str) (i : Nat) : Prop where
  at_ : X.N[i]? = some x
  loc : Loc X.env.scope x
  fn : X.fn x = true ∨ X.env.scope.names.lookup x = some .local
theorem s_gname {x : Str} {i : Nat} (nd : X.N.Nodup) (h : Sto X x i) : PG X (.Name x pos) (tG X [i]) := PG.imp (pg_name nd h.at_ h.loc h.fn) fun v σ H Q ⟨as, F, M, d, env, env1, hE, hM, r, e, q⟩ => by
  unfold bindG at e
  cases e
  exact q _ (hE.set r) fun l hl => wipe_set (hl i List.mem_cons_self)
def gNames (is : List Nat) : TGs := fun vs σ H Q => vs.length = is.length ∧ Q (setsV is vs σ) H
theorem s_gnames (nd : X.N.Nodup) : ∀ {es : List Expr} {is : List Nat}, es.length = is.length → (∀ (j : Nat) (e : Expr) (i : Nat), es[j]? = some e → is[j]? = some i → ∃ x p, e = Expr.Name x p ∧ Sto X x i) → PGs X es (gNames is) ∧ (assignEach es X.env).length = is.length ∧ (assignEach es X.env).findIdx? (·.1) = none
  | [], [], _, _ => by
    refine ⟨PGs.imp pgs_nil fun vs σ H Q ⟨h, q⟩ => ?_, rfl, rfl⟩
    cases vs with
    | nil => exact ⟨rfl, q⟩
    | cons v vs => cases h
  | e :: es, i :: is, hl, h => by
    obtain ⟨x, p, rfl, hs⟩ := h 0 e i rfl rfl
    obtain ⟨h1, h2, h3⟩ := s_gnames nd (es := es) (is := is) (by simpa using hl) fun j e i e1 e2 => h (j + 1) e i (by simpa using e1) (by simpa using e2)
    refine ⟨PGs.imp (pgs_cons (pg_name (pos := p) nd hs.at_ hs.loc hs.fn) h1 rfl) fun vs σ H Q ⟨hl, q⟩ => ?_, ?_, ?_⟩
    · cases vs with
      | nil => cases hl
      | cons v vs => exact ⟨v, vs, rfl, by simpa using hl, q⟩
    · show (assignEach es X.env).length + 1 = is.length + 1
      rw [h2]
    · show (List.findIdx? (fun x => x.1) ((false, _) :: assignEach es X.env)) = none
      rw [List.findIdx?_cons, h3]
      rfl
  | [], i :: is, hl, _ => by simp at hl
  | e :: es, [], hl, _ => by simp at hl
theorem bindG_two {is : List Nat} (h2 : 2 ≤ is.length) (e : bindG is d M env = some env1) : ∃ ds, d = .tup ds ∧ bindT is ds env = some env1 := by
  match is, h2 with
  | i :: j :: is, _ =>
    unfold bindG at e
    dsimp only at e
    split at e
    · exact ⟨_, rfl, e⟩
    · cases e
theorem s_gtup {is : List Nat} {k : Nat} (hc : X.calm = true) (nd : X.N.Nodup) (h2 : 2 ≤ is.length) (hl : es.length = is.length) (h : ∀ (j : Nat) (e : Expr) (i : Nat), es[j]? = some e → is[j]? = some i → ∃ x p, e = Expr.Name x p ∧ Sto X x i) : PG X (.Tuple es k pos) (tG X is) := by
  obtain ⟨h1, h3, h4⟩ := s_gnames nd hl h
  refine PG.imp (pg_tup hc h1 h3 h4) fun v σ H Q ⟨as, F, M, d, env, env1, hE, hM, r, e, q⟩ => ?_
  obtain ⟨ds, rfl, e2⟩ := bindG_two h2 e
  cases r with
  | @tup p xs ds hq r =>
    obtain ⟨h5, h6⟩ := hE.sets r e2
    have h7 := r.length
    exact ⟨p, xs, rfl, hq, by omega, by omega, q _ h5 fun l hl => wipe_sets hl⟩

/-! ### one clause -/
theorem compL_ok {wt : Mem → Bool} {body : D → Mem → Z.R (Option D)} : ∀ {l : List D} {M : Mem} {r : Rs (List D)}, compL wt body l M = some r → ∃ ds M', r = .ok ds M'
  | [], M, r, e => by
    unfold compL at e
    obtain ⟨_, e⟩ := oi e
    cases e
    exact ⟨_, _, rfl⟩
  | x :: xs, M, r, e => by
    unfold compL at e
    obtain ⟨_, e⟩ := oi e
    split at e
    · split at e
      · cases e
        exact ⟨_, _, rfl⟩
      · cases e
    · cases e
theorem compL_cons {wt : Mem → Bool} {body : D → Mem → Z.R (Option D)} {x : D} {xs : List D} {ds : List D} (e : compL wt body (x :: xs) M = some (.ok ds M')) : wt M = true ∧ ∃ y M1 ys, body x M = some (.ok y M1) ∧ compL wt body xs M1 = some (.ok ys M') ∧ ds = (match y with | some y => y :: ys | none => ys) := by
  unfold compL at e
  obtain ⟨h, e⟩ := oi e
  split at e
  · rename_i y M1 e1
    split at e
    · rename_i ys M2 e2
      cases e
      exact ⟨h, y, M1, ys, e1, e2, rfl⟩
    · cases e
  · cases e
theorem compL_nil {wt : Mem → Bool} {body : D → Mem → Z.R (Option D)} {ds : List D} (e : compL wt body [] M = some (.ok ds M')) : wt M = true ∧ ds = [] ∧ M' = M := by
  unfold compL at e
  obtain ⟨h, e⟩ := oi e
  cases e
  exact ⟨h, rfl, rfl⟩
mutual
/-- a list that no value names is written -/
theorem Rep.poke {p : Addr} {xs ys : List V} (hp : H p = some (.lst xs)) : ∀ {v : V} {d : D}, Rep K w as (p :: F) H v d → Rep K w as (p :: F) (upd H p (.lst ys)) v d
  | _, _, .non => .non
  | _, _, .bl b => .bl b
  | _, _, .int i => .int i
  | _, _, .str s => .str s
  | _, _, .tup h r => .tup (by
      rcases h with (h | ⟨o, h⟩) | h
      · exact .inl (.inl (by rw [upd_ne (ne_of h hp (fun z => nomatch z))]; exact h))
      · exact .inl (.inr ⟨o, by rw [upd_ne (ne_of h hp (fun z => nomatch z))]; exact h⟩)
      · exact .inr h) (Reps.poke hp r)
  | _, _, .tl h n f r => .tl (by rw [upd_ne fun z => f (by rw [z]; exact List.mem_cons_self)]; exact h) n f (Reps.poke hp r)
  | _, _, .sc h r => .sc (h.keep fun o h => by rw [upd_ne (ne_of h hp (fun z => nomatch z))]; exact h) (Reps.poke hp r)
  | _, _, .dc h => .dc h
  | _, _, .ref h => .ref h
theorem Reps.poke {p : Addr} {xs ys : List V} (hp : H p = some (.lst xs)) : ∀ {vs : List V} {ds : List D}, Reps K w as (p :: F) H vs ds → Reps K w as (p :: F) (upd H p (.lst ys)) vs ds
  | _, _, .nil => .nil
  | _, _, .cons h r => .cons (Rep.poke hp h) (Reps.poke hp r)
end
theorem RelH.poke {p : Addr} {xs ys : List V} (hp : H p = some (.lst xs)) (np : p ∉ as) (h : RelH K w as (p :: F) H M) : RelH K w as (p :: F) (upd H p (.lst ys)) M := by
  refine ⟨h.len, h.nd, fun a ha => ?_, fun n a o e1 e2 => ?_⟩
  · by_cases e : a = p
    · rw [e, upd_same]
      exact fun z => nomatch z
    · rw [upd_ne e]
      exact h.fex a ha
  · cases h.obj n a o e1 e2 with
    | lst h1 r => exact .lst (by rw [upd_ne fun z => np (by rw [← z]; exact List.mem_of_getElem? e1)]; exact h1) (r.poke hp)
theorem Later.poke {p : Addr} {o : HO} (L : Later as H as' H') (hp : H p = none) : Later as H as' (L2.upd H' p o) := ⟨L.pre, fun a u e n => by rw [upd_ne (ne_of_none e hp)]; exact L.keep a u e n, L.there⟩
theorem LaterF.poke {p : Addr} {xs ys : List V} (L : LaterF as F H as' H') (hf : p ∈ F) (hp : H p = some (.lst xs)) : LaterF as F H as' (L2.upd H' p (.lst ys)) := ⟨L.pre, fun a u e n q => by
  by_cases z : a = p
  · subst z
    rw [hp] at e
    cases e
    rcases q with q | q
    · exact absurd hf q
    · exact absurd rfl (q xs)
  · rw [upd_ne z]
    exact L.keep a u e n q, L.there⟩
/-- no exception leaves -/
def W0 : WX := fun _ _ _ _ => False
theorem px_ok {α : Type} {x : α} : PX X W as F H σ (.ok x M) := fun c p M' e => by cases e
/-- what one turn does -/
def turn1 (g : G) (gt : List Nat) (cond elt : E) (own : List Nat) (env : Z.Env) : D → Mem → Z.R (Option D) := fun d M => match bindG gt d M (wipeE env own) with
        | some env1 => (exT g cond env1 M).bind fun t M => if t then (exE g elt env1 M).bind fun y M => (match frz y with
          | some y => some (.ok (some y) M)
          | none => none) else some (.ok none M)
        | none => none
theorem s_comp {own : List (Str × Nat)} {gt : List Nat} {it : Z.It} {cc : E} (hcalm : g.calm = true → X.calm = true) (hown : ∀ i ∈ gt, i ∈ own.map (·.2)) :
    ∀ σ H Q, tE X g W (.comp gt it cc ce (own.map (·.2))) σ H Q → X.calm = true ∧ tLc (tI X g W it) (tG X gt) (tB_ X g W0 cc) (tE X g W0 ce) (own.map (·.2)) σ H Q := by
  intro σ H Q ⟨as, F, M, env, r0, hE, hM, ex, po, px⟩
  unfold exE at ex
  obtain ⟨hc, ex⟩ := oi ex
  refine ⟨hcalm hc, ?_⟩
  rcases rb ex with ⟨k, M1, e1, e2⟩ | ⟨c, p, M1, e1, e2⟩
  · refine ⟨as, F, M, env, _, hE, hM, e1, fun k' M1' ek as1 H1 L1 hM1 J hJ D hD => ?_, px_ok⟩
    cases ek
    have e2' : (compL k.watch (turn1 g gt cc ce (own.map (·.2)) env) k.items M1).bind (fun ds M => if ds.length ≤ 16777216 then some (Rs.ok (Z.D.fl ds) M) else none) = some r0 := e2
    rcases rb e2' with ⟨dsf, Mf, e3, e4⟩ | ⟨c, p, M3, e3, _⟩
    · obtain ⟨hlen, e5⟩ := op e4
      cases e5
      have nD1 := nin_new hM1 hD
      have hD0 : H D = none := L1.free hD fun z => nD1 (L1.sub _ z)
      refine ⟨fun i m Hc => m = k.items.length - i ∧ i ≤ k.items.length ∧ ∃ as2 M2 acc ds rest, Later as1 H1 as2 Hc ∧ RelH X.K X.w as2 (D :: F) Hc M2 ∧ D ∉ as2 ∧ Hc D = some (.lst acc) ∧ Reps X.K X.w as2 (D :: F) Hc acc ds ∧
        compL k.watch (turn1 g gt cc ce (own.map (·.2)) env) (k.items.drop i) M2 = some (.ok rest Mf) ∧ ds ++ rest = dsf, ⟨k.items.length, rfl, Nat.zero_le _, as1, M1, [], [], dsf, .upd hM1 hD, hM1.laid hD, nD1, upd_same, .nil, e3, rfl⟩, ?_⟩
      rintro i m Hc ⟨rfl, hi, as2, M2, acc, ds, rest, L2, hM2, nD2, hDc, hr, ec, el⟩
      have GF : ∀ a ∈ D :: F, a ∈ F ∨ H1 a = none := fun a ha => (List.mem_cons.mp ha).elim (fun z => .inr (by rw [z]; exact hD)) .inl
      by_cases hlt : i < k.items.length
      · have hd : k.items[i]? = some k.items[i] := List.getElem?_eq_getElem hlt
        rw [List.drop_eq_getElem_cons hlt] at ec
        obtain ⟨hw, y, M3, ys, e6, e7, e8⟩ := compL_cons ec
        obtain ⟨go, step⟩ := (hJ as2 (D :: F) Hc M2 L2.lf hM2 GF hw i).2 _ hd
        refine .inr ⟨go, fun H' => k.items.length - (i + 1) = k.items.length - (i + 1) ∧ i + 1 ≤ k.items.length ∧ ∃ as2 M2 acc ds rest, Later as1 H1 as2 H' ∧ RelH X.K X.w as2 (D :: F) H' M2 ∧ D ∉ as2 ∧ H' D = some (.lst acc) ∧ Reps X.K X.w as2 (D :: F) H' acc ds ∧
          compL k.watch (turn1 g gt cc ce (own.map (·.2)) env) (k.items.drop (i + 1)) M2 = some (.ok rest Mf) ∧ ds ++ rest = dsf, fun H' n => ⟨_, by omega, n⟩, fun x H3 hy => ?_⟩
        obtain ⟨L3, hM3, rx⟩ := step x H3 hy
        unfold turn1 at e6
        split at e6
        · rename_i env1 e9
          have hE1 : RelE X.K X.w as2 (D :: F) H3 σ env := (((hE.later L1).shun hD).later (L2.trans L3))
          refine ⟨as2, D :: F, M2, _, wipeE env (own.map (·.2)), env1, hE1.wipe _, hM3, rx, e9, fun σ1 hE2 hw2 => ⟨?_, ?_⟩⟩
          · rw [hw2 _ hown, wipe_wipe]
          · refine tB_bind hE2 hM3 e6 px_ok fun t M4 as4 H4 L4 hM4 e10 => ?_
            have nD4 : D ∉ as4 := L4.nin (L3.keep _ _ hDc nD2) nD2
            have hD4 : H4 D = some (.lst acc) := L4.keep _ _ (L3.keep _ _ hDc nD2) nD2
            cases t with
            | true =>
              rw [if_pos rfl] at e10 ⊢
              refine tE_bind (hE2.later L4) hM4 e10 px_ok fun z M5 as5 H5 v L5 hM5 r5 e11 => ?_
              split at e11
              · rename_i y' e12
                cases e11
                have nD5 := L5.nin hD4 nD4
                have hD5 := L5.keep _ _ hD4 nD4
                have r6 : Rep X.K X.w as5 (D :: F) H5 v y' := (r5.weak hM4.fex).frz e12
                have r7 : Reps X.K X.w as5 (D :: F) H5 acc ds := hr.later (L3.trans (L4.trans L5))
                refine ⟨acc, hD5, ?_, rfl, hlt, as5, M3, acc ++ [v], ds ++ [y'], ys, (L2.trans (L3.trans (L4.trans L5))).poke hD, hM5.poke hD5 nD5, nD5, upd_same, (r7.append (.cons r6 .nil)).poke hD5, e7, ?_⟩
                · rw [hr.length, ← lim]
                  have := congrArg List.length el
                  rw [List.length_append, e8, List.length_cons] at this
                  omega
                · rw [← el, e8, List.append_assoc]
                  rfl
              · cases e11
            | false =>
              rw [if_neg Bool.false_ne_true] at e10 ⊢
              cases e10
              exact ⟨rfl, hlt, as4, M3, acc, ds, ys, L2.trans (L3.trans L4), hM4, nD4, hD4, hr.later (L3.trans L4), e7, by rw [← el, e8]⟩
        · cases e6
      · have hi' : i = k.items.length := by omega
        rw [hi', List.drop_length] at ec
        obtain ⟨hw, rfl, rfl⟩ := compL_nil ec
        refine .inl ⟨(hJ as2 (D :: F) Hc _ L2.lf hM2 GF hw i).1 hi', ?_⟩
        rw [List.append_nil] at el
        subst el
        exact po _ _ rfl as2 Hc _ (L1.trans L2) (hM2.less sub_cons) (.fl hD0 hDc nD2 hr hM2)
    · obtain ⟨_, _, q⟩ := compL_ok e3
      cases q
  · refine ⟨as, F, M, env, _, hE, hM, e1, fun k' M1' ek => (by cases ek), fun c' p' M1' ek as' H' cls dx L hM' hx => ?_⟩
    cases ek
    exact px _ _ _ e2 as' H' cls dx L hM' hx
end
end Z
end
section
set_option Elab.async false
set_option linter.all false
set_option maxRecDepth 100000
set_option maxHeartbeats 1000000
set_option autoImplicit false
/-! Comprehensions of two clauses. -/
namespace Z
open PySem PySem.Spec PyProof.Rows L2
variable {K : PySem.W.Frag} {w : World} {as as' as'' F F2 : List Addr} {H H₀ H' H'' : Hp} {M M' : Mem} {v : V} {vs : List V} {d : D} {ds : List D} {σ σ1 : L2.St} {env env1 : Z.Env}
theorem RelE.lf (L : LaterF as F H as' H') (h : RelE K w as F H σ env) : RelE K w as' F H' σ env := ⟨h.len, fun i d e => by
  obtain ⟨v, e1, r⟩ := h.at_ i d e
  exact ⟨v, e1, r.lf L fun a ha => .inl ha⟩⟩
theorem LaterF.refl (h : RelH K w as F H M) : LaterF as F H as H := (Later.refl h).lf
theorem compF_ok {wt : Mem → Bool} {body : D → Mem → Z.R (List D)} : ∀ {l : List D} {M : Mem} {r : Rs (List D)}, compF wt body l M = some r → ∃ ds M', r = .ok ds M'
  | [], M, r, e => by
    unfold compF at e
    obtain ⟨_, e⟩ := oi e
    cases e
    exact ⟨_, _, rfl⟩
  | x :: xs, M, r, e => by
    unfold compF at e
    obtain ⟨_, e⟩ := oi e
    split at e
    · split at e
      · cases e
        exact ⟨_, _, rfl⟩
      · cases e
    · cases e
theorem compF_cons {wt : Mem → Bool} {body : D → Mem → Z.R (List D)} {x : D} {xs : List D} {ds : List D} (e : compF wt body (x :: xs) M = some (.ok ds M')) : wt M = true ∧ ∃ y M1 ys, body x M = some (.ok y M1) ∧ compF wt body xs M1 = some (.ok ys M') ∧ ds = y ++ ys := by
  unfold compF at e
  obtain ⟨h, e⟩ := oi e
  split at e
  · rename_i y M1 e1
    split at e
    · rename_i ys M2 e2
      cases e
      exact ⟨h, y, M1, ys, e1, e2, rfl⟩
    · cases e
  · cases e
theorem compF_nil {wt : Mem → Bool} {body : D → Mem → Z.R (List D)} {ds : List D} (e : compF wt body [] M = some (.ok ds M')) : wt M = true ∧ ds = [] ∧ M' = M := by
  unfold compF at e
  obtain ⟨h, e⟩ := oi e
  cases e
  exact ⟨h, rfl, rfl⟩
section
variable {X : Cx} {g : G} {W : WX} {c : Ctx} {e a b : Expr} {es : List Expr} {ce ca cb : E} {ces : Es} {t t' : TE} {pos : Pos}
/-- what an inner turn does -/
def turn2 (g : G) (gt : List Nat) (elt : E) (own : List Nat) (env : Z.Env) : D → Mem → Z.R (Option D) := fun d2 M => match bindG gt d2 M (wipeE env own) with
          | some env2 => (exE g elt env2 M).bind fun y M => (match frz y with
            | some y => some (.ok (some y) M)
            | none => none)
          | none => none
/-- .. an outer one -/
def turnF (g : G) (gt1 : List Nat) (it2 : Z.It) (gt2 : List Nat) (elt : E) (own own2 : List Nat) (env : Z.Env) : D → Mem → Z.R (List D) := fun d M => match bindG gt1 d M (wipeE env own) with
        | some env1 => (exI g it2 env1 M).bind fun w2 M => compL w2.watch (turn2 g gt2 elt own2 env1) w2.items M
        | none => none
theorem s_comp2 {own : List (Str × Nat)} {gt gt1 : List Nat} {it it1 : Z.It} (hcalm : g.calm = true → X.calm = true) (hown : ∀ i ∈ gt ++ gt1, i ∈ own.map (·.2)) :
    ∀ σ H Q, tE X g W (.comp2 gt it gt1 it1 ce (own.map (·.2)) gt1) σ H Q → X.calm = true ∧ tLc2 (tI X g W it) (tG X gt) tYes (tI X g W0 it1) (tG X gt1) tYes (tE X g W0 ce) (own.map (·.2)) gt1 σ H Q := by
  intro σ H Q ⟨as, F, M, env, r0, hE, hM, ex, po, px⟩
  unfold exE at ex
  obtain ⟨hc, ex⟩ := oi ex
  refine ⟨hcalm hc, ?_⟩
  rcases rb ex with ⟨k, M1, e1, e2⟩ | ⟨c, p, M1, e1, e2⟩
  · refine ⟨as, F, M, env, _, hE, hM, e1, fun k' M1' ek as1 H1 L1 hM1 J hJ D hD => ?_, px_ok⟩
    cases ek
    have e2' : (compF k.watch (turnF g gt it1 gt1 ce (own.map (·.2)) gt1 env) k.items M1).bind (fun ds M => if ds.length ≤ 16777216 then some (Rs.ok (Z.D.fl ds) M) else none) = some r0 := e2
    rcases rb e2' with ⟨dsf, Mf, e3, e4⟩ | ⟨c, p, M3, e3, _⟩
    · obtain ⟨hlen, e5⟩ := op e4
      cases e5
      have nD1 := nin_new hM1 hD
      have hD0 : H D = none := L1.free hD fun z => nD1 (L1.sub _ z)
      refine ⟨fun i m Hc => m = k.items.length - i ∧ i ≤ k.items.length ∧ ∃ as2 M2 acc ds rest, Later as1 H1 as2 Hc ∧ RelH X.K X.w as2 (D :: F) Hc M2 ∧ D ∉ as2 ∧ Hc D = some (.lst acc) ∧ Reps X.K X.w as2 (D :: F) Hc acc ds ∧
        compF k.watch (turnF g gt it1 gt1 ce (own.map (·.2)) gt1 env) (k.items.drop i) M2 = some (.ok rest Mf) ∧ ds ++ rest = dsf, ⟨k.items.length, rfl, Nat.zero_le _, as1, M1, [], [], dsf, .upd hM1 hD, hM1.laid hD, nD1, upd_same, .nil, e3, rfl⟩, ?_⟩
      rintro i m Hc ⟨rfl, hi, as2, M2, acc, ds, rest, L2, hM2, nD2, hDc, hr, ec, el⟩
      have GF : ∀ a ∈ D :: F, a ∈ F ∨ H1 a = none := fun a ha => (List.mem_cons.mp ha).elim (fun z => .inr (by rw [z]; exact hD)) .inl
      by_cases hlt : i < k.items.length
      · have hd : k.items[i]? = some k.items[i] := List.getElem?_eq_getElem hlt
        rw [List.drop_eq_getElem_cons hlt] at ec
        obtain ⟨hw, y, M3, ys, e6, e7, e8⟩ := compF_cons ec
        obtain ⟨go, step⟩ := (hJ as2 (D :: F) Hc M2 L2.lf hM2 GF hw i).2 _ hd
        refine .inr ⟨go, fun H' => k.items.length - (i + 1) = k.items.length - (i + 1) ∧ i + 1 ≤ k.items.length ∧ ∃ as2 M2 acc ds rest, Later as1 H1 as2 H' ∧ RelH X.K X.w as2 (D :: F) H' M2 ∧ D ∉ as2 ∧ H' D = some (.lst acc) ∧ Reps X.K X.w as2 (D :: F) H' acc ds ∧
          compF k.watch (turnF g gt it1 gt1 ce (own.map (·.2)) gt1 env) (k.items.drop (i + 1)) M2 = some (.ok rest Mf) ∧ ds ++ rest = dsf, fun H' n => ⟨_, by omega, n⟩, fun x H3 hy => ?_⟩
        obtain ⟨L3, hM3, rx⟩ := step x H3 hy
        unfold turnF at e6
        split at e6
        · rename_i env1 e9
          have hE1 : RelE X.K X.w as2 (D :: F) H3 σ env := (((hE.later L1).shun hD).later (L2.trans L3))
          refine ⟨as2, D :: F, M2, _, wipeE env (own.map (·.2)), env1, hE1.wipe _, hM3, rx, e9, fun σ1 hE2 hw2 => ⟨?_, ?_⟩⟩
          · rw [hw2 _ fun i hi => hown i (List.mem_append_left _ hi), wipe_wipe]
          · dsimp only [tYes]
            rw [if_pos rfl]
            rcases rb e6 with ⟨k2, M4, e10, e11⟩ | ⟨_, _, _, _, q⟩
            · refine ⟨as2, D :: F, M2, env1, _, hE2, hM3, e10, fun k' M4' ek as4 H4 L4 hM4 J1 hJ1 => ?_, px_ok⟩
              cases ek
              have hD3 := L3.keep _ _ hDc nD2
              have nD4 : D ∉ as4 := L4.nin hD3 nD2
              have hD4 : H4 D = some (.lst acc) := L4.keep _ _ hD3 nD2
              have LL := L2.trans (L3.trans L4)
              refine ⟨fun j m Hc => m = k2.items.length - j ∧ j ≤ k2.items.length ∧ ∃ as5 M5 acc ds1 rest, LaterF as4 (D :: F) H4 as5 Hc ∧ Later as1 H1 as5 Hc ∧ RelH X.K X.w as5 (D :: F) Hc M5 ∧ D ∉ as5 ∧ Hc D = some (.lst acc) ∧ Reps X.K X.w as5 (D :: F) Hc acc ds1 ∧
                compL k2.watch (turn2 g gt1 ce gt1 env1) (k2.items.drop j) M5 = some (.ok rest M3) ∧ ds1 ++ rest = ds ++ y, ⟨k2.items.length, rfl, Nat.zero_le _, as4, M4, acc, ds, y, .refl hM4, LL, hM4, nD4, hD4, hr.later (L3.trans L4), e11, rfl⟩, ?_⟩
              rintro j m Hd ⟨rfl, hj, as5, M5, acc5, ds5, rest5, LF5, L5, hM5, nD5, hD5, hr5, ec5, el5⟩
              have GF5 : ∀ a ∈ D :: F, a ∈ D :: F ∨ H4 a = none := fun a ha => .inl ha
              have hlen5 : ds5.length + rest5.length ≤ 16777216 := by
                have h1 := congrArg List.length el5
                have h2 := congrArg List.length el
                rw [List.length_append, List.length_append] at h1
                rw [e8, List.length_append, List.length_append] at h2
                omega
              by_cases hlt5 : j < k2.items.length
              · have hd5 : k2.items[j]? = some k2.items[j] := List.getElem?_eq_getElem hlt5
                rw [List.drop_eq_getElem_cons hlt5] at ec5
                obtain ⟨hw5, y5, M6, ys5, e12, e13, e14⟩ := compL_cons ec5
                obtain ⟨go5, step5⟩ := (hJ1 as5 (D :: F) Hd M5 LF5 hM5 GF5 hw5 j).2 _ hd5
                refine .inr ⟨go5, fun H' => k2.items.length - (j + 1) = k2.items.length - (j + 1) ∧ j + 1 ≤ k2.items.length ∧ ∃ as5 M5 acc ds1 rest, LaterF as4 (D :: F) H4 as5 H' ∧ Later as1 H1 as5 H' ∧ RelH X.K X.w as5 (D :: F) H' M5 ∧ D ∉ as5 ∧ H' D = some (.lst acc) ∧ Reps X.K X.w as5 (D :: F) H' acc ds1 ∧
                  compL k2.watch (turn2 g gt1 ce gt1 env1) (k2.items.drop (j + 1)) M5 = some (.ok rest M3) ∧ ds1 ++ rest = ds ++ y, fun H' n => ⟨_, by omega, n⟩, fun x5 H6 hy5 => ?_⟩
                obtain ⟨L6, hM6, rx5⟩ := step5 x5 H6 hy5
                unfold turn2 at e12
                split at e12
                · rename_i env2 e15
                  have hE6 : RelE X.K X.w as5 (D :: F) H6 σ1 env1 := ((hE2.later L4).lf LF5).later L6
                  refine ⟨as5, D :: F, M5, _, wipeE env1 gt1, env2, hE6.wipe _, hM6, rx5, e15, fun σ2 hE7 hw7 => ⟨?_, ?_⟩⟩
                  · rw [hw7 _ fun i hi => hi, wipe_wipe]
                  · dsimp only [tYes]
                    rw [if_pos rfl]
                    refine tE_bind hE7 hM6 e12 px_ok fun z M7 as7 H7 v L7 hM7 r7 e16 => ?_
                    split at e16
                    · rename_i y' e17
                      cases e16
                      have hD6 := L6.keep _ _ hD5 nD5
                      have nD6 := L7.nin hD6 nD5
                      have hD7 := L7.keep _ _ hD6 nD5
                      have r8 : Rep X.K X.w as7 (D :: F) H7 v y' := (r7.weak hM6.fex).frz e17
                      have r9 : Reps X.K X.w as7 (D :: F) H7 acc5 ds5 := hr5.later (L6.trans L7)
                      refine ⟨acc5, hD7, ?_, rfl, hlt5, as7, M6, acc5 ++ [v], ds5 ++ [y'], ys5, (LF5.trans (L6.trans L7)).poke List.mem_cons_self hD4, (L5.trans (L6.trans L7)).poke hD, hM7.poke hD7 nD6, nD6, upd_same, (r9.append (.cons r8 .nil)).poke hD7, e13, ?_⟩
                      · rw [hr5.length, ← lim]
                        rw [e14, List.length_cons] at hlen5
                        omega
                      · rw [← el5, e14, List.append_assoc]
                        rfl
                    · cases e16
                · cases e12
              · have hj' : j = k2.items.length := by omega
                rw [hj', List.drop_length] at ec5
                obtain ⟨hw5, rfl, rfl⟩ := compL_nil ec5
                refine .inl ⟨(hJ1 as5 (D :: F) Hd _ LF5 hM5 GF5 hw5 j).1 hj', rfl, hlt, as5, _, acc5, ds5, ys, L5, hM5, nD5, hD5, hr5, e7, ?_⟩
                rw [List.append_nil] at el5
                rw [el5, ← el, e8, List.append_assoc]
            · cases q
        · cases e6
      · have hi' : i = k.items.length := by omega
        rw [hi', List.drop_length] at ec
        obtain ⟨hw, rfl, rfl⟩ := compF_nil ec
        refine .inl ⟨(hJ as2 (D :: F) Hc _ L2.lf hM2 GF hw i).1 hi', ?_⟩
        rw [List.append_nil] at el
        subst el
        exact po _ _ rfl as2 Hc _ (L1.trans L2) (hM2.less sub_cons) (.fl hD0 hDc nD2 hr hM2)
    · obtain ⟨_, _, q⟩ := compF_ok e3
      cases q
  · refine ⟨as, F, M, env, _, hE, hM, e1, fun k' M1' ek => (by cases ek), fun c' p' M1' ek as' H' cls dx L hM' hx => ?_⟩
    cases ek
    exact px _ _ _ e2 as' H' cls dx L hM' hx
end
end Z
end
section
set_option Elab.async false
set_option linter.all false
set_option maxRecDepth 100000
set_option maxHeartbeats 2000000
set_option autoImplicit false
/-! Names, forms, what the compiler lets through. -/
namespace Z
open PySem PySem.Spec PyProof.Rows L2
variable {K : PySem.W.Frag} {w : World} {as as' as'' F F2 : List Addr} {H H₀ H' H'' : Hp} {M M' : Mem} {v : V} {vs : List V} {d : D} {ds : List D} {σ σ1 : L2.St} {env env1 : Z.Env}
theorem idx_get {x : Str} : ∀ {N : List Str} {i : Nat}, idxStr x N = some i → N[i]? = some x
  | [], _, e => by cases e
  | y :: r, i, e => by
    unfold idxStr at e
    split at e
    · rename_i h
      cases e
      rw [h]
      rfl
    · obtain ⟨j, h1, h2⟩ := om e
      subst h2
      rw [List.getElem?_cons_succ]
      exact idx_get h1
theorem vis_ok {sc : Scope} {x : Str} (h : isVis sc x = true) : Vis sc x := by
  unfold isVis at h
  split at h
  · rename_i e
    exact .inl e
  · rename_i e
    exact .inr (.inl e)
  · rename_i e
    exact .inr (.inr e)
  · cases h
theorem loc_ok {sc : Scope} {x : Str} (h : isLoc sc x = true) : Loc sc x := by
  unfold isLoc at h
  split at h
  · rename_i e
    exact .inl e
  · rename_i e
    exact .inr e
  · cases h
theorem dbg_ok {x : Str} (h : notDebug x = true) : (x == ("__debug__" : Str)) = false ∧ (x == ("__classdict__" : Str)) = false := by
  have h1 := band (show (!(x == ("__debug__" : Str)) && !(x == ("__classdict__" : Str))) = true from h)
  exact ⟨by simpa using h1.1, by simpa using h1.2⟩
section
variable {X : Cx} {g : G} {W : WX} {c : Ctx} {e a b : Expr} {es : List Expr} {ce ca cb : E} {ces : Es} {t t' : TE} {pos : Pos} {n : Nat} {x : Str}
theorem gl_ok (O : OkC X c g W) (h : isGl c.sc x = true) : Gl X x := by
  have e : c.sc.names.lookup x = some .globalImplicit := by
    unfold isGl at h
    split at h
    · rename_i e
      exact e
    · cases h
  rw [← O.sc] at e
  exact e
theorem bi_name (O : OkC X c g W) (h1 : c.gl.lookup x = none) (h2 : biNames.contains x = true) : X.mg x = none := O.gls.free x (List.contains_iff_mem.mp h2) h1
theorem isBi_ok (O : OkC X c g W) (h : isBi c x = true) : Gl X x ∧ X.mg x = none := by
  have h1 := band (show (isGl c.sc x && ((c.gl.lookup x).isNone && biNames.contains x)) = true from h)
  have h2 := band h1.2
  exact ⟨gl_ok O h1.1, bi_name O (Option.isNone_iff_eq_none.mp h2.1) h2.2⟩
theorem sto_ok (O : OkC X c g W) {i : Nat} (h : slotL c x = some i) : Sto X x i := by
  unfold slotL at h
  obtain ⟨h1, h2⟩ := oi h
  have h3 := band (show (isLoc c.sc x && _) = true from h1)
  exact ⟨by rw [O.N]; exact idx_get h2, by rw [O.sc]; exact loc_ok h3.1, O.st x h1⟩
theorem cBi_ok {f : Str} {bi : Bi} (h : cBi f = some bi) : bootBuiltins f = some (biV bi) ∧ f ≠ "__name__" ∧ (f == ("__debug__" : Str)) = false ∧ bi ≠ .sortedR ∧ bi ≠ .range := by
  unfold cBi at h
  repeat (split at h; · rename_i e; cases h; subst e; exact ⟨by decide +kernel, by decide, by decide, by decide, by decide⟩)
  cases h
theorem cMt_ok {f : Str} {m : Mt} (h : cMt f = some m) : f = mtS m := by
  unfold cMt at h
  repeat (split at h; · rename_i e; cases h; subst e; rfl)
  cases h
theorem cTy_ok (O : OkC X c g W) {T : Ty} (h : cTy c e = some T) : ∃ x p, e = Expr.Name x p ∧ PE X e (tC (.ty (tyN T))) := by
  unfold cTy at h
  split at h
  · rename_i x p
    obtain ⟨h1, h2⟩ := oi h
    obtain ⟨hg, hm⟩ := isBi_ok O h1
    refine ⟨x, p, rfl, ?_⟩
    repeat (split at h2; · rename_i e; cases h2; subst e; exact pe_bltn hg hm (by decide +kernel) rfl (by decide) (by decide))
    cases h2
  · cases h
theorem cTys_ok (O : OkC X c g W) : ∀ {es : List Expr} {ts : List Ty}, cTys c es = some ts → PA X es (fun σ H Q => Q (ts.map fun t => V.ty (tyN t)) H)
  | [], ts, h => by
    cases h
    exact PA.imp pa_nil fun σ H Q q => q
  | e :: es, ts, h => by
    unfold cTys at h
    split at h
    · rename_i t ts' h1 h2
      cases h
      obtain ⟨x, p, rfl, he⟩ := cTy_ok O h1
      exact PA.imp (pa_cons he (cTys_ok O h2) rfl) fun σ H Q q => q
    · cases h

/-! ### what is let through -/
theorem cE_e1 {n : Nat} (h : cE n c e = some ce) : ∃ k c1, cE1 k c e = some c1 := by
  cases n with
  | zero =>
    unfold cE at h
    cases h
  | succ n =>
    unfold cE at h
    obtain ⟨c1, h1, _⟩ := om h
    exact ⟨n, c1, h1⟩
theorem e1_ns {n : Nat} (h : cE1 n c e = some ce) : NS e := by
  intro x p z
  subst z
  cases n with
  | zero =>
    unfold cE1 at h
    cases h
  | succ n =>
    unfold cE1 at h
    cases h
theorem cE_ns {n : Nat} (h : cE n c e = some ce) : NS e := by
  obtain ⟨k, c1, h1⟩ := cE_e1 h
  exact e1_ns h1
theorem cEs_ns : ∀ {n : Nat} {es : List Expr} {ces : Es}, cEs n c es = some ces → (∀ x ∈ es, NS x) ∧ (es = [] → ces = .nil)
  | 0, _, _, h => by
    unfold cEs at h
    cases h
  | n + 1, [], _, h => by
    unfold cEs at h
    cases h
    exact ⟨fun x hx => (by cases hx), fun _ => rfl⟩
  | n + 1, e :: es, _, h => by
    unfold cEs at h
    split at h
    · rename_i h1 h2
      refine ⟨fun x hx => ?_, fun z => nomatch z⟩
      rcases List.mem_cons.mp hx with z | z
      · rw [z]
        exact cE_ns h1
      · exact (cEs_ns h2).1 x z
    · cases h
theorem e1_set {n : Nat} {xs : List Expr} {k : Nat} {p : Pos} (h : cE1 n c (.Set xs k p) = some ce) : False := by
  cases n with
  | zero =>
    unfold cE1 at h
    cases h
  | succ n =>
    unfold cE1 at h
    cases h
theorem cE_mark {n : Nat} (h : cE n c e = some ce) (op : CmpOp) : behindInMarks op e = false := by
  obtain ⟨k, c1, h1⟩ := cE_e1 h
  cases e <;> first
    | rfl
    | exact (e1_set h1).elim
theorem e1_slice {n : Nat} {x y z : Option Expr} {p : Pos} (h : cE1 n c (.Slice x y z p) = some ce) : False := by
  cases n with
  | zero =>
    unfold cE1 at h
    cases h
  | succ n =>
    unfold cE1 at h
    cases h
theorem cE_sub {n : Nat} (h : cE n c e = some ce) : ∀ u t, subscripted e false u t = operate [u, t] (getItem u t) := by
  obtain ⟨k, c1, h1⟩ := cE_e1 h
  intro u t
  cases e <;> first
    | rfl
    | exact (e1_slice h1).elim
theorem cIt_set {n : Nat} {it : Z.It} (h : cIt n c e = some it) : ∀ env x, foldedSetIterable e env x = pure x := by
  intro env x
  cases e <;> first
    | rfl
    | (exfalso
       cases n with
       | zero =>
         unfold cIt at h
         cases h
       | succ n =>
         unfold cIt at h
         obtain ⟨c1, h1, _⟩ := om h
         obtain ⟨k, c2, h2⟩ := cE_e1 h1
         exact e1_set h2)
theorem base_ok {o : Expr} {m : Str} {env : PySem.Env} (h : okBase o = true) : attributeBase o m env (eval o env) = eval o env := by
  unfold attributeBase
  split
  · unfold okBase at h
    simp at h
  · rfl

/-! ### tests by truth -/
theorem bind_bind {α β γ : Type} (x : Z.R α) (f : α → Mem → Z.R β) (k : β → Mem → Z.R γ) : (x.bind f).bind k = x.bind fun a M => (f a M).bind k := by
  cases x with
  | none => rfl
  | some r => cases r <;> rfl
theorem opt_bind {α β γ : Type} (x : Option α) (f : α → Z.R β) (k : β → Mem → Z.R γ) : R.bind (x.bind f) k = x.bind fun a => (f a).bind k := by
  cases x <;> rfl
theorem lift1_bind {β : Type} (x : Option D) (k : D → Mem → Z.R β) : (lift1 x M).bind k = x.bind fun d => k d M := by
  cases x <;> rfl
theorem plain_c : Plain g (.c d) := fun env M => by
  unfold exT exE
  rfl
theorem plain_var {i : Nat} : Plain g (.var i) := fun env M => by
  unfold exT exE
  split <;> rfl
theorem plain_idx : Plain g (.idx ca cb) := fun env M => by
  rw [exT, exE]
  simp only [bind_bind, lift1_bind]
theorem plain_call {f : Str} : Plain g (.call f ces) := fun env M => by
  rw [exT, exE]
  simp only [bind_bind, opt_bind]
theorem plain_bi {bi : Bi} : Plain g (.bi bi ces) := fun env M => by
  rw [exT, exE]
  split
  · simp only [bind_bind, lift1_bind]
  · rfl
theorem plain_isi {ts : List Ty} : Plain g (.isi ca ts) := fun env M => by
  rw [exT, exE]
  simp only [bind_bind]
  congr 1
  funext x M
  cases isTs x M ts <;> rfl
end
end Z
end
section
set_option Elab.async false
set_option linter.all false
set_option maxRecDepth 100000
set_option maxHeartbeats 4000000
set_option autoImplicit false
/-! Expressions: all kinds together. -/
namespace Z
open PySem PySem.Spec PyProof.Rows L2
variable {K : PySem.W.Frag} {w : World} {as as' as'' F F2 : List Addr} {H H₀ H' H'' : Hp} {M M' : Mem} {v : V} {vs : List V} {d : D} {ds : List D} {σ σ1 : L2.St} {env env1 : Z.Env}
section
variable {X : Cx} {g : G} {W : WX} {c : Ctx} {e a b : Expr} {es : List Expr} {ce ca cb : E} {ces : Es} {t t' : TE} {pos : Pos} {n : Nat} {x : Str}
theorem OkC.blk {scope : Scope} (O : OkC X c g W) (hb : L2.blkC c.N c.sc scope (ownOf c scope) = true) (s : Shared) (H : Hp) (C : Addr) (cl : List (Str × Addr)) (fp : List Addr) :
    OkC (X.blk s H scope (compEnvC scope cl C X.env) fp) { c with sc := relS scope c.sc, own := some ((ownOf c scope).map (·.1)) } g W0 := by
  have B := blkOk_by hb
  refine ⟨O.N, O.nd, ?_, fun x h => ?_, O.calm, fun u s' h => ?_, O.units, O.gls, O.fn⟩
  · rw [← O.sc]
    rfl
  · have h1 := band (show (isLoc (relS scope c.sc) x && (notDebug x && ((ownOf c scope).map (·.1)).contains x)) = true from h)
    have h2 := List.contains_iff_mem.mp (band h1.2).2
    obtain ⟨p, hp, rfl⟩ := List.mem_map.mp h2
    obtain ⟨q, hq, e⟩ := List.mem_filterMap.mp hp
    have u := B.uniq q hq
    have hx : q.1 = p.1 := by
      split at e
      · obtain ⟨i, _, e2⟩ := om e
        rw [← e2]
      · obtain ⟨i, _, e2⟩ := om e
        rw [← e2]
      · cases e
    rw [← hx]
    split at e
    · rename_i hk
      rw [hk] at u
      exact .inr (lookup_relS_keep (sc := X.env.scope) (fun z => nomatch z) u)
    · rename_i hk
      rw [hk] at u
      refine .inl ?_
      show (scope.names.lookup q.1 == some NameKind.cell) = true
      rw [u]
      rfl
    · cases e
  · obtain ⟨_, _, _, _, _, _, _, _, _, _, _, _, _, _, _, _, hw⟩ := h
    exact hw
theorem cNames_ok (O : OkC X c g W) : ∀ {es : List Expr} {is : List Nat}, cNames c es = some is → es.length = is.length ∧ ∀ (j : Nat) (e : Expr) (i : Nat), es[j]? = some e → is[j]? = some i → ∃ x p, e = Expr.Name x p ∧ Sto X x i
  | [], is, h => by
    cases h
    exact ⟨rfl, fun j e i e1 => by simp at e1⟩
  | e0 :: es, is, h => by
    unfold cNames at h
    split at h
    · rename_i hz
      cases hz
    · rename_i x p es' hz
      cases hz
      split at h
      · rename_i i is' h1 h2
        cases h
        obtain ⟨h3, h4⟩ := cNames_ok O h2
        refine ⟨by rw [List.length_cons, List.length_cons, h3], fun j e i e1 e2 => ?_⟩
        cases j with
        | zero =>
          simp at e1 e2
          subst e1 e2
          exact ⟨x, p, rfl, sto_ok O h1⟩
        | succ j => exact h4 j e i (by simpa using e1) (by simpa using e2)
      · cases h
    · cases h
theorem s_tgt {tg : Expr} {gt : List Nat} (O : OkC X c g W) (hc : X.calm = true) (h : cTgt c tg = some gt) : PG X tg (tG X gt) := by
  unfold cTgt at h
  split at h
  · obtain ⟨i, h1, h2⟩ := om h
    subst h2
    exact s_gname O.nd (sto_ok O h1)
  · obtain ⟨h1, h2⟩ := op h
    obtain ⟨h3, h4⟩ := cNames_ok O h2
    exact s_gtup hc O.nd (by omega) h3 h4
  · cases h
theorem s_const (h : PE X e (tE X g W (.c d))) (he : ∀ whole, isTrue e X.env whole = (do let v ← whole; standAt e.pos; holding [v] (truthy v))) : PE X e (tE X g W (.c d)) ∧ PT X e (tB_ X g W (.c d)) := ⟨h, s_truth h plain_c he⟩
/-- the two readings of an expression -/
abbrev Both (X : Cx) (g : G) (W : WX) (e : Expr) (ce : E) : Prop := PE X e (tE X g W ce) ∧ PT X e (tB_ X g W ce)
structure AllOk (g : G) (n : Nat) : Prop where
  e : ∀ (X : Cx) (c : Ctx) (W : WX) (e : Expr) (ce : E), OkC X c g W → cE n c e = some ce → Both X g W e ce
  es : ∀ (X : Cx) (c : Ctx) (W : WX) (es : List Expr) (ces : Es), OkC X c g W → cEs n c es = some ces → PA X es (tEs X g W ces)
  e1 : ∀ (X : Cx) (c : Ctx) (W : WX) (e : Expr) (ce : E), OkC X c g W → cE1 n c e = some ce → Both X g W e ce
  o : ∀ (X : Cx) (c : Ctx) (W : WX) (e : Option Expr) (ce : E), OkC X c g W → cOpt n c e = some ce → L2.PO X e (tO X g W ce)
  an : ∀ (X : Cx) (c : Ctx) (W : WX) (es : List Expr) (r : Option E), OkC X c g W → cAnd n c es = some r → (es = [] ∧ r = none) ∨ ∃ a rest ce, es = a :: rest ∧ r = some ce ∧ ∀ pos, PE X (.BoolOp .And es pos) (tE X g W ce) ∧ PW X (.BoolOp .And es pos) (tB_ X g W ce)
  or : ∀ (X : Cx) (c : Ctx) (W : WX) (es : List Expr) (r : Option E), OkC X c g W → cOr n c es = some r → (es = [] ∧ r = none) ∨ ∃ a rest ce, es = a :: rest ∧ r = some ce ∧ ∀ pos, PE X (.BoolOp .Or es pos) (tE X g W ce) ∧ PW X (.BoolOp .Or es pos) (tB_ X g W ce)
  ifs : ∀ (X : Cx) (c : Ctx) (W : WX) (es : List Expr) (ce : E), OkC X c g W → cIfs n c es = some ce → PTs X es (tB_ X g W ce)
  it : ∀ (X : Cx) (c : Ctx) (W : WX) (e tg : Expr) (it : Z.It), OkC X c g W → cIt n c e = some it → PI X tg e (tI X g W it)
theorem and_cons {rest : List Expr} {r : Option E} (ha : Both X g W a ca) (hr : (rest = [] ∧ r = none) ∨ ∃ b rest' cb, rest = b :: rest' ∧ r = some cb ∧ ∀ pos, PE X (.BoolOp .And rest pos) (tE X g W cb) ∧ PW X (.BoolOp .And rest pos) (tB_ X g W cb)) (pos : Pos) :
    PE X (.BoolOp .And (a :: rest) pos) (tE X g W (r.elim ca (.and ca))) ∧ PW X (.BoolOp .And (a :: rest) pos) (tB_ X g W (r.elim ca (.and ca))) := by
  rcases hr with ⟨rfl, rfl⟩ | ⟨b, rest', cb, rfl, rfl, h⟩
  · exact ⟨pe_one ha.1, pw_and1 ha.2⟩
  · exact ⟨s_and ha.1 (h pos).1, s_andT ha.2 (h pos).2⟩
theorem or_cons {rest : List Expr} {r : Option E} (ha : Both X g W a ca) (hr : (rest = [] ∧ r = none) ∨ ∃ b rest' cb, rest = b :: rest' ∧ r = some cb ∧ ∀ pos, PE X (.BoolOp .Or rest pos) (tE X g W cb) ∧ PW X (.BoolOp .Or rest pos) (tB_ X g W cb)) (pos : Pos) :
    PE X (.BoolOp .Or (a :: rest) pos) (tE X g W (r.elim ca (.or ca))) ∧ PW X (.BoolOp .Or (a :: rest) pos) (tB_ X g W (r.elim ca (.or ca))) := by
  rcases hr with ⟨rfl, rfl⟩ | ⟨b, rest', cb, rfl, rfl, h⟩
  · exact ⟨pe_one ha.1, pw_or1 ha.2⟩
  · exact ⟨s_or ha.1 (h pos).1, s_orT ha.2 (h pos).2⟩
theorem both_mat {p : Pos} (h : Both X g W e ce) : Both X g W e (matAt c p ce) := by
  unfold matAt
  split
  · exact ⟨s_mat h.1, s_none fun env M => by rw [exT] <;> (intros; contradiction)⟩
  · exact h
/-- a call of a built-in by its name -/
theorem both_bi {f : Str} {p : Pos} {n : Nat} {bi : Bi} (O : OkC X c g W) (A : AllOk g n) (hg : Gl X f) (hm : X.mg f = none) (h1 : cBi f = some bi) (h2 : cEs n c es = some ces) : Both X g W (.Call (.Name f p) es [] pos) (.bi bi ces) := by
  obtain ⟨h3, h4, h5, h6, h7⟩ := cBi_ok h1
  obtain ⟨h8, h9⟩ := cEs_ns h2
  have h := s_bi (p := p) (pos := pos) h6 h7 O.units O.calm hg hm h3 h4 h5 h8 (A.es X c W es ces O h2) h9
  exact ⟨h, s_truth h plain_bi fun _ => rfl⟩
theorem AllOk.zero : AllOk g 0 := ⟨fun X c W e ce O h => by (unfold cE at h; cases h), fun X c W e ce O h => by (unfold cEs at h; cases h), fun X c W e ce O h => by (unfold cE1 at h; cases h), fun X c W e ce O h => by (unfold cOpt at h; cases h),
  fun X c W e ce O h => by (unfold cAnd at h; cases h), fun X c W e ce O h => by (unfold cOr at h; cases h), fun X c W e ce O h => by (unfold cIfs at h; cases h), fun X c W e tg ce O h => by (unfold cIt at h; cases h)⟩
theorem it_succ {n : Nat} (A : AllOk g n) (X : Cx) (c : Ctx) (W : WX) (e tg : Expr) (it : Z.It) (O : OkC X c g W) (h : cIt (n + 1) c e = some it) : PI X tg e (tI X g W it) := by
  have seq : ∀ {e : Expr} {it : Z.It}, (cE n c e).map Z.It.seq = some it → PI X tg e (tI X g W it) := fun {e it} h => by
    obtain ⟨ce, h1, rfl⟩ := om h
    exact s_seq (A.e X c W e ce O h1).1
  unfold cIt at h
  split at h
  · split at h
    · rename_i hb
      have hb := band hb
      obtain ⟨ca, h1, rfl⟩ := om h
      obtain ⟨hg, hm⟩ := isBi_ok O hb.2
      have hf := of_decide_eq_true hb.1
      subst hf
      exact s_rng1 hg hm (cE_ns h1) (A.e X c W _ ca O h1).1
    · exact seq h
  · split at h
    · rename_i hb
      have hb := band hb
      obtain ⟨hg, hm⟩ := isBi_ok O hb.2
      have hf := of_decide_eq_true hb.1
      subst hf
      split at h
      · rename_i ca cb h1 h2
        cases h
        exact s_rng2 hg hm (cE_ns h1) (cE_ns h2) (A.e X c W _ ca O h1).1 (A.e X c W _ cb O h2).1
      · cases h
    · exact seq h
  · exact seq h
end
end Z
end
section
set_option Elab.async false
set_option linter.all false
set_option maxRecDepth 100000
set_option maxHeartbeats 8000000
set_option autoImplicit false
/-! Expressions: the induction. -/
namespace Z
open PySem PySem.Spec PyProof.Rows L2
variable {K : PySem.W.Frag} {w : World} {as as' as'' F F2 : List Addr} {H H₀ H' H'' : Hp} {M M' : Mem} {v : V} {vs : List V} {d : D} {ds : List D} {σ σ1 : L2.St} {env env1 : Z.Env}
section
variable {X : Cx} {g : G} {W : WX} {c : Ctx} {e a b : Expr} {es : List Expr} {ce ca cb : E} {ces : Es} {t t' : TE} {pos : Pos} {n : Nat} {x : Str}
theorem both_none (h : PE X e (tE X g W ce)) (q : ∀ env M, exT g ce env M = none) : Both X g W e ce := ⟨h, s_none q⟩
theorem both_lc {elt tg iter : Expr} {ifs : List Expr} {scope : Scope} (O : OkC X c g W) (A : AllOk g n) (hb : L2.blkC c.N c.sc scope (ownOf c scope) = true) {gt : List Nat} {it : Z.It} {cc : E}
    (h1 : cTgt { c with sc := relS scope c.sc, own := some ((ownOf c scope).map (·.1)) } tg = some gt) (h2 : cIt n c iter = some it) (h3 : cIfs n { c with sc := relS scope c.sc, own := some ((ownOf c scope).map (·.1)) } ifs = some cc)
    (h4 : cE n { c with sc := relS scope c.sc, own := some ((ownOf c scope).map (·.1)) } elt = some ce) (h5 : gt.all (fun i => ((ownOf c scope).map (·.2)).contains i) = true) :
    PE X (.ListComp elt [⟨tg, iter, ifs, 0⟩] scope pos) (tE X g W (.comp gt it cc ce ((ownOf c scope).map (·.2)))) := by
  have B : BlkOk X.N X.env.scope scope (ownOf c scope) := by
    rw [O.N, O.sc]
    exact blkOk_by hb
  have hown : ∀ i ∈ gt, i ∈ (ownOf c scope).map (·.2) := fun i hi => List.contains_iff_mem.mp (List.all_eq_true.mp h5 i hi)
  refine ⟨fun pins s σ H Q I h => ?_⟩
  obtain ⟨hc, h'⟩ := s_comp O.calm hown σ H Q h
  exact (pe_lc hc O.nd (A.it X c W iter tg it O h2) B (fun s H C cl fp => s_tgt (O.blk hb s H C cl fp) hc h1) (fun s H C cl fp => A.ifs _ _ _ ifs cc (O.blk hb s H C cl fp) h3)
    (fun s H C cl fp => (A.e _ _ _ elt ce (O.blk hb s H C cl fp) h4).1) (cIt_set h2 _)).run pins s σ H Q I h'
theorem both_lc2 {elt tg iter tg1 iter1 : Expr} {scope : Scope} (O : OkC X c g W) (A : AllOk g n) (hb : L2.blkC c.N c.sc scope (ownOf c scope) = true) {gt gt1 : List Nat} {it it1 : Z.It}
    (h1 : cTgt { c with sc := relS scope c.sc, own := some ((ownOf c scope).map (·.1)) } tg = some gt) (h2 : cIt n c iter = some it) (h3 : cTgt { c with sc := relS scope c.sc, own := some ((ownOf c scope).map (·.1)) } tg1 = some gt1)
    (h6 : cIt n { c with sc := relS scope c.sc, own := some ((ownOf c scope).map (·.1)) } iter1 = some it1)
    (h4 : cE n { c with sc := relS scope c.sc, own := some ((ownOf c scope).map (·.1)) } elt = some ce) (h5 : (gt ++ gt1).all (fun i => ((ownOf c scope).map (·.2)).contains i) = true) :
    PE X (.ListComp elt [⟨tg, iter, [], 0⟩, ⟨tg1, iter1, [], 0⟩] scope pos) (tE X g W (.comp2 gt it gt1 it1 ce ((ownOf c scope).map (·.2)) gt1)) := by
  have B : BlkOk X.N X.env.scope scope (ownOf c scope) := by
    rw [O.N, O.sc]
    exact blkOk_by hb
  have hown : ∀ i ∈ gt ++ gt1, i ∈ (ownOf c scope).map (·.2) := fun i hi => List.contains_iff_mem.mp (List.all_eq_true.mp h5 i hi)
  refine ⟨fun pins s σ H Q I h => ?_⟩
  obtain ⟨hc, h'⟩ := s_comp2 O.calm hown σ H Q h
  exact (pe_lc2 hc O.nd (A.it X c W iter tg it O h2) B (fun i hi => hown i (List.mem_append_right _ hi)) (fun s H C cl fp => s_tgt (O.blk hb s H C cl fp) hc h1) (fun s H C cl fp => pts_nil)
    (fun s H C cl fp => A.it _ _ _ iter1 tg1 it1 (O.blk hb s H C cl fp) h6) (fun s H C cl fp => s_tgt (O.blk hb s H C cl fp) hc h3) (fun s H C cl fp => pts_nil)
    (fun s H C cl fp => (A.e _ _ _ elt ce (O.blk hb s H C cl fp) h4).1) (cIt_set h2 _) (cIt_set h6)).run pins s σ H Q I h'
theorem both_call {f : Str} {p : Pos} (O : OkC X c g W) (A : AllOk g n) (hg : isGl c.sc f = true) (hd : notDebug f = true) (h1 : c.gl.lookup f = some .fn) (h2 : cEs n c es = some ces) : Both X g W (.Call (.Name f p) es [] pos) (.call f ces) := by
  obtain ⟨a, fd, ps, k, hm, hk, hb, hr, Fo, hl⟩ := O.fn f h1
  obtain ⟨h8, h9⟩ := cEs_ns h2
  have h := s_call (p := p) (pos := pos) O.tk (gl_ok O hg) (dbg_ok hd).1 hm hk hb hr Fo hl h8 (A.es X c W es ces O h2) h9
  exact ⟨h, s_truth h plain_call fun _ => rfl⟩
theorem e1_name {p : Pos} (O : OkC X c g W) (h : (match slot c x with
      | some i => some (E.var i)
      | none => if isGl c.sc x && notDebug x then (match c.gl.lookup x with
        | some (.con d) => some (.c d)
        | _ => none) else none) = some ce) : Both X g W (.Name x p) ce := by
  split at h
  · rename_i i h1
    cases h
    unfold slot at h1
    obtain ⟨h2, h3⟩ := oi h1
    have h4 := band h2
    obtain ⟨h5, h6⟩ := dbg_ok h4.2
    have vis := vis_ok h4.1
    rw [← O.sc] at vis
    have q : PE X (.Name x p) (tE X g W (.var i)) := s_var (pe_var (by rw [O.N]; exact idx_get h3) vis h5 h6)
    exact ⟨q, s_truth q plain_var fun _ => rfl⟩
  · obtain ⟨h2, h3⟩ := oi h
    have h4 := band h2
    split at h3
    · rename_i d h5
      cases h3
      obtain ⟨u, v, h6, h7, h8⟩ := O.gls.con x d h5
      have q : PE X (.Name x p) (tE X g W (.c d)) := s_c (pe_glob (gl_ok O h4.1) h6 h7 (dbg_ok h4.2).1) h8
      exact ⟨q, s_truth q plain_c fun _ => rfl⟩
    · cases h3
/-- the calls of names -/
theorem e1_call {f : Str} {p : Pos} {args : List Expr} (O : OkC X c g W) (A : AllOk g n) (h : cE1 (n + 1) c (.Call (.Name f p) args [] pos) = some ce) : Both X g W (.Call (.Name f p) args [] pos) ce := by
  have bi : ∀ {args : List Expr} {ce : E}, isGl c.sc f = true → c.gl.lookup f = none → biNames.contains f = true → (match cBi f, cEs n c args with
            | some b, some as => some (E.bi b as)
            | _, _ => none) = some ce → Both X g W (.Call (.Name f p) args [] pos) ce := fun {args ce} hg h0 hc h => by
    split at h
    · rename_i b as h1 h2
      cases h
      exact both_bi O A (gl_ok O hg) (bi_name O h0 hc) h1 h2
    · cases h
  unfold cE1 at h
  dsimp only at h
  have hh := oi h
  clear h
  obtain ⟨h0, h⟩ := hh
  have h1 := band h0
  split at h
  · rename_i h2
    obtain ⟨as, h3, rfl⟩ := om h
    exact both_call O A h1.1 h1.2 h2 h3
  · cases h
  · rename_i h2
    split at h
    · cases h
    · rename_i hc
      have hc : biNames.contains f = true := by simpa using hc
      have nm := bi_name O h2 hc
      have gl := gl_ok O h1.1
      split at h
      · rename_i a ts k p2
        split at h
        · rename_i hf
          subst hf
          split at h
          · rename_i ca ts' h3 h4
            obtain ⟨h5, h6⟩ := op h
            cases h6
            have q : PE X (.Call (.Name "isinstance" p) [a, .Tuple ts k p2] [] pos) (tE X g W (.isi ca ts')) := tys_ok (cTys_ok O h4) h5 (cE_ns h3) (A.e X c W a ca O h3).1 gl nm
            exact ⟨q, s_truth q plain_isi fun _ => rfl⟩
          · cases h
        · exact bi h1.1 h2 hc h
      · rename_i a t _
        split at h
        · rename_i hf
          subst hf
          split at h
          · rename_i ca T h3 h4
            cases h
            obtain ⟨y, p2, rfl, hT⟩ := cTy_ok O h4
            have q : PE X (.Call (.Name "isinstance" p) [a, .Name y p2] [] pos) (tE X g W (.isi ca [T])) := s_isi1 gl nm (cE_ns h3) (A.e X c W a ca O h3).1 hT
            exact ⟨q, s_truth q plain_isi fun _ => rfl⟩
          · cases h
        · exact bi h1.1 h2 hc h
      · rename_i r p2 a p3
        split at h
        · rename_i hf
          have hf := band hf
          have hf2 := band hf.2
          obtain ⟨ca, h3, rfl⟩ := om h
          have e1 := of_decide_eq_true hf.1
          have e2 := of_decide_eq_true hf2.1
          obtain ⟨hg2, hm2⟩ := isBi_ok O hf2.2
          subst e1 e2
          have q : PE X (.Call (.Name "list" p) [.Call (.Name "range" p2) [a] [] p3] [] pos) (tE X g W (.bi .range (.cons ca .nil))) := s_listRg O.calm gl nm hg2 hm2 (cE_ns h3) (A.e X c W a ca O h3).1
          exact ⟨q, s_truth q plain_bi fun _ => rfl⟩
        · exact bi h1.1 h2 hc h
      · exact bi h1.1 h2 hc h
end
end Z
end
section
set_option Elab.async false
set_option linter.all false
set_option maxRecDepth 100000
set_option maxHeartbeats 8000000
set_option autoImplicit false
/-! Expressions: the induction. -/
namespace Z
open PySem PySem.Spec PyProof.Rows L2
section
variable {X : Cx} {g : G} {W : WX} {c : Ctx} {e a b : Expr} {es : List Expr} {ce ca cb : E} {ces : Es} {t t' : TE} {pos : Pos} {n : Nat} {x : Str}
theorem e1_mth {o : Expr} {m : Str} {ap : Pos} {args : List Expr} (O : OkC X c g W) (A : AllOk g n) (h : cE1 (n + 1) c (.Call (.Attribute o m ap) args [] pos) = some ce) : Both X g W (.Call (.Attribute o m ap) args [] pos) ce := by
  unfold cE1 at h
  dsimp only at h
  obtain ⟨h0, h1⟩ := oi h
  have h2 := band h0
  have h3 := band h2.2
  split at h1
  · rename_i mt co cas e1 e2 e3
    cases h1
    obtain ⟨h8, h9⟩ := cEs_ns e3
    exact both_none (s_mth (cMt_ok e1) (base_ok h2.1) h3.1 (of_decide_eq_true h3.2) h8 (A.e X c W o co O e2).1 (A.es X c W args cas O e3) h9) fun env M => by rw [exT] <;> (intros; contradiction)
  · cases h1
theorem e1_succ {n : Nat} (A : AllOk g n) (X : Cx) (c : Ctx) (W : WX) (e : Expr) (ce : E) (O : OkC X c g W) (h : cE1 (n + 1) c e = some ce) : Both X g W e ce := by
  have h' := h
  unfold cE1 at h
  split at h
  · cases h
    exact s_const (s_c pe_non fun _ _ _ => .non) fun _ => rfl
  · cases h
    exact s_const (s_c pe_bl fun _ _ _ => .bl _) fun _ => rfl
  · cases h
    exact s_const (s_c pe_int fun _ _ _ => .int _) fun _ => rfl
  · cases h
    exact s_const (s_c pe_str fun _ _ _ => .str _) fun _ => rfl
  · exact e1_name O h
  · split at h
    · rename_i ca p cb h1 h2 h3
      cases h
      exact both_none (s_bin h2 (A.e X c W _ ca O h1).1 (A.e X c W _ cb O h3).1) fun env M => by rw [exT] <;> (intros; contradiction)
    · cases h
  · obtain ⟨ca, h1, rfl⟩ := om h
    exact both_none (s_neg (A.e X c W _ ca O h1).1) fun env M => by rw [exT] <;> (intros; contradiction)
  · obtain ⟨ca, h1, rfl⟩ := om h
    exact ⟨s_not (A.e X c W _ ca O h1).1, s_notT (A.e X c W _ ca O h1).2⟩
  · split at h
    · rename_i ca r h1 h2
      cases h
      have q := and_cons (A.e X c W _ ca O h1) (A.an X c W _ r O h2)
      exact ⟨(q _).1, (q _).2.pt⟩
    · cases h
  · split at h
    · rename_i ca r h1 h2
      cases h
      have q := or_cons (A.e X c W _ ca O h1) (A.or X c W _ r O h2)
      exact ⟨(q _).1, (q _).2.pt⟩
    · cases h
  · split at h
    · rename_i ct ca cb h1 h2 h3
      cases h
      have q1 := A.e X c W _ ct O h1
      have q2 := A.e X c W _ ca O h2
      have q3 := A.e X c W _ cb O h3
      exact ⟨s_ite q1.2 q2.1 q3.1, s_iteT q1.2 q2.2 q3.2⟩
    · cases h
  · split at h
    · rename_i ca cb h1 h2
      cases h
      exact s_cmp (by have := O.units; omega) (cE_mark h2 _) (A.e X c W _ ca O h1).1 (A.e X c W _ cb O h2).1
    · cases h
  · split at h
    · rename_i ca cb cd h1 h2 h3
      cases h
      exact s_chn (by have := O.units; omega) (cE_mark h3 _) (A.e X c W _ ca O h1).1 (A.e X c W _ cb O h2).1 (A.e X c W _ cd O h3).1
    · cases h
  · obtain ⟨ces, h1, rfl⟩ := om h
    exact both_none (s_tup (A.es X c W _ ces O h1)) fun env M => by rw [exT] <;> (intros; contradiction)
  · obtain ⟨ces, h1, rfl⟩ := om h
    exact both_none (s_lst (A.es X c W _ ces O h1)) fun env M => by rw [exT] <;> (intros; contradiction)
  · split at h
    · rename_i ca cl ch h1 h2 h3
      cases h
      exact both_none (s_sli (A.e X c W _ ca O h1).1 (A.o X c W _ cl O h2) (A.o X c W _ ch O h3)) fun env M => by rw [exT] <;> (intros; contradiction)
    · cases h
  · split at h
    · rename_i ca ci h1 h2
      cases h
      have q := s_idx (pos := by assumption) (cE_sub h2) (A.e X c W _ ca O h1).1 (A.e X c W _ ci O h2).1
      exact ⟨q, s_truth q plain_idx fun _ => rfl⟩
    · cases h
  · dsimp only at h
    obtain ⟨hb, h1⟩ := oi h
    split at h1
    · rename_i g1 w1 t1 e1 q1 q2 q3 q4
      obtain ⟨h5, h6⟩ := oi h1
      cases h6
      exact both_none (both_lc O A hb q1 q2 q3 q4 h5) fun env M => by rw [exT] <;> (intros; contradiction)
    · cases h1
  · dsimp only at h
    obtain ⟨hb, h1⟩ := oi h
    split at h1
    · rename_i g1 w1 g2 w2 e1 q1 q2 q3 q4 q5
      obtain ⟨h5, h6⟩ := oi h1
      cases h6
      exact both_none (both_lc2 O A hb q1 q2 q3 q4 q5 h5) fun env M => by rw [exT] <;> (intros; contradiction)
    · cases h1
  · exact e1_call O A h'
  · exact e1_mth O A h'
  · cases h
theorem AllOk.succ {n : Nat} (A : AllOk g n) : AllOk g (n + 1) where
  e := fun X c W e ce O h => by
    unfold cE at h
    obtain ⟨c1, h1, rfl⟩ := om h
    exact both_mat (A.e1 X c W e c1 O h1)
  es := fun X c W es ces O h => by
    unfold cEs at h
    split at h
    · rename_i hz
      cases hz
    · cases h
      exact s_nil
    · rename_i hz
      cases hz
      split at h
      · rename_i h1 h2
        cases h
        exact s_cons (cE_ns h1) (A.e X _ W _ _ O h1).1 (A.es X _ W _ _ O h2)
      · cases h
  e1 := e1_succ A
  o := fun X c W e ce O h => by
    unfold cOpt at h
    split at h
    · rename_i hz
      cases hz
    · cases h
      exact s_nopart
    · rename_i hz
      cases hz
      exact s_part (A.e X _ W _ _ O h).1
  an := fun X c W es r O h => by
    unfold cAnd at h
    split at h
    · rename_i hz
      cases hz
    · cases h
      exact .inl ⟨rfl, rfl⟩
    · rename_i hz
      cases hz
      split at h
      · rename_i h1 h2
        cases h
        exact .inr ⟨_, _, _, rfl, rfl, and_cons (A.e X _ W _ _ O h1) (A.an X _ W _ _ O h2)⟩
      · cases h
  or := fun X c W es r O h => by
    unfold cOr at h
    split at h
    · rename_i hz
      cases hz
    · cases h
      exact .inl ⟨rfl, rfl⟩
    · rename_i hz
      cases hz
      split at h
      · rename_i h1 h2
        cases h
        exact .inr ⟨_, _, _, rfl, rfl, or_cons (A.e X _ W _ _ O h1) (A.or X _ W _ _ O h2)⟩
      · cases h
  ifs := fun X c W es ce O h => by
    unfold cIfs at h
    split at h
    · rename_i hz
      cases hz
    · cases h
      refine ⟨fun pins s σ H Q I ⟨as, F, M, env, r0, hE, hM, ex, po, px⟩ => pts_nil.run pins s σ H Q I ?_⟩
      unfold exT at ex
      cases ex
      exact po _ _ rfl _ _ (.refl hM) hM
    · rename_i hz
      cases hz
      exact pts_one (A.e X _ W _ _ O h).2
    · cases h
  it := it_succ A
theorem allOk (g : G) : ∀ n, AllOk g n
  | 0 => .zero
  | n + 1 => (allOk g n).succ
end
end Z
end
section
set_option Elab.async false
set_option linter.all false
set_option maxRecDepth 100000
set_option maxHeartbeats 4000000
set_option autoImplicit false
/-! Statements, each kind by itself. -/
namespace Z
open PySem PySem.Spec PyProof.Rows L2
variable {K : PySem.W.Frag} {w : World} {as as' as'' F F2 : List Addr} {H H₀ H' H'' : Hp} {M M' : Mem} {v : V} {vs : List V} {d : D} {ds : List D} {σ σ1 : L2.St} {env env1 : Z.Env}
section
variable (X : Cx)
def PFl (W : WX) (as F : List Addr) (H : Hp) (fl : Fl) (D : Ends) : Prop := match fl with
  | .nx env' M' => ∀ (as' : List Addr) (H' : Hp) (σ' : L2.St), Later as H as' H' → RelE X.K X.w as' F H' σ' env' → RelH X.K X.w as' F H' M' → D.nx σ' H'
  | .bk env' M' => ∀ (as' : List Addr) (H' : Hp) (σ' : L2.St), Later as H as' H' → RelE X.K X.w as' F H' σ' env' → RelH X.K X.w as' F H' M' → D.bk σ' H'
  | .ct env' M' => ∀ (as' : List Addr) (H' : Hp) (σ' : L2.St), Later as H as' H' → RelE X.K X.w as' F H' σ' env' → RelH X.K X.w as' F H' M' → D.ct σ' H'
  | .rt d M' => ∀ (as' : List Addr) (H' : Hp) (v : V), Later as H as' H' → RelH X.K X.w as' F H' M' → RepR X.K X.w as' F H H' M' v d → D.rt v H'
  | .ex env' c p M' => ∀ (as' : List Addr) (H' : Hp) (σ' : L2.St) (cls : Value) (dx : Option Addr), Later as H as' H' → RelE X.K X.w as' F H' σ' env' → RelH X.K X.w as' F H' M' → XRep X.K X.w X.mg as' F H' cls dx c p → W cls dx σ' H'
def tS (g : G) (W : WX) (s : S) : TS := fun D σ H => ∃ as F M env fl, RelE X.K X.w as F H σ env ∧ RelH X.K X.w as F H M ∧ exS g s env M = some fl ∧ PFl X W as F H fl D
def tSs (g : G) (W : WX) (s : Ss) : TS := fun D σ H => ∃ as F M env fl, RelE X.K X.w as F H σ env ∧ RelH X.K X.w as F H M ∧ exSs g s env M = some fl ∧ PFl X W as F H fl D
end
section
variable {X : Cx} {g : G} {W : WX} {c : Ctx} {e a b : Expr} {es : List Expr} {ce ca cb : E} {ces : Es} {pos : Pos} {n : Nat} {x : Str} {fl : Fl} {De De' : Ends} {st : Stmt} {sts : List Stmt} {cs : S} {css : Ss}
theorem PFl.later (h : PFl X W as F H fl De) (L : Later as H as' H') : PFl X W as' F H' fl De := by
  cases fl with
  | nx env' M' => exact fun as2 H2 σ2 L2 hE hM => h as2 H2 σ2 (L.trans L2) hE hM
  | bk env' M' => exact fun as2 H2 σ2 L2 hE hM => h as2 H2 σ2 (L.trans L2) hE hM
  | ct env' M' => exact fun as2 H2 σ2 L2 hE hM => h as2 H2 σ2 (L.trans L2) hE hM
  | rt d M' => exact fun as2 H2 v L2 hM hr => h as2 H2 v (L.trans L2) hM (hr.back L L2.sub)
  | ex env' c p M' => exact fun as2 H2 σ2 cls dx L2 hE hM hx => h as2 H2 σ2 cls dx (L.trans L2) hE hM hx
theorem PS.imp {t t' : TS} (h : PS X st t) (f : ∀ D σ H, t' D σ H → t D σ H) : PS X st t' := ⟨fun pins s σ H D I q => h.run pins s σ H D I (f D σ H q)⟩
theorem PSs.imp {t t' : TS} (h : PSs X sts t) (f : ∀ D σ H, t' D σ H → t D σ H) : PSs X sts t' := ⟨fun pins s σ H D I q => h.run pins s σ H D I (f D σ H q)⟩
/-- steps of statements -/
theorem onb {α : Type} {x : Z.R α} {f : α → Mem → Option Fl} (e : onR env x f = some fl) : (∃ a M', x = some (.ok a M') ∧ f a M' = some fl) ∨ ∃ c p M', x = some (.exc c p M') ∧ fl = .ex env c p M' := by
  unfold onR at e
  split at e
  · cases e
  · cases e
    exact .inr ⟨_, _, _, rfl, rfl⟩
  · exact .inl ⟨_, _, rfl, e⟩
theorem px_ex {α : Type} {c : Str} {p : List (Str × D)} (hE : RelE X.K X.w as F H σ env) (h : PFl X W as F H (.ex env c p M') De) : PX X W as F H σ (.exc c p M' : Rs α) := fun c2 p2 M2 q as' H' cls dx L hM hx => by
  cases q
  exact h as' H' σ cls dx L (hE.later L) hM hx
theorem tE_on {f : D → Mem → Option Fl} {Q : VK} (hE : RelE X.K X.w as F H σ env) (hM : RelH X.K X.w as F H M) (ex : onR env (exE g ce env M) f = some fl) (pf : PFl X W as F H fl De)
    (ho : ∀ d M' as' H' v, Later as H as' H' → RelE X.K X.w as' F H' σ env → RelH X.K X.w as' F H' M' → RepR X.K X.w as' F H H' M' v d → f d M' = some fl → PFl X W as' F H' fl De → Q v H') : tE X g W ce σ H Q := by
  rcases onb ex with ⟨d, M', e1, e2⟩ | ⟨c, p, M', e1, rfl⟩
  · refine ⟨as, F, M, env, _, hE, hM, e1, fun d2 M2 q as' H' v L hM' hr => ?_, px_ok⟩
    cases q
    exact ho d M' as' H' v L (hE.later L) hM' hr e2 (pf.later L)
  · exact ⟨as, F, M, env, _, hE, hM, e1, fun d2 M2 q => (by cases q), px_ex hE pf⟩
theorem tB_on {f : Bool → Mem → Option Fl} {Q : Bool → Hp → Prop} (hE : RelE X.K X.w as F H σ env) (hM : RelH X.K X.w as F H M) (ex : onR env (exT g ce env M) f = some fl) (pf : PFl X W as F H fl De)
    (ho : ∀ d M' as' H', Later as H as' H' → RelE X.K X.w as' F H' σ env → RelH X.K X.w as' F H' M' → f d M' = some fl → PFl X W as' F H' fl De → Q d H') : tB_ X g W ce σ H Q := by
  rcases onb ex with ⟨d, M', e1, e2⟩ | ⟨c, p, M', e1, rfl⟩
  · refine ⟨as, F, M, env, _, hE, hM, e1, fun d2 M2 q as' H' L hM' => ?_, px_ok⟩
    cases q
    exact ho d M' as' H' L (hE.later L) hM' e2 (pf.later L)
  · exact ⟨as, F, M, env, _, hE, hM, e1, fun d2 M2 q => (by cases q), px_ex hE pf⟩
theorem s_skip (h : PS X st tNext) : PS X st (tS X g W .skip) := PS.imp h fun D σ H ⟨as, F, M, env, fl, hE, hM, ex, pf⟩ => by
  unfold exS at ex
  cases ex
  exact pf _ _ _ (.refl hM) hE hM
theorem s_brk : PS X (.Break pos) (tS X g W .brk) := PS.imp ps_break fun D σ H ⟨as, F, M, env, fl, hE, hM, ex, pf⟩ => by
  unfold exS at ex
  cases ex
  exact pf _ _ _ (.refl hM) hE hM
theorem s_cont : PS X (.Continue pos) (tS X g W .cont) := PS.imp ps_continue fun D σ H ⟨as, F, M, env, fl, hE, hM, ex, pf⟩ => by
  unfold exS at ex
  cases ex
  exact pf _ _ _ (.refl hM) hE hM
theorem s_expr (hs : swapsWith e none pos.line X.env = pure false) (he : PE X e (tE X g W ce)) : PS X (.Expr e pos) (tS X g W (.expr ce)) := PS.imp (ps_expr he hs) fun D σ H ⟨as, F, M, env, fl, hE, hM, ex, pf⟩ => by
  unfold exS at ex
  refine tE_on hE hM ex pf fun d M1 as1 H1 v L1 hE1 hM1 r1 e1 pf1 => ?_
  cases e1
  exact pf1 _ _ _ (.refl hM1) hE1 hM1
theorem s_ret (he : PE X e (tE X g W ce)) : PS X (.Return (some e) pos) (tS X g W (.ret ce)) := PS.imp (ps_ret he) fun D σ H ⟨as, F, M, env, fl, hE, hM, ex, pf⟩ => by
  unfold exS at ex
  refine tE_on hE hM ex pf fun d M1 as1 H1 v L1 hE1 hM1 r1 e1 pf1 => ?_
  cases e1
  exact pf _ _ _ L1 hM1 r1
theorem s_retN : PS X (.Return none pos) (tS X g W (.ret (.c .non))) := PS.imp ps_retN fun D σ H ⟨as, F, M, env, fl, hE, hM, ex, pf⟩ => by
  unfold exS at ex
  rw [exE_c] at ex
  cases ex
  exact pf _ _ _ (.refl hM) hM (.val .non)
theorem s_if {sa sb : List Stmt} {csa csb : Ss} {ct : E} {t : Expr} (ht : PT X t (tB_ X g W ct)) (ha : PSs X sa (tSs X g W csa)) (hb : PSs X sb (tSs X g W csb)) : PS X (.If t sa sb pos) (tS X g W (.ife ct csa csb)) := PS.imp (ps_if ht ha hb) fun D σ H ⟨as, F, M, env, fl, hE, hM, ex, pf⟩ => by
  unfold exS at ex
  refine tB_on hE hM ex pf fun k M1 as1 H1 L1 hE1 hM1 e1 pf1 => ?_
  cases k with
  | true =>
    rw [if_pos rfl] at e1 ⊢
    exact ⟨as1, F, M1, env, fl, hE1, hM1, e1, pf1⟩
  | false =>
    rw [if_neg Bool.false_ne_true] at e1 ⊢
    exact ⟨as1, F, M1, env, fl, hE1, hM1, e1, pf1⟩
/-- name = value: what is wanted of the value -/
theorem asg_name {i : Nat} : ∀ D σ H, tS X g W (.asg (.name i) ce) D σ H → tE X g W ce σ H fun x H1 => D.nx (σ.set i (some x)) H1 := fun D σ H ⟨as, F, M, env, fl, hE, hM, ex, pf⟩ => by
  unfold exS at ex
  obtain ⟨_, ex⟩ := oi ex
  refine tE_on hE hM ex pf fun d M1 as1 H1 v L1 hE1 hM1 r1 e1 pf1 => ?_
  split at e1
  · cases e1
  · rename_i y e2
    cases e1
    exact pf1 _ _ _ (.refl hM1) (hE1.set ((r1.weak hM.fex).frz e2)) hM1
theorem s_set {i : Nat} {p : Pos} (O : OkC X c g W) (hi : slotL c x = some i) (hs : swapsWith e (some (.Name x p)) pos.line X.env = pure false) (he : PE X e (tE X g W ce)) : PS X (.Assign [.Name x p] e pos) (tS X g W (.asg (.name i) ce)) :=
  let S := sto_ok O hi
  PS.imp (ps_set O.nd S.at_ S.loc he hs S.fn) asg_name
/-- several names = a tuple -/
theorem s_asgT {ts : List Expr} {is : List Nat} {k : Nat} {p : Pos} (O : OkC X c g W) (h2 : 2 ≤ ts.length) (hn : cNames c ts = some is) (hs : swapsWith e (some (.Tuple ts k p)) pos.line X.env = pure false) (hw : swappedStores [.Tuple ts k p] e X.env = pure none) (he : PE X e (tE X g W ce)) :
    PS X (.Assign [.Tuple ts k p] e pos) (tS X g W (.asg (.tup is) ce)) := by
  obtain ⟨h3, h4⟩ := cNames_ok O hn
  refine ⟨fun pins s σ H D I ⟨as, F, M, env, fl, hE, hM, ex, pf⟩ => ?_⟩
  unfold exS at ex
  obtain ⟨hg, ex⟩ := oi ex
  have hc := O.calm hg
  refine (ps_asg he (s_gtup hc O.nd (by omega) h3 h4) hs hw rfl).run pins s σ H D I ?_
  refine tE_on hE hM ex pf fun d M1 as1 H1 v L1 hE1 hM1 r1 e1 pf1 => ?_
  split at e1
  · cases e1
  · rename_i y e2
    dsimp only at e1
    split at e1
    · rename_i env1 e3
      cases e1
      exact ⟨as1, F, M1, _, env, env1, hE1, hM1, (r1.weak hM.fex).frz e2, e3, fun σ1 hE2 _ => pf1 _ _ _ (.refl hM1) hE2 hM1⟩
    · cases e1
theorem setSub_ok {od id y : D} {M2 : Mem} {o i x : V} {Q : Hp → Prop} (hM : RelH X.K X.w as F H M) (ho : RepW X.K X.w as F H o od) (hi : RepW X.K X.w as F H i id) (hx : Rep X.K X.w as F H x y) (e : setSub od id y M = some M2)
    (q : ∀ H', Later as H as H' → RelH X.K X.w as F H' M2 → Q H') : rSetL o i x H Q := by
  unfold setSub at e
  split at e
  · rename_i r j
    split at e
    · rename_i zs e1
      split at e
      · rename_i k e2
        obtain ⟨h1, e3⟩ := oi e
        cases e3
        cases ho with
        | val ho =>
          cases ho with
          | @ref _ p hp =>
            cases hi with
            | val hi =>
              cases hi
              have z := hM.obj r p _ hp e1
              cases z with
              | lst h2 r2 =>
                obtain ⟨L, m⟩ := hM.put hp (r2.set k hx)
                exact ⟨p, _, j, k, rfl, rfl, h2, by rw [r2.length]; exact ixN_of e2, q _ L m⟩
      · cases e
    · cases e
  · cases e
/-- o[i] = value -/
theorem s_asgS {o i : Expr} {co ci : E} {p : Pos} (hs : swapsWith e (some (.Subscript o i p)) pos.line X.env = pure false) (he : PE X e (tE X g W ce)) (ho : PE X o (tE X g W co)) (hi : PE X i (tE X g W ci))
    (ha : ∀ v, assign (.Subscript o i p) X.env v = (do
      let ov ← holding [v] (eval o X.env)
      let iv ← holding [v, ov] (eval i X.env)
      standAt p
      holding [v, ov, iv] (setItem ov iv v)
      release [v, ov, iv] [])) : PS X (.Assign [.Subscript o i p] e pos) (tS X g W (.asg (.sub co ci) ce)) := PS.imp (ps_asg he (pg_sub ho hi set_list ha) hs rfl rfl) fun D σ H ⟨as, F, M, env, fl, hE, hM, ex, pf⟩ => by
  unfold exS at ex
  obtain ⟨_, ex⟩ := oi ex
  refine tE_on hE hM ex pf fun d M1 as1 H1 v L1 hE1 hM1 r1 e1 pf1 => ?_
  split at e1
  · cases e1
  · rename_i y e2
    dsimp only at e1
    have ry := (r1.weak hM.fex).frz e2
    refine tE_on hE1 hM1 e1 pf1 fun od M2 as2 H2 ov L2 hE2 hM2 r2 e3 pf2 => ?_
    refine tE_on hE2 hM2 e3 pf2 fun id M3 as3 H3 iv L3 hE3 hM3 r3 e4 pf3 => ?_
    split at e4
    · rename_i M4 e5
      cases e4
      exact setSub_ok hM3 ((r2.weak hM1.fex).later L3) (r3.weak hM2.fex) ((ry.later L2).later L3) e5 fun H' L m => pf3 _ _ _ L (hE3.later L) m
    · cases e4
/-- x, y = a, b -/
theorem s_par {y : Str} {a b : Expr} {i j : Nat} {px py pt : Pos} {kt k2 : Nat} {pt2 : Pos} (O : OkC X c g W) (hi : slotL c x = some i) (hj : slotL c y = some j) (hx : X.env.scope.names.lookup x = some .local) (hy : X.env.scope.names.lookup y = some .local) (hxy : x ≠ y)
    (hw : swappedStores [.Tuple [.Name x px, .Name y py] kt pt] (.Tuple [a, b] k2 pt2) X.env = pure (some [x, y])) (ha : PA X [a, b] (tEs X g W ces)) :
    PS X (.Assign [.Tuple [.Name x px, .Name y py] kt pt] (.Tuple [a, b] k2 pt2) pos) (tS X g W (.asg (.tup [i, j]) (.tup ces))) := by
  have S1 := sto_ok O hi
  have S2 := sto_ok O hj
  have hij : i ≠ j := fun z => by
    have h1 := S1.at_
    have h2 := S2.at_
    rw [z, h2] at h1
    cases h1
    exact hxy rfl
  refine ⟨fun pins s σ H D I ⟨as, F, M, env, fl, hE, hM, ex, pf⟩ => ?_⟩
  unfold exS at ex
  obtain ⟨hg, ex⟩ := oi ex
  have hc := O.calm hg
  refine (ps_par hc O.nd S1.at_ S2.at_ hij hx hy ha hw rfl).run pins s σ H D I ?_
  rcases onb ex with ⟨d, M', e1, e2⟩ | ⟨cc, p, M', e1, rfl⟩
  · split at e2
    · cases e2
    · rename_i y' e3
      dsimp only at e2
      split at e2
      · rename_i env1 e4
        cases e2
        unfold exE at e1
        refine tEs_bind hE hM e1 px_ok fun ds M1 as1 H1 vs L1 hM1 rs e5 => ?_
        obtain ⟨es', e6, e7⟩ := ob e5
        obtain ⟨_, e8⟩ := op e7
        cases e8
        have r := rs.frz e6
        cases e3
        unfold bindG at e4
        dsimp only at e4
        obtain ⟨h5, h6⟩ := (hE.later L1).sets r e4
        have hl := r.length
        match vs, hl, r, h5 with
        | [v, w], _, r, h5 => exact ⟨v, w, rfl, pf _ _ _ L1 h5 hM1⟩
        | [], hl, _, _ => simp at hl h6; omega
        | [_], hl, _, _ => simp at hl h6; omega
        | _ :: _ :: _ :: _, hl, _, _ => simp at hl h6; omega
      · cases e2
  · unfold exE at e1
    exact tEs_bind hE hM e1 (px_ex hE pf) fun ds M1 as1 H1 vs L1 hM1 rs e5 => by
      cases hq : frzs ds with
      | none =>
        rw [hq] at e5
        cases e5
      | some zs =>
        rw [hq] at e5
        have e5 : (if zs.length ≤ 16777216 then some (Rs.ok (Z.D.tup zs) M1) else none) = some (Rs.exc cc p M') := e5
        obtain ⟨_, e6⟩ := op e5
        cases e6
end
end Z
end
section
set_option Elab.async false
set_option linter.all false
set_option maxRecDepth 100000
set_option maxHeartbeats 4000000
set_option autoImplicit false
/-! Loops, blocks, statements together. -/
namespace Z
open PySem PySem.Spec PyProof.Rows L2
variable {K : PySem.W.Frag} {w : World} {as as' as'' F F2 : List Addr} {H H₀ H' H'' : Hp} {M M' : Mem} {v : V} {vs : List V} {d : D} {ds : List D} {σ σ1 : L2.St} {env env1 : Z.Env}
section
variable {X : Cx} {g : G} {W : WX} {c : Ctx} {e a b : Expr} {es : List Expr} {ce ca cb : E} {ces : Es} {pos : Pos} {n : Nat} {x : Str} {fl : Fl} {De De' : Ends} {st : Stmt} {sts : List Stmt} {cs : S} {css : Ss}
theorem s_done : PSs X [] (tSs X g W .nil) := PSs.imp pss_nil fun D σ H ⟨as, F, M, env, fl, hE, hM, ex, pf⟩ => by
  unfold exSs at ex
  cases ex
  exact pf _ _ _ (.refl hM) hE hM
theorem s_seq2 (h1 : PS X st (tS X g W cs)) (h2 : PSs X sts (tSs X g W css)) : PSs X (st :: sts) (tSs X g W (.cons cs css)) := PSs.imp (pss_cons h1 h2) fun D σ H ⟨as, F, M, env, fl, hE, hM, ex, pf⟩ => by
  unfold exSs at ex
  cases q : exS g cs env M with
  | none =>
    rw [q] at ex
    cases ex
  | some fl1 =>
    rw [q] at ex
    refine ⟨as, F, M, env, fl1, hE, hM, q, ?_⟩
    cases fl1 with
    | nx env' M' => exact fun as' H' σ' L hE' hM' => ⟨as', F, M', env', fl, hE', hM', ex, pf.later L⟩
    | bk env' M' =>
      cases ex
      exact pf
    | ct env' M' =>
      cases ex
      exact pf
    | rt d M' =>
      cases ex
      exact pf
    | ex env' cc p M' =>
      cases ex
      exact pf
/-- the turns of a for -/
theorem s_for {tg iter : Expr} {gt : List Nat} {it : Z.It} {body : List Stmt} (hp : PassesOwn (model X.prog X.w) X.A X.env X.xe) (hcalm : g.calm = true → X.calm = true) (hi : PI X tg iter (tI X g W it)) (hg : X.calm = true → PG X tg (tG X gt)) (hb : PSs X body (tSs X g W css)) (hs : ∀ x, foldedSetIterable iter X.env x = pure x) :
    PS X (.For tg iter body [] pos) (tS X g W (.for_ gt it css)) := by
  refine ⟨fun pins s σ H De I ⟨as, F, M, env, fl, hE, hM, ex, pf⟩ => ?_⟩
  unfold exS at ex
  obtain ⟨h0, ex⟩ := oi ex
  have hc := hcalm h0
  refine (ps_for hp hc hi (hg hc) hb hs).run pins s σ H De I ?_
  rcases onb ex with ⟨k, M1, e1, e2⟩ | ⟨cc, p, M1, e1, rfl⟩
  · refine ⟨as, F, M, env, _, hE, hM, e1, fun k' M1' ek as1 H1 L1 hM1 J hJ => ?_, px_ok⟩
    cases ek
    refine ⟨fun i m σ' H' => m = k.items.length - i ∧ i ≤ k.items.length ∧ ∃ as2 env2 M2, Later as1 H1 as2 H' ∧ RelE X.K X.w as2 F H' σ' env2 ∧ RelH X.K X.w as2 F H' M2 ∧
      forM k.watch (fun d env M => match bindG gt d M env with
        | some env1 => exSs g css env1 M
        | none => none) (k.items.drop i) env2 M2 = some fl, ⟨k.items.length, rfl, Nat.zero_le _, as1, env, M1, .refl hM1, hE.later L1, hM1, e2⟩, ?_⟩
    rintro i m σ' H' ⟨rfl, hi, as2, env2, M2, L2, hE2, hM2, ec⟩
    have pf2 := (pf.later L1).later L2
    by_cases hlt : i < k.items.length
    · have hd : k.items[i]? = some k.items[i] := List.getElem?_eq_getElem hlt
      rw [List.drop_eq_getElem_cons hlt] at ec
      unfold forM at ec
      obtain ⟨hw, ec⟩ := oi ec
      obtain ⟨go, step⟩ := (hJ as2 F H' M2 L2.lf hM2 (fun a ha => .inl ha) hw i).2 _ hd
      refine .inr ⟨go, fun σ' H' => k.items.length - (i + 1) = k.items.length - (i + 1) ∧ i + 1 ≤ k.items.length ∧ ∃ as2 env2 M2, Later as1 H1 as2 H' ∧ RelE X.K X.w as2 F H' σ' env2 ∧ RelH X.K X.w as2 F H' M2 ∧
        forM k.watch (fun d env M => match bindG gt d M env with
          | some env1 => exSs g css env1 M
          | none => none) (k.items.drop (i + 1)) env2 M2 = some fl, fun σ' H' n => ⟨_, by omega, n⟩, fun x H3 hy => ?_⟩
      obtain ⟨L3, hM3, rx⟩ := step x H3 hy
      cases q : bindG gt k.items[i] M2 env2 with
      | none =>
        rw [q] at ec
        cases ec
      | some env3 =>
        rw [q] at ec
        dsimp only at ec
        refine ⟨as2, F, M2, _, env2, env3, hE2.later L3, hM3, rx, q, fun σ1 hE3 _ => ?_⟩
        cases q2 : exSs g css env3 M2 with
        | none =>
          rw [q2] at ec
          cases ec
        | some fl1 =>
          rw [q2] at ec
          refine ⟨as2, F, M2, env3, fl1, hE3, hM3, q2, ?_⟩
          have pf3 := pf2.later L3
          cases fl1 with
          | nx env' M' => exact fun as' H' σ' L hE' hM' => ⟨rfl, hlt, as', env', M', L2.trans (L3.trans L), hE', hM', ec⟩
          | ct env' M' => exact fun as' H' σ' L hE' hM' => ⟨rfl, hlt, as', env', M', L2.trans (L3.trans L), hE', hM', ec⟩
          | bk env' M' =>
            cases ec
            exact pf3
          | rt d M' =>
            cases ec
            exact pf3
          | ex env' cc p M' =>
            cases ec
            exact pf3
    · have hi' : i = k.items.length := by omega
      rw [hi', List.drop_length] at ec
      unfold forM at ec
      obtain ⟨hw, ec⟩ := oi ec
      cases ec
      exact .inl ⟨(hJ as2 F H' M2 L2.lf hM2 (fun a ha => .inl ha) hw i).1 hi', pf2 _ _ _ (.refl hM2) hE2 hM2⟩
  · exact ⟨as, F, M, env, _, hE, hM, e1, fun k' M1' ek => (by cases ek), px_ex hE pf⟩

/-! ### an assignment's forms -/
theorem sw_no {n : Nat} {tg : Option Expr} {l : Nat} (h : cE n c e = some ce) (hl : isLC e = false) (env : PySem.Env) : swapsWith e tg l env = pure false := by
  obtain ⟨k, c1, h1⟩ := cE_e1 h
  cases e <;> first
    | rfl
    | (cases hl; done)
    | (exfalso
       cases k with
       | zero =>
         unfold cE1 at h1
         cases h1
       | succ k =>
         unfold cE1 at h1
         cases h1)
theorem sw_other {l : Nat} {tg : Expr} (env : PySem.Env) (h : ∀ x p, tg ≠ Expr.Name x p) {n : Nat} (hc : cE n c e = some ce) : swapsWith e (some tg) l env = pure false := by
  by_cases hl : isLC e = true
  · cases e <;> first
      | (cases hl; done)
      | skip
    cases tg <;> first
      | rfl
      | exact absurd rfl (h _ _)
  · exact sw_no hc (by simpa using hl) env
/-- whether a comprehension's own slot is swapped -/
def swB (env : PySem.Env) (scope : Scope) (y : Str) (py pos : Pos) : Bool := env.blockKind == .function && env.kindOf y == some .local && py.line == pos.line && !(scope.names.any fun (n, k) => n == y && (k == .local || k == .cell))
theorem sw_is {elt : Expr} {gs : List Comprehension} {scope : Scope} {py : Pos} {y : Str} {l : Nat} {env : PySem.Env} : swapsWith (.ListComp elt gs scope pos) (some (.Name y py)) l env = pure (swB env scope y py pos) := rfl
theorem swB_local {env : PySem.Env} {scope : Scope} {y : Str} {py : Pos} (h : swB env scope y py pos = true) : env.scope.names.lookup y = some .local := by
  have h1 := band (band (band (show (env.blockKind == .function && env.kindOf y == some .local && py.line == pos.line && !(scope.names.any fun (n, k) => n == y && (k == .local || k == .cell))) = true from h)).1).1
  have h2 := h1.2
  exact eq_of_beq h2
theorem mat_read {p : Pos} {Q : VK} (h : tE X g W (matAt c p ce) σ H Q) : tE X g W ce σ H Q := by
  unfold matAt at h
  split at h
  · obtain ⟨as, F, M, env, r0, hE, hM, ex, po, px⟩ := h
    unfold exE at ex
    refine tE_bind hE hM ex px fun d M1 as1 H1 x L1 hM1 r1 e1 => ?_
    split at e1
    · rename_i ds
      cases e1
      cases r1 with
      | val r => cases r
      | fl h0 h1 na r2 hM2 =>
        obtain ⟨L2, hM3, r3⟩ := hM2.push h0 h1 na r2 L1
        exact po _ _ rfl _ _ _ L2 hM3 (.val r3)
    · cases e1
  · exact h
theorem s_setLC {n : Nat} {elt : Expr} {gs : List Comprehension} {scope : Scope} {i : Nat} {p posc : Pos} (O : OkC X c g W) (hi : slotL c x = some i) (h : cE n c (.ListComp elt gs scope posc) = some ce) : PS X (.Assign [.Name x p] (.ListComp elt gs scope posc) pos) (tS X g W (.asg (.name i) ce)) := by
  have he := (allOk g n).e X c W _ ce O h
  have S := sto_ok O hi
  cases hb : swB X.env scope x p posc with
  | false => exact s_set O hi (by rw [sw_is, hb]) he.1
  | true =>
    have hyl := swB_local hb
    have hsw : swapsWith (.ListComp elt gs scope posc) (some (.Name x p)) pos.line X.env = pure true := by rw [sw_is, hb]
    cases n with
    | zero =>
      unfold cE at h
      cases h
    | succ n =>
      unfold cE at h
      obtain ⟨c1, h1, rfl⟩ := om h
      cases n with
      | zero =>
        unfold cE1 at h1
        cases h1
      | succ n =>
        have A := allOk g n
        unfold cE1 at h1
        split at h1 <;> rename_i heq <;> first
          | (cases heq; done)
          | skip
        · cases heq
          dsimp only at h1
          obtain ⟨hblk, h1⟩ := oi h1
          have B : BlkOk X.N X.env.scope scope (ownOf c scope) := by
            rw [O.N, O.sc]
            exact blkOk_by hblk
          split at h1
          · rename_i q1 q2 q3 q4
            obtain ⟨h5, h6⟩ := oi h1
            cases h6
            refine ⟨fun pins s σ H De I hq => ?_⟩
            have hown : ∀ i ∈ _, i ∈ (ownOf c scope).map (·.2) := fun i hi => List.contains_iff_mem.mp (List.all_eq_true.mp h5 i hi)
            obtain ⟨hc, h'⟩ := s_comp O.calm hown σ H _ (mat_read (asg_name De σ H hq))
            exact (ps_setLc hc O.nd S.at_ hyl hsw (A.it X c W _ _ _ O q2) B (fun s H C cl fp => s_tgt (O.blk hblk s H C cl fp) hc q1) (fun s H C cl fp => A.ifs _ _ _ _ _ (O.blk hblk s H C cl fp) q3)
              (fun s H C cl fp => (A.e _ _ _ _ _ (O.blk hblk s H C cl fp) q4).1) (cIt_set q2 _)).run pins s σ H De I h'
          · cases h1
        · cases heq
          dsimp only at h1
          obtain ⟨hblk, h1⟩ := oi h1
          have B : BlkOk X.N X.env.scope scope (ownOf c scope) := by
            rw [O.N, O.sc]
            exact blkOk_by hblk
          split at h1
          · rename_i q1 q2 q3 q4 q5
            obtain ⟨h5, h6⟩ := oi h1
            cases h6
            refine ⟨fun pins s σ H De I hq => ?_⟩
            have hown : ∀ i ∈ _, i ∈ (ownOf c scope).map (·.2) := fun i hi => List.contains_iff_mem.mp (List.all_eq_true.mp h5 i hi)
            obtain ⟨hc, h'⟩ := s_comp2 O.calm hown σ H _ (mat_read (asg_name De σ H hq))
            exact (ps_setLc2 hc O.nd S.at_ hyl hsw (A.it X c W _ _ _ O q2) B (fun i hi => hown i (List.mem_append_right _ hi)) (fun s H C cl fp => s_tgt (O.blk hblk s H C cl fp) hc q1) (fun s H C cl fp => pts_nil)
              (fun s H C cl fp => A.it _ _ _ _ _ _ (O.blk hblk s H C cl fp) q4) (fun s H C cl fp => s_tgt (O.blk hblk s H C cl fp) hc q3) (fun s H C cl fp => pts_nil)
              (fun s H C cl fp => (A.e _ _ _ _ _ (O.blk hblk s H C cl fp) q5).1) (cIt_set q2 _) (cIt_set q4)).run pins s σ H De I h'
          · cases h1
        · cases h1
end
end Z
end
section
set_option Elab.async false
set_option linter.all false
set_option maxRecDepth 100000
set_option maxHeartbeats 4000000
set_option autoImplicit false
/-! Statements: the induction. -/
namespace Z
open PySem PySem.Spec PyProof.Rows L2
section
variable {X : Cx} {g : G} {W : WX} {c : Ctx} {e a b : Expr} {es : List Expr} {ce ca cb : E} {ces : Es} {pos : Pos} {n : Nat} {x : Str} {fl : Fl} {De De' : Ends} {st : Stmt} {sts : List Stmt} {cs : S} {css : Ss}
theorem nott {b : Bool} (h : (!b) = true) : b = false := by cases b <;> first | rfl | cases h
theorem ss_other {ts : List Expr} {k : Nat} {p : Pos} {env : PySem.Env} (h : isTup e = false) : swappedStores [.Tuple ts k p] e env = pure none := by
  cases e <;> first
    | rfl
    | (cases h; done)
theorem asg_sub {o i : Expr} {p : Pos} {n : Nat} {ci : E} {env : PySem.Env} (h : cE n c i = some ci) : ∀ v, assign (.Subscript o i p) env v = (do
      let ov ← holding [v] (eval o env)
      let iv ← holding [v, ov] (eval i env)
      standAt p
      holding [v, ov, iv] (setItem ov iv v)
      release [v, ov, iv] []) := by
  obtain ⟨k, c1, h1⟩ := cE_e1 h
  intro v
  cases i <;> first
    | rfl
    | exact (e1_slice h1).elim
theorem ss_two {x y : Str} {a b : Expr} {px py pt : Pos} {kt k2 : Nat} {pt2 : Pos} {env : PySem.Env} (hk : env.scope.kind = .function) (hx : env.scope.names.lookup x = some .local) (hy : env.scope.names.lookup y = some .local) (hl : (px.line == py.line) = true) (hxy : (x == y) = false)
    (na : NS a) (nb : NS b) (h1 : [a, b].all (foldedForSure 8) = false) (h2 : [a, b].all (constantsAlone 8) = false) : swappedStores [.Tuple [.Name x px, .Name y py] kt pt] (.Tuple [a, b] k2 pt2) env = pure (some [x, y]) := by
  have kx : env.kindOf x = some .local := hx
  have ky : env.kindOf y = some .local := hy
  have hb : env.blockKind = .function := by
    unfold Env.blockKind
    rw [hk]
    rfl
  have hl' : (py.line == px.line) = true := by
    have := eq_of_beq hl
    rw [this]
    exact beq_self_eq_true _
  have hll : (px.line == px.line) = true := beq_self_eq_true _
  have hyx : (y == x) = false := by
    have h := beq_eq_false_iff_ne.mp hxy
    exact beq_eq_false_iff_ne.mpr (Ne.symm h)
  unfold swappedStores
  simp only [hb]
  rw [if_neg (by simp), if_neg (fun hq => by
    simp only [List.any_cons, List.any_nil, Bool.or_false, Bool.or_eq_true] at hq
    rcases hq with hq | hq
    · cases a <;> first
        | (cases hq; done)
        | exact na _ _ rfl
    · cases b <;> first
        | (cases hq; done)
        | exact nb _ _ rfl)]
  simp only [List.filterMap_cons, List.filterMap_nil, List.head?_cons, Option.map_some, Option.getD_some, Expr.pos, kx, ky, hl', hll, h1, h2, List.length_cons, List.length_nil]
  have hd : [x, y].eraseDups = [x, y] := by
    rw [List.eraseDups_cons, show List.filter (fun b => !b == x) [y] = [y] by simp [hyx], List.eraseDups_cons]
    simp
  simp [hd]
/-- what a context must have, for statements too -/
structure OkS (X : Cx) (c : Ctx) (g : G) (W : WX) : Prop extends OkC X c g W where
  hp : PassesOwn (model X.prog X.w) X.A X.env X.xe
  kind : X.env.scope.kind = .function
theorem stmts (g : G) (X : Cx) (c : Ctx) (W : WX) (O : OkS X c g W) : ∀ n, (∀ (st : Stmt) (cs : S), cS n c st = some cs → PS X st (tS X g W cs)) ∧ (∀ (sts : List Stmt) (css : Ss), cSs n c sts = some css → PSs X sts (tSs X g W css)) := by
  intro n
  induction n with
  | zero => exact ⟨fun st cs h => (by unfold cS at h; cases h), fun st cs h => (by unfold cSs at h; cases h)⟩
  | succ n ih =>
    have O' := O.toOkC
    have A := allOk g n
    refine ⟨fun st cs h => ?_, fun sts css h => ?_⟩
    · unfold cS at h
      split at h
      · cases h
        exact s_skip ps_pass
      · cases h
        exact s_brk
      · cases h
        exact s_cont
      · cases h
        exact s_skip ps_doc
      · split at h
        · cases h
        · rename_i hl
          obtain ⟨ce, h1, rfl⟩ := om h
          exact s_expr (sw_no h1 (by simpa using hl) _) (A.e X c W _ _ O' h1).1
      · cases h
        exact s_retN
      · obtain ⟨ce, h1, rfl⟩ := om h
        exact s_ret (A.e X c W _ _ O' h1).1
      · split at h
        · rename_i e _ _ _ i ce h1 h2
          cases h
          by_cases hl : isLC e = true
          · cases e <;> first
              | (cases hl; done)
              | exact s_setLC O' h1 h2
          · exact s_set O' h1 (sw_no h2 (by simpa using hl) _) (A.e X c W _ _ O' h2).1
        · cases h
      · have hh := oi h
        clear h
        obtain ⟨h0, h⟩ := hh
        unfold par2 at h0
        split at h0
        · rename_i x px y py a b
          have b1 := band h0
          have b2 := band b1.2
          have b3 := band b2.2
          have b4 := band b3.2
          have b5 := band b4.2
          split at h
          · rename_i is ces h1 h2
            cases h
            have hx : X.env.scope.names.lookup x = some .local := by rw [O'.sc]; exact eq_of_beq b1.1
            have hy : X.env.scope.names.lookup y = some .local := by rw [O'.sc]; exact eq_of_beq b2.1
            have hne : (x == y) = false := by simpa using b4.1
            have ns := (cEs_ns h2).1
            unfold cNames at h1
            split at h1
            · rename_i i is' g1 g2
              cases h1
              unfold cNames at g2
              split at g2
              · rename_i j is2 g3 g4
                cases g2
                unfold cNames at g4
                cases g4
                exact s_par O' g1 g3 hx hy (beq_eq_false_iff_ne.mp hne) (ss_two O.kind hx hy b3.1 hne (ns a List.mem_cons_self) (ns b (List.mem_cons_of_mem _ List.mem_cons_self)) (nott b5.1) (nott b5.2)) (A.es X c W _ _ O' h2)
              · cases g2
            · cases h1
          · cases h
        · cases h0
      · obtain ⟨h0, h⟩ := oi h
        have b1 := band h0
        split at h
        · rename_i is ce h1 h2
          cases h
          exact s_asgT O' (of_decide_eq_true b1.1) h1 (sw_other _ (fun _ _ z => nomatch z) h2) (ss_other (by simpa using b1.2)) (A.e X c W _ _ O' h2).1
        · cases h
      · split at h
        · rename_i co ci ce h1 h2 h3
          cases h
          exact s_asgS (sw_other _ (fun _ _ z => nomatch z) h3) (A.e X c W _ _ O' h3).1 (A.e X c W _ _ O' h1).1 (A.e X c W _ _ O' h2).1 (asg_sub h2)
        · cases h
      · split at h
        · rename_i ct ca cb h1 h2 h3
          cases h
          exact s_if (A.e X c W _ _ O' h1).2 (ih.2 _ _ h2) (ih.2 _ _ h3)
        · cases h
      · split at h
        · rename_i g1 w1 b1 h1 h2 h3
          cases h
          exact s_for O.hp O'.calm (A.it X c W _ _ _ O' h2) (fun hc => s_tgt O' hc h1) (ih.2 _ _ h3) (cIt_set h2 _)
        · cases h
      · cases h
    · unfold cSs at h
      split at h
      · rename_i hz
        cases hz
      · cases h
        exact s_done
      · rename_i hz
        cases hz
        split at h
        · rename_i h1 h2
          cases h
          exact s_seq2 (ih.1 _ _ h1) (ih.2 _ _ h2)
        · cases h
end
end Z
end
section
set_option Elab.async false
set_option linter.all false
set_option maxRecDepth 100000
set_option maxHeartbeats 4000000
set_option autoImplicit false
/-! Defs. -/
namespace Z
open PySem PySem.Spec PyProof.Rows L2
variable {K : PySem.W.Frag} {w : World} {as as' as'' F F2 : List Addr} {H H₀ H' H'' : Hp} {M M' : Mem} {v : V} {vs : List V} {d : D} {ds : List D}
/-- what is known of a def of the text -/
def DefOk (K : PySem.W.Frag) (mg : Str → Option Value) (p : Program) (h : Hn) : Prop :=
  ∃ (a : Addr) (name qual : Str) (params : Arguments) (body : List Stmt) (scope : Scope) (dV kV doc pm cdv ct oc : Value) (an od : Option Addr) (osl : Array (Option Value)),
    defOf p h.f = some (body, scope) ∧ mg h.f = some (.ref a) ∧ K.lookup a = some ⟨oc, od, .func (PySem.W.fnOf name qual params body scope dV kV doc pm an cdv ct), osl⟩ ∧ PySem.W.codeIn K cdv qual = true ∧ PySem.W.keepIn K (.ref a) = true ∧
      (∀ us : List Value, us.length = (h.N.take h.ps).length → bindArgs (PySem.W.fnOf name qual params body scope dV kV doc pm an cdv ct) ⟨us, []⟩ = pure ((h.N.take h.ps).zip us)) ∧ FnScope h.N (h.N.take h.ps) scope ∧ h.ps ≤ h.N.length
theorem defs_of {p : Program} {gl : List (Str × GK)} : ∀ {hn : List Hn} {P : Prg} {f : Str} {d : Df}, cAll p gl hn = some P → P.lookup f = some d → ∃ h ∈ hn, h.f = f ∧ cDef p gl h = some (f, d)
  | [], P, f, d, e, l => by
    cases e
    cases l
  | h :: r, P, f, d, e, l => by
    unfold cAll at e
    split at e
    · rename_i df ds e1 e2
      cases e
      obtain ⟨f1, d1⟩ := df
      have hf : f1 = h.f := by
        unfold cDef at e1
        split at e1
        · obtain ⟨s, _, q⟩ := om e1
          cases q
          rfl
        · cases e1
      rw [List.lookup_cons] at l
      split at l
      · rename_i hb
        cases l
        have : f = f1 := eq_of_beq hb
        subst this
        exact ⟨h, List.mem_cons_self, hf.symm, e1⟩
      · obtain ⟨h', h1, h2⟩ := defs_of e2 l
        exact ⟨h', List.mem_cons_of_mem _ h1, h2⟩
    · cases e
theorem start_rel {N : List Str} (r : Reps K w as F H vs ds) (hl : vs.length ≤ N.length) : RelE K w as F H (L2.start N vs) (startE N.length ds) := by
  have e := r.length
  unfold L2.start startE
  refine ⟨by rw [List.length_append, List.length_append, List.length_map, List.length_map, List.length_replicate, List.length_replicate, e], fun i d h => ?_⟩
  by_cases hi : i < ds.length
  · rw [List.getElem?_append_left (by rw [List.length_map]; exact hi), List.getElem?_map] at h
    obtain ⟨d', h1, h2⟩ := om h
    cases h2
    obtain ⟨v, h3, h4⟩ := r.get h1
    exact ⟨v, by rw [List.getElem?_append_left (by rw [List.length_map]; omega), List.getElem?_map, h3]; rfl, h4⟩
  · rw [List.getElem?_append_right (by rw [List.length_map]; omega), List.getElem?_replicate] at h
    split at h <;> cases h
/-- a def that may be called, to the depth k -/
def FnFact (prog : Program) (w : World) (K : PySem.W.Frag) (mg : Str → Option Value) (base : Heap) (P : Prg) (k : Nat) (h : Hn) : Prop :=
  ∃ (a : Addr) (fd : FuncData), mg h.f = some (.ref a) ∧ (∃ oc od osl, K.lookup a = some ⟨oc, od, .func fd, osl⟩) ∧ PySem.W.keepIn K (.ref a) = true ∧ (∀ us : List Value, us.length = (h.N.take h.ps).length → bindArgs fd ⟨us, []⟩ = pure ((h.N.take h.ps).zip us)) ∧
    FnOk prog w K mg base (L2.CX prog w) k a fd (h.N.take h.ps) (spR K w mg (callK P true k) h.f (h.N.take h.ps).length) ∧ ∀ (ds : List D) (M : Mem) (r : Rs D), callK P true k h.f ds M = some r → ds.length = (h.N.take h.ps).length
theorem defs_ok {prog p : Program} {gl : List (Str × GK)} {hn : List Hn} {P : Prg} {mg : Str → Option Value} {base : Heap} (hP : cAll p gl hn = some P) (hnd : ∀ h ∈ hn, ∀ h' ∈ hn, h.f = h'.f → h = h') (hfn : ∀ f, gl.lookup f = some .fn → ∃ h ∈ hn, h.f = f)
    (hd : ∀ h ∈ hn, DefOk K mg p h) (hg : Gls K w mg gl) : ∀ k, ∀ h ∈ hn, FnFact prog w K mg base P k h := by
  intro k
  induction k with
  | zero =>
    intro h hh
    obtain ⟨a, name, qual, params, body, scope, dV, kV, doc, pm, cdv, ct, oc, an, od, osl, h1, h2, h3, h4, h5, h6, h7, h8⟩ := hd h hh
    refine ⟨a, _, h2, ⟨_, _, _, h3⟩, h5, h6, ⟨fun vs H Q E q => q.1, fun A outer s H args us vs Q E hr he hb r q => ?_⟩, fun ds M r e => ?_⟩
    · obtain ⟨_, as, F, M, ds, r, _, _, e, _⟩ := q
      cases e
    · cases e
  | succ k ih =>
    intro h hh
    obtain ⟨a, name, qual, params, body, scope, dV, kV, doc, pm, cdv, ct, oc, an, od, osl, h1, h2, h3, h4, h5, h6, h7, h8⟩ := hd h hh
    have hps : (h.N.take h.ps).length = h.ps := by rw [List.length_take]; omega
    have key : ∀ (ds : List D) (M : Mem) (r : Rs D), callK P true (k + 1) h.f ds M = some r → ∃ css, cSs 400 { N := h.N, sc := scope, gl := gl, mats := h.mats } body = some css ∧ ds.length = h.ps ∧ fin (exSs ⟨callK P true k, true⟩ css (startE h.N.length ds) M) = some r := fun ds M r e => by
      unfold callK at e
      split at e
      · rename_i df e1
        obtain ⟨h', g1, g2, g3⟩ := defs_of hP e1
        have hz := hnd h' g1 h hh g2
        subst hz
        unfold cDef at g3
        rw [h1] at g3
        dsimp only at g3
        obtain ⟨css, g4, g5⟩ := om g3
        cases g5
        obtain ⟨g6, g7⟩ := op e
        exact ⟨css, g4, g6, g7⟩
      · cases e
    refine ⟨a, _, h2, ⟨_, _, _, h3⟩, h5, h6, ?_, fun ds M r e => ?_⟩
    · refine fn_of h3 h4 h7 (fun vs H Q E q => q.1) fun A outer s H vs Q E hr q => ?_
      obtain ⟨hl, as, F, M, ds, r, hM, hs, e, po, px⟩ := q
      obtain ⟨css, g1, g2, g3⟩ := key ds M r e
      have hu := hr.un
      have O : OkS (cxOf (L2.CX prog w) prog w K mg base h.N qual scope a cdv A outer s H E) { N := h.N, sc := scope, gl := gl, mats := h.mats } ⟨callK P true k, true⟩ (fun cls d _ H => E cls d H) :=
        ⟨⟨rfl, h7.nd, rfl, fun _ _ => .inl rfl, fun _ => rfl, takes_of (E₁ := fun e' s'' => L2.CX prog w outer H s E e' s'') rfl rfl rfl rfl, by show (A.deeper _).units + 70 < cLine; omega, hg, fun f hf => by
          obtain ⟨h', q1, rfl⟩ := hfn f hf
          obtain ⟨a', fd', e1, _, e2, e3, e4, e5⟩ := ih h' q1
          exact ⟨a', fd', _, k, e1, e2, .all e3, hr, e4, e5⟩⟩, passes_of rfl, h7.kind⟩
      refine ⟨_, (stmts _ _ _ _ O 400).2 body css g1, ?_⟩
      cases q : exSs ⟨callK P true k, true⟩ css (startE h.N.length ds) M with
      | none =>
        rw [q] at g3
        cases g3
      | some fl =>
        rw [q] at g3
        refine ⟨as, F, M, _, fl, start_rel hs (by have := hs.length; omega), hM, q, ?_⟩
        cases fl with
        | nx env' M' =>
          cases g3
          exact fun as' H' σ' L hE' hM' => po .non M' rfl as' H' .non L hM' (.val .non)
        | bk env' M' => cases g3
        | ct env' M' => cases g3
        | rt d M' =>
          cases g3
          exact fun as' H' v L hM' hr => po d M' rfl as' H' v L hM' hr
        | ex env' cc p M' =>
          cases g3
          exact fun as' H' σ' cls dx L hE' hM' hx => px cc p M' rfl as' H' cls dx L hM' hx
    · obtain ⟨css, g1, g2, g3⟩ := key ds M r e
      omega
end Z
end
section
set_option Elab.async false
set_option linter.all false
set_option maxRecDepth 100000
set_option maxHeartbeats 4000000
set_option autoImplicit false
/-! Parameters. -/
namespace Z
open PySem PySem.Spec PyProof.Rows L2
theorem look_zip {x : Str} {v : Value} : ∀ {ps : List Str} {us : List Value} {i : Nat}, ps.Nodup → ps[i]? = some x → us[i]? = some v → (ps.zip us).lookup x = some v
  | p :: ps, u :: us, 0, nd, e1, e2 => by
    simp at e1 e2
    subst e1 e2
    simp [List.lookup_cons]
  | p :: ps, u :: us, i + 1, nd, e1, e2 => by
    have n2 := List.nodup_cons.mp nd
    have hx : (x == p) = false := by
      apply beq_eq_false_iff_ne.mpr
      intro z
      exact n2.1 (by rw [← z]; exact List.mem_of_getElem? (by simpa using e1))
    show List.lookup x ((p, u) :: ps.zip us) = some v
    rw [List.lookup_cons, hx]
    exact look_zip n2.2 (by simpa using e1) (by simpa using e2)
theorem fm_zip {ps : List Str} {us : List Value} (nd : ps.Nodup) (hl : us.length = ps.length) : ∀ (qs : List Str) (ws : List Value), qs.length = ws.length → (∀ (i : Nat) (x : Str) (v : Value), qs[i]? = some x → ws[i]? = some v → (ps.zip us).lookup x = some v) →
    qs.filterMap (fun n => ((ps.zip us).lookup n).map (n, ·)) = qs.zip ws
  | [], _, _, _ => by simp
  | q :: qs, [], h, _ => by simp at h
  | q :: qs, w :: ws, h, f => by
    have e := f 0 q w rfl rfl
    rw [List.filterMap_cons, e]
    show (q, w) :: _ = _
    rw [fm_zip nd hl qs ws (by simpa using h) fun i x v e1 e2 => f (i + 1) x v (by simpa using e1) (by simpa using e2)]
    rfl
theorem no_miss {ps : List Str} {us : List Value} (nd : ps.Nodup) (hl : us.length = ps.length) : (ps.filter fun n => ((ps.zip us).lookup n).isNone) = [] := by
  rw [List.filter_eq_nil_iff]
  intro x hx
  obtain ⟨i, hi, e⟩ := List.getElem_of_mem hx
  rw [look_zip nd (i := i) (v := us[i]'(by omega)) (by rw [List.getElem?_eq_getElem hi, e]) (List.getElem?_eq_getElem _)]
  simp
theorem bind_plain {name qual : Str} {body : List Stmt} {scope : Scope} {kV doc pm cdv ct : Value} {an : Option Addr} {as : List Arg} {kd : List (Option Expr)} (nd : (as.map (·.arg)).Nodup) (us : List Value) (hl : us.length = (as.map (·.arg)).length) :
    bindArgs (PySem.W.fnOf name qual ⟨[], as, none, [], kd, none, []⟩ body scope .none kV doc pm an cdv ct) ⟨us, []⟩ = pure ((as.map (·.arg)).zip us) := by
  have h1 := no_miss nd hl
  have h2 := fm_zip nd hl (as.map (·.arg)) us hl.symm fun i x v e1 e2 => look_zip nd e1 e2
  generalize hp : as.map (·.arg) = ps at *
  have hg : ¬ (us.length > ps.length) := by omega
  unfold bindArgs PySem.W.fnOf
  simp only [hp, List.map_nil, List.nil_append, List.append_nil]
  have e : seqItems? .none = pure none := rfl
  simp only [e, pure_bind, Option.getD_none, List.drop_nil, List.length_nil, Nat.sub_zero, List.take_length, h1, List.isEmpty_nil, Bool.not_true, List.forIn_nil, h2, List.forIn'_nil]
  have hd : (decide (us.length > ps.length) && (none : Option Arg).isNone) = false := by
    rw [decide_eq_false hg]
    rfl
  rw [hd, if_neg Bool.false_ne_true, if_neg Bool.false_ne_true]
  simp only [List.zip_nil_right, List.forIn_nil, pure_bind, h2]
  rfl
end Z
end
section
set_option Elab.async false
set_option linter.all false
set_option maxRecDepth 100000
set_option maxHeartbeats 4000000
set_option autoImplicit false
/-! What the top leaves: the Hook. -/
namespace Z
open PySem PySem.Spec PyProof.Rows L2
variable {K : PySem.W.Frag} {w : World}
/-! ### values of the text -/
mutual
def ckV (K : PySem.W.Frag) : Nat → Value → D → Bool
  | 0, _, _ => false
  | n + 1, u, d => match d with
    | .non => He.relB .non u
    | .bl b => He.relB (.bl b) u
    | .int i => He.relB (.int i) u
    | .str s => He.relB (.str s) u
    | .tup ds => (match u with
      | .ref a => (match K.lookup a with
        | some ⟨.type c, _, .seq its _, _⟩ => decide (c = "tuple") && (decide (its.size ≤ sizeLine) && ckVs K n its.toList ds)
        | _ => false)
      | _ => false)
    | _ => false
def ckVs (K : PySem.W.Frag) : Nat → List Value → List D → Bool
  | 0, _, _ => false
  | _ + 1, [], [] => true
  | n + 1, u :: us, d :: ds => ckV K n u d && ckVs K n us ds
  | _, _, _ => false
end
theorem ckV_ok : ∀ n, (∀ u d, ckV K n u d = true → ∃ v, RelV v u ∧ ∀ as F H, Rep K w as F H v d) ∧ (∀ us ds, ckVs K n us ds = true → ∃ vs, Vals vs us ∧ ∀ as F H, Reps K w as F H vs ds) := by
  intro n
  induction n with
  | zero => exact ⟨fun u d e => (by unfold ckV at e; cases e), fun us ds e => (by unfold ckVs at e; cases e)⟩
  | succ n ih =>
    refine ⟨fun u d e => ?_, fun us ds e => ?_⟩
    · unfold ckV at e
      split at e
      · exact ⟨.non, He.relB_ok e, fun _ _ _ => .non⟩
      · exact ⟨_, He.relB_ok e, fun _ _ _ => .bl _⟩
      · exact ⟨_, He.relB_ok e, fun _ _ _ => .int _⟩
      · exact ⟨_, He.relB_ok e, fun _ _ _ => .str _⟩
      · split at e
        · rename_i a
          split at e
          · rename_i c od its m sl q
            have h1 := band e
            have h2 := band h1.2
            obtain ⟨vs, h3, h4⟩ := ih.2 _ _ h2.2
            exact ⟨.ref a, rfl, fun as F H => .tup (.inr ⟨_, its, m, q, congrArg Value.type (of_decide_eq_true h1.1), rfl, of_decide_eq_true h2.1, h3⟩) (h4 as F H)⟩
          · cases e
        · cases e
      · cases e
    · unfold ckVs at e
      split at e
      · cases e
      · exact ⟨[], .nil, fun _ _ _ => .nil⟩
      · rename_i hz
        cases hz
        have h1 := band e
        obtain ⟨v, h2, h3⟩ := ih.1 _ _ h1.1
        obtain ⟨vs, h4, h5⟩ := ih.2 _ _ h1.2
        exact ⟨v :: vs, .cons h2 h4, fun as F H => .cons (h3 as F H) (h5 as F H)⟩
      · cases e
def strOf : D → Option Str
  | .str s => some s
  | _ => none
def isStrD : D → Bool
  | .str _ => true
  | _ => false
def dcPair (K : PySem.W.Frag) (a : Addr) (p : D × D) : Bool := match p.1, p.2 with
  | .str k, .str y => (match PySem.W.nsIn K a k with
    | some (some (.str z _)) => decide (z = y)
    | _ => false)
  | _, _ => false
def ckC (K : PySem.W.Frag) (x : Str) (d : D) : Bool := match PySem.W.nsIn K mainGlobals x with
  | some (some u) => (match d with
    | .dc ks vs => (match u with
      | .ref a => decide (ks.length = vs.length) && (ks.all isStrD && (ks.zip vs).all (dcPair K a))
      | _ => false)
    | d => ckV K 400 u d)
  | _ => false
def ckAll (K : PySem.W.Frag) (gl : List (Str × GK)) : Bool := (gl.all fun p => match p.2 with
  | .fn => (He.Fa.glo p.1).ok K
  | .cls => true
  | .con d => ckC K p.1 d) && biNames.all fun x => (gl.lookup x).isSome || (He.Fa.free x).ok K
/-- the dicts of the text -/
def tabsOf (gl : List (Str × GK)) : List He.Tab := gl.filterMap fun p => match p.2 with
  | .con (.dc ks _) => some (fun K => He.ga K p.1, ks.filterMap strOf)
  | _ => none
theorem dc_ok {a : Addr} {ks vs : List D} (h : He.dicW K a = some (He.keysIn w.params (ks.filterMap strOf))) (h1 : ks.length = vs.length) (h2 : ks.all isStrD = true) (h3 : (ks.zip vs).all (dcPair K a) = true) : DcOk K w a ks vs := by
  refine ⟨He.dicW_ok h, fun z hz => ?_, fun z j hj => ?_⟩
  · have nk : z ∉ ks.filterMap strOf := fun hm => by
      obtain ⟨d, hd, e⟩ := List.mem_filterMap.mp hm
      have e2 : d = .str z := by
        cases d <;> first
          | (cases e; rfl)
          | cases e
      subst e2
      rw [List.findIdx?_eq_none_iff] at hz
      have := hz _ hd
      rw [D.beq_self] at this
      cases this
    unfold He.dicW at h
    split at h
    · rename_i c es m sl q
      split at h
      · have h4 := Option.some.inj h
        have key : ∀ e ∈ es.toList, ∃ k t, e.key = .str k t ∧ k ∈ ks.filterMap strOf := fun e he => by
          have h5 : He.keyOf e ∈ He.keysIn w.params (ks.filterMap strOf) := by
            rw [← h4]
            exact List.mem_map.mpr ⟨e, he, rfl⟩
          obtain ⟨k, hk, e5⟩ := List.mem_map.mp h5
          unfold He.keyOf at e5
          split at e5
          · rename_i x t q2
            have h6 := (Prod.mk.inj (Option.some.inj e5)).1
            exact ⟨x, t, q2, by rw [← h6]; exact hk⟩
          · cases e5
        unfold PySem.W.nsIn
        rw [q]
        dsimp only
        have h6 : es.toList.find? (fun e => e.key.isStr z) = none := by
          rw [List.find?_eq_none]
          intro e he
          obtain ⟨k, t, e1, e2⟩ := key e he
          rw [e1]
          intro hq
          have : k = z := by
            simpa [Value.isStr] using hq
          exact nk (this ▸ e2)
        rw [h6]
        dsimp only
        rw [if_neg]
        intro hq
        obtain ⟨e, he, hr⟩ := List.any_eq_true.mp hq
        obtain ⟨k, t, e1, e2⟩ := key e he
        unfold DictEntry.refKey at hr
        rw [e1] at hr
        cases hr
      · cases h
    · cases h
  · obtain ⟨hj1, hj2, _⟩ := List.findIdx?_eq_some_iff_getElem.mp hj
    have e1 := D.beq_eq _ _ hj2
    have hj3 : j < vs.length := by omega
    have hm : (ks[j], vs[j]) ∈ ks.zip vs := by
      have : (ks.zip vs)[j]'(by rw [List.length_zip]; omega) = (ks[j], vs[j]) := List.getElem_zip
      rw [← this]
      exact List.getElem_mem _
    have h4 := List.all_eq_true.mp h3 _ hm
    rw [e1] at h4
    unfold dcPair at h4
    dsimp only at h4
    split at h4
    · rename_i k y q1 q2
      cases q1
      split at h4
      · rename_i y' t q3
        have := of_decide_eq_true h4
        subst this
        exact ⟨_, _, q3, by rw [List.getElem?_eq_getElem hj3, q2], ⟨t, rfl⟩⟩
      · cases h4
    · cases h4
/-! ### defs of the text -/
def fnD : Stmt → Option He.DefD
  | .FunctionDef n a b _ _ _ sc _ _ _ => some ⟨(n, none), n, n, a, b, sc, [], []⟩
  | _ => none
def fnsOf (p : Program) : List He.DefD := p.main.body.filterMap fnD
def plainP (a : Arguments) (ps : List Str) : Bool := a.posonlyargs.isEmpty && (a.vararg.isNone && (a.kwonlyargs.isEmpty && (a.kwarg.isNone && (a.defaults.isEmpty && (decide (a.args.map (·.arg) = ps) && decide ps.Nodup)))))
def hintsOk (p : Program) (hn : List Hn) : Bool := (fnsOf p).all (fun d => hn.all fun h => if h.f = d.name then plainP d.params (h.N.take h.ps) && (C8.scC h.N (h.N.take h.ps) d.scope && decide (h.ps ≤ h.N.length)) else true) &&
  (decide ((hn.map (·.f)).Nodup) && hn.all fun h => (defOf p h.f).isSome)
theorem plain_eq {a : Arguments} {ps : List Str} (h : plainP a ps = true) : ∃ as kd, a = ⟨[], as, none, [], kd, none, []⟩ ∧ as.map (·.arg) = ps ∧ ps.Nodup := by
  obtain ⟨a1, a2, a3, a4, a5, a6, a7⟩ := a
  have h1 := band h
  have h2 := band h1.2
  have h3 := band h2.2
  have h4 := band h3.2
  have h5 := band h4.2
  have h6 := band h5.2
  have e1 : a1 = [] := List.isEmpty_iff.mp h1.1
  have e2 : a3 = none := Option.isNone_iff_eq_none.mp h2.1
  have e3 : a4 = [] := List.isEmpty_iff.mp h3.1
  have e4 : a6 = none := Option.isNone_iff_eq_none.mp h4.1
  have e5 : a7 = [] := List.isEmpty_iff.mp h5.1
  subst e1 e2 e3 e4 e5
  exact ⟨a2, a5, rfl, of_decide_eq_true h6.1, of_decide_eq_true h6.2⟩
/-! ### the Hook -/
abbrev AlZ : Type := He.AlT × Bool
def obsZ (gl : List (Str × GK)) (fn : List He.DefD) (ts : List He.Tab) (K : PySem.W.Frag) : AlZ := (He.obsT [] fn ts K, ckAll K gl)
def valZ (fn : List He.DefD) (ts : List He.Tab) (w : World) : AlZ := (He.valT fn ts w, true)
def obsZG (n : Nat) (gl : List (Str × GK)) (fn : List He.DefD) (ts : List He.Tab) (g : Addr → Option Obj) : AlZ := obsZ gl fn ts (He.frG g (He.asD g n))
def SaysZ (gl : List (Str × GK)) (fn : List He.DefD) (ts : List He.Tab) (w : World) (K : PySem.W.Frag) : Prop := obsZ gl fn ts K = valZ fn ts w
def hookZ (n : Nat) (gl : List (Str × GK)) (fn : List He.DefD) (ts : List He.Tab) : PySem.W.Hook where
  α := AlZ
  obs := fun s => obsZG n gl fn ts s.heap.get?
  val := fun w => valZ fn ts w
  says := fun w h => ∃ K : PySem.W.Frag, K.In h ∧ SaysZ gl fn ts w K
  of := fun _ _ e => ⟨_, He.frG_in, e⟩
  keeps := fun _ _ _ ⟨K, hK, c⟩ k => ⟨K, PySem.W.Frag.In.keeps hK k, c⟩
theorem obsZG_eq {n : Nat} {gl : List (Str × GK)} {fn : List He.DefD} {ts : List He.Tab} {g : Addr → Option Obj} {s : Shared} (h : ∀ a, g a = s.heap.get? a) : obsZG n gl fn ts g = (hookZ n gl fn ts).obs s := by
  have e : g = s.heap.get? := funext h
  rw [e] <;> rfl
section
variable {gl : List (Str × GK)} {fn : List He.DefD} {p : Program} {hn : List Hn} {h : Heap} {mg : Str → Option Value}
theorem gls_ok (X : K.In h) (G : h.Ns mainGlobals mg) (c : SaysZ gl fn (tabsOf gl) w K) : Gls K w mg gl := by
  have c1 : He.obsT [] fn (tabsOf gl) K = He.valT fn (tabsOf gl) w := congrArg (fun z : AlZ => z.1) c
  have c2 : ckAll K gl = true := congrArg (fun z : AlZ => z.2) c
  have c3 := band c2
  have tabs : ∀ t ∈ tabsOf gl, He.dicW K (t.1 K) = some (He.keysIn w.params t.2) := fun t ht => by
    have e : (tabsOf gl).map (fun t => He.dicW K (t.1 K)) = (tabsOf gl).map fun t => some (He.keysIn w.params t.2) := congrArg (fun z : He.AlT => z.2) c1
    exact List.map_inj_left.mp e t ht
  refine ⟨fun x d hx => ?_, fun x hx hl => ?_⟩
  · have hm := PySem.mem_of_lookup hx
    have h1 := List.all_eq_true.mp c3.1 _ hm
    dsimp only at h1
    unfold ckC at h1
    split at h1
    · rename_i u hu
      have e := PySem.W.mg_of X G hu
      split at h1
      · rename_i ks vs
        split at h1
        · rename_i a
          have h2 := band h1
          have h3 := band h2.2
          have hga : He.ga K x = a := by
            unfold He.ga
            rw [hu]
          have ht : ((fun K => He.ga K x, ks.filterMap strOf) : He.Tab) ∈ tabsOf gl := List.mem_filterMap.mpr ⟨_, hm, rfl⟩
          have h4 := tabs _ ht
          dsimp only at h4
          rw [hga] at h4
          exact ⟨_, .ref a, e, rfl, fun as F H => .dc (dc_ok h4 (of_decide_eq_true h2.1) h3.1 h3.2)⟩
        · cases h1
      · obtain ⟨v, h2, h3⟩ := (ckV_ok (w := w) 400).1 _ _ h1
        exact ⟨u, v, e, h2, h3⟩
    · cases h1
  · have h1 := List.all_eq_true.mp c3.2 x hx
    rcases Bool.or_eq_true_iff.mp h1 with h2 | h2
    · rw [hl] at h2
      cases h2
    · exact He.free_ok X G h2
theorem defsZ (X : K.In h) (G : h.Ns mainGlobals mg) (c : SaysZ gl (fnsOf p) (tabsOf gl) w K) (hk : hintsOk p hn = true) (hfn : ∀ h ∈ hn, gl.lookup h.f = some .fn) : ∀ h ∈ hn, DefOk K mg p h := by
  intro hi hh
  have c1 : He.obsT [] (fnsOf p) (tabsOf gl) K = He.valT (fnsOf p) (tabsOf gl) w := congrArg (fun z : AlZ => z.1) c
  have c2 : ckAll K gl = true := congrArg (fun z : AlZ => z.2) c
  have cd : He.SaysD [] (fnsOf p) K := congrArg (fun z : He.AlT => z.1) c1
  have k1 := band hk
  have k2 := band k1.2
  have hs := List.all_eq_true.mp k2.2 hi hh
  obtain ⟨⟨b, sc⟩, hd⟩ := Option.isSome_iff_exists.mp hs
  have hd' := hd
  unfold defOf at hd'
  obtain ⟨st, hst, e⟩ := List.exists_of_findSome?_eq_some hd'
  split at e
  · rename_i n a b' x1 x2 x3 sc' x4 x5 x6
    obtain ⟨hf, e2⟩ := op e
    cases e2
    subst hf
    have hm : (⟨(hi.f, none), hi.f, hi.f, a, b, sc, [], []⟩ : He.DefD) ∈ fnsOf p := List.mem_filterMap.mpr ⟨_, hst, rfl⟩
    have h1 := List.all_eq_true.mp (List.all_eq_true.mp k1.1 _ hm) hi hh
    rw [if_pos (show hi.f = (⟨(hi.f, none), hi.f, hi.f, a, b, sc, [], []⟩ : He.DefD).name from rfl)] at h1
    have h2 := band h1
    have h3 := band h2.2
    obtain ⟨as, kd, ea, ep, nd⟩ := plain_eq h2.1
    obtain ⟨i, hi', e3⟩ := List.getElem_of_mem hm
    obtain ⟨fd, F⟩ := cd.def_ i (d := ⟨(hi.f, none), hi.f, hi.f, a, b, sc, [], []⟩) (by rw [List.getElem?_eq_getElem hi', e3])
    have hg := List.all_eq_true.mp (band c2).1 _ (PySem.mem_of_lookup (hfn hi hh))
    have hg2 := He.glo_ok X G (show (He.Fa.glo hi.f).ok K = true from hg)
    have ea' : a = ⟨[], as, none, [], kd, none, []⟩ := ea
    subst ea'
    obtain ⟨oc, od, dV, kV, doc, pm, an, cdv, ct, osl, rfl, lk, hcd, hD, _⟩ := F.ex
    have hdv : dV = .none := by
      rcases hD with ⟨_, q⟩ | ⟨q, _⟩
      · exact q
      · exact absurd rfl q
    subst hdv
    exact ⟨_, _, _, _, b, sc, .none, kV, doc, pm, cdv, ct, oc, an, od, osl, hd, hg2, lk, hcd, F.kp, fun us hl => (by
      rw [← ep] at hl nd ⊢
      exact bind_plain nd us hl), C8.fnScope_by h3.1, of_decide_eq_true h3.2⟩
  · cases e
end
end Z
end
section
set_option Elab.async false
set_option maxRecDepth 100000
namespace Z
open PySem
def k75_gl_0 : List (Str × GK) := [
  ("is_whole_number", GK.fn),
  ("is_number_below", GK.fn),
  ("is_tuple_of", GK.fn),
  ("is_row_below", GK.fn),
  ("is_exchange", GK.fn),
  ("are_exchanges", GK.fn),
  ("is_ascending", GK.fn),
  ("is_place_set", GK.fn),
  ("starts_with", GK.fn),
  ("KINDS", GK.con (D.tup [(D.str "place"), (D.str "set"), (D.str "row"), (D.str "parts"), (D.str "colours")]))]
def k75_gl_1 : List (Str × GK) := [
  ("is_partition", GK.fn),
  ("judge_thing", GK.fn),
  ("OPPOSITES", GK.con (D.dc [(D.str "in"), (D.str "out"), (D.str "same"), (D.str "unlike"), (D.str "normal"), (D.str "broken"), (D.str "tower"), (D.str "stuck"), (D.str "turned"), (D.str "apart"), (D.str "led"), (D.str "unled"), (D.str "map"), (D.str "nomap")] [(D.str "out"), (D.str "in"), (D.str "unlike"), (D.str "same"), (D.str "broken"), (D.str "normal"), (D.str "stuck"), (D.str "tower"), (D.str "apart"), (D.str "turned"), (D.str "unled"), (D.str "led"), (D.str "nomap"), (D.str "map")])),
  ("WORDS", GK.con (D.tup [(D.str "in"), (D.str "out"), (D.str "same"), (D.str "unlike"), (D.str "order"), (D.str "normal"), (D.str "broken"), (D.str "tower"), (D.str "stuck"), (D.str "turned"), (D.str "apart"), (D.str "led"), (D.str "unled"), (D.str "map"), (D.str "nomap"), (D.str "colourings")])),
  ("MOST_MAKERS", GK.con (D.int (24))),
  ("MOST_NUMBER", GK.con (D.int (999999999999))),
  ("is_number_within", GK.fn),
  ("are_makers", GK.fn),
  ("fits_claim", GK.fn),
  ("judge_claim", GK.fn)]
def k75_gl_2 : List (Str × GK) := [
  ("opposite_of", GK.fn),
  ("_law_draws", GK.fn),
  ("_law_take", GK.fn),
  ("_law_pick", GK.fn),
  ("_law_same", GK.fn),
  ("_law_shuffled", GK.fn),
  ("_law_is_int", GK.fn),
  ("_law_identity", GK.fn),
  ("_law_of_rings", GK.fn),
  ("_law_exchange", GK.fn)]
def k75_gl_3 : List (Str × GK) := [
  ("_law_flat", GK.fn),
  ("_law_is_exchange", GK.fn),
  ("_law_are_exchanges", GK.fn),
  ("_law_bent", GK.fn),
  ("_law_thing_led", GK.fn),
  ("_law_any_thing", GK.fn),
  ("_law_is_set", GK.fn),
  ("_law_is_thing", GK.fn),
  ("_law_is_claim", GK.fn),
  ("_law_words", GK.fn)]
def k75_gl_4 : List (Str × GK) := [
  ("_law_opposite", GK.fn),
  ("_law_plain_claim", GK.fn),
  ("_law_good", GK.fn),
  ("_law_near", GK.fn),
  ("law", GK.fn)]
def k75_gl : List (Str × GK) := k75_gl_0 ++ (k75_gl_1 ++ (k75_gl_2 ++ (k75_gl_3 ++ (k75_gl_4))))
def k75_hn_0 : List (Hn) := [
  ⟨"is_whole_number", ["thing"], 1, []⟩,
  ⟨"is_number_below", ["thing", "bound"], 2, []⟩,
  ⟨"is_tuple_of", ["thing", "many"], 2, []⟩,
  ⟨"is_row_below", ["thing", "bound", "one"], 2, []⟩,
  ⟨"is_exchange", ["n", "thing"], 2, []⟩,
  ⟨"are_exchanges", ["n", "thing", "one"], 2, []⟩,
  ⟨"is_ascending", ["row", "k"], 1, []⟩,
  ⟨"is_place_set", ["n", "thing"], 2, []⟩,
  ⟨"starts_with", ["thing", "words"], 2, []⟩,
  ⟨"is_partition", ["n", "thing", "places", "place"], 2, []⟩]
def k75_hn_1 : List (Hn) := [
  ⟨"judge_thing", ["n", "thing", "kind", "worth"], 2, []⟩,
  ⟨"is_number_within", ["thing", "least", "most"], 3, []⟩,
  ⟨"are_makers", ["n", "thing"], 2, []⟩,
  ⟨"fits_claim", ["word", "n", "makers", "rest"], 4, []⟩,
  ⟨"judge_claim", ["thing"], 1, []⟩,
  ⟨"opposite_of", ["claim"], 1, []⟩,
  ⟨"_law_draws", ["script", "many", "cells", "left", "draws", "k", "place", "cell", "mixed"], 2, [(78, 12, 61), (81, 11, 22), (82, 12, 14)]⟩,
  ⟨"_law_take", ["draws", "many"], 2, []⟩,
  ⟨"_law_pick", ["draws", "row"], 2, []⟩,
  ⟨"_law_same", ["actual", "due", "k"], 2, []⟩]
def k75_hn_2 : List (Hn) := [
  ⟨"_law_shuffled", ["draws", "row", "left", "told", "k"], 2, [(112, 11, 20), (113, 11, 13)]⟩,
  ⟨"_law_is_int", ["thing"], 1, []⟩,
  ⟨"_law_identity", ["n"], 1, []⟩,
  ⟨"_law_of_rings", ["n", "rings", "row", "ring", "j"], 2, [(122, 10, 24)]⟩,
  ⟨"_law_exchange", ["draws", "n", "pick", "places"], 2, []⟩,
  ⟨"_law_flat", ["rows", "told", "row"], 1, []⟩,
  ⟨"_law_is_exchange", ["n", "thing", "i"], 2, []⟩,
  ⟨"_law_are_exchanges", ["n", "thing", "p"], 2, []⟩,
  ⟨"_law_bent", ["draws", "thing", "turn", "rows", "here", "k", "pick", "j", "row"], 2, [(145, 18, 20)]⟩,
  ⟨"_law_thing_led", ["p", "thing", "row", "i", "kind", "told", "sets", "one"], 2, [(180, 15, 17), (184, 10, 25)]⟩]
def k75_hn_3 : List (Hn) := [
  ⟨"_law_any_thing", ["draws", "n", "kind", "places", "many", "sets", "i", "j", "one"], 2, [(200, 11, 13), (204, 24, 27)]⟩,
  ⟨"_law_is_set", ["n", "thing", "k", "i"], 2, []⟩,
  ⟨"_law_is_thing", ["n", "thing", "kind", "told", "one", "i"], 2, []⟩,
  ⟨"_law_is_claim", ["thing", "word", "n", "makers", "one", "two", "good"], 1, []⟩,
  ⟨"_law_words", ["rows"], 0, []⟩,
  ⟨"_law_opposite", ["claim", "one", "two"], 1, []⟩,
  ⟨"_law_plain_claim", ["draws", "word", "n", "makers", "p", "thing", "m", "k", "q"], 2, []⟩,
  ⟨"_law_good", ["thing"], 1, []⟩,
  ⟨"_law_near", ["draws", "claim", "pick"], 2, []⟩,
  ⟨"law", ["script", "draws", "word", "n", "p", "many", "things", "claim", "thing", "turn"], 1, [(305, 12, 36)]⟩]
def k75_hn : List (Hn) := k75_hn_0 ++ (k75_hn_1 ++ (k75_hn_2 ++ (k75_hn_3)))
abbrev k75_p : Program := PySem.Challenge.pw_exchangetowers_k75_claims_judged
end Z
end
section
set_option Elab.async false
set_option linter.all false
set_option maxRecDepth 100000
set_option maxHeartbeats 0
/-! The program of the law as our trees. -/
namespace Z
open PySem
def k75_b_is_whole_number : Ss := (.cons (.ret (.and (.isi (.var 0) [.int]) (.not (.isi (.var 0) [.bool])))) .nil)
def k75_b_is_number_below : Ss := (.cons (.ret (.and (.call "is_whole_number" (.cons (.var 0) .nil)) (.chn .le .lt (.c (.int (0))) (.var 0) (.var 1)))) .nil)
def k75_b_is_tuple_of : Ss := (.cons (.ret (.and (.isi (.var 0) [.tuple]) (.cmp .eq (.bi .len (.cons (.var 0) .nil)) (.var 1)))) .nil)
def k75_b_is_row_below : Ss := (.cons (.ret (.and (.isi (.var 0) [.tuple]) (.bi .all (.cons (.comp [2] (.seq (.var 0)) .nope (.call "is_number_below" (.cons (.var 2) (.cons (.var 1) .nil))) [2]) .nil)))) .nil)
def k75_b_is_exchange : Ss := (.cons (.ret (.and (.call "is_tuple_of" (.cons (.var 1) (.cons (.var 0) .nil))) (.and (.call "is_row_below" (.cons (.var 1) (.cons (.var 0) .nil))) (.cmp .eq (.bi .len (.cons (.bi .set (.cons (.var 1) .nil)) .nil)) (.var 0))))) .nil)
def k75_b_are_exchanges : Ss := (.cons (.ret (.and (.isi (.var 1) [.tuple]) (.bi .all (.cons (.comp [2] (.seq (.var 1)) .nope (.call "is_exchange" (.cons (.var 0) (.cons (.var 2) .nil))) [2]) .nil)))) .nil)
def k75_b_is_ascending : Ss := (.cons (.ret (.bi .all (.cons (.comp [1] (.rng (.c (.int (0))) (.bin .sub (.bi .len (.cons (.var 0) .nil)) (.c (.int (1))))) .nope (.cmp .lt (.idx (.var 0) (.var 1)) (.idx (.var 0) (.bin .add (.var 1) (.c (.int (1)))))) [1]) .nil))) .nil)
def k75_b_is_place_set : Ss := (.cons (.ret (.and (.call "is_row_below" (.cons (.var 1) (.cons (.var 0) .nil))) (.call "is_ascending" (.cons (.var 1) .nil)))) .nil)
def k75_b_starts_with : Ss := (.cons (.ret (.and (.isi (.var 0) [.tuple]) (.and (.cmp .gt (.bi .len (.cons (.var 0) .nil)) (.c (.int (0)))) (.and (.isi (.idx (.var 0) (.c (.int (0)))) [.str]) (.cmp .mem (.idx (.var 0) (.c (.int (0)))) (.var 1)))))) .nil)
def k75_b_is_partition : Ss := (.cons (.ife (.or (.not (.isi (.var 1) [.tuple])) (.not (.bi .all (.cons (.comp [2] (.seq (.var 1)) .nope (.and (.call "is_place_set" (.cons (.var 0) (.cons (.var 2) .nil))) (.cmp .gt (.bi .len (.cons (.var 2) .nil)) (.c (.int (0))))) [2]) .nil)))) (.cons (.ret (.c (.bl false))) .nil) .nil) (.cons (.ife (.not (.call "is_ascending" (.cons (.comp [2] (.seq (.var 1)) .nope (.idx (.var 2) (.c (.int (0)))) [2]) .nil))) (.cons (.ret (.c (.bl false))) .nil) .nil) (.cons (.ret (.cmp .eq (.bi .sorted (.cons (.comp2 [2] (.seq (.var 1)) [3] (.seq (.var 2)) (.var 3) [2, 3] [3]) .nil)) (.bi .range (.cons (.var 0) .nil)))) .nil)))
def k75_b_judge_thing : Ss := (.cons (.ife (.or (.not (.call "is_tuple_of" (.cons (.var 1) (.cons (.c (.int (2))) .nil)))) (.or (.not (.isi (.idx (.var 1) (.c (.int (0)))) [.str])) (.cmp .nmem (.idx (.var 1) (.c (.int (0)))) (.c (.tup [(.str "place"), (.str "set"), (.str "row"), (.str "parts"), (.str "colours")]))))) (.cons (.ret (.c (.bl false))) .nil) .nil) (.cons (.asg (.tup [2, 3]) (.var 1)) (.cons (.ife (.cmp .eq (.var 2) (.c (.str "place"))) (.cons (.ret (.call "is_number_below" (.cons (.var 3) (.cons (.var 0) .nil)))) .nil) .nil) (.cons (.ife (.cmp .eq (.var 2) (.c (.str "set"))) (.cons (.ret (.call "is_place_set" (.cons (.var 0) (.cons (.var 3) .nil)))) .nil) .nil) (.cons (.ife (.cmp .eq (.var 2) (.c (.str "row"))) (.cons (.ret (.and (.call "is_row_below" (.cons (.var 3) (.cons (.var 0) .nil))) (.cmp .eq (.bi .len (.cons (.bi .set (.cons (.var 3) .nil)) .nil)) (.bi .len (.cons (.var 3) .nil))))) .nil) .nil) (.cons (.ife (.cmp .eq (.var 2) (.c (.str "colours"))) (.cons (.ret (.and (.call "is_row_below" (.cons (.var 3) (.cons (.c (.int (10))) .nil))) (.cmp .eq (.bi .len (.cons (.var 3) .nil)) (.var 0)))) .nil) .nil) (.cons (.ret (.call "is_partition" (.cons (.var 0) (.cons (.var 3) .nil)))) .nil)))))))
def k75_b_is_number_within : Ss := (.cons (.ret (.and (.call "is_whole_number" (.cons (.var 0) .nil)) (.chn .le .le (.var 1) (.var 0) (.var 2)))) .nil)
def k75_b_are_makers : Ss := (.cons (.ret (.and (.call "are_exchanges" (.cons (.var 0) (.cons (.var 1) .nil))) (.cmp .le (.bi .len (.cons (.var 1) .nil)) (.c (.int (24)))))) .nil)
def k75_b_fits_claim : Ss := (.cons (.ife (.cmp .mem (.var 0) (.tup (.cons (.c (.str "tower")) (.cons (.c (.str "stuck")) .nil)))) (.cons (.ret (.cmp .eq (.var 3) (.tup .nil))) .nil) .nil) (.cons (.ife (.cmp .mem (.var 0) (.tup (.cons (.c (.str "in")) (.cons (.c (.str "out")) (.cons (.c (.str "order")) (.cons (.c (.str "same")) (.cons (.c (.str "unlike")) (.cons (.c (.str "normal")) (.cons (.c (.str "broken")) .nil))))))))) (.cons (.ife (.cmp .ne (.bi .len (.cons (.var 3) .nil)) (.c (.int (1)))) (.cons (.ret (.c (.bl false))) .nil) .nil) (.cons (.ife (.cmp .mem (.var 0) (.tup (.cons (.c (.str "in")) (.cons (.c (.str "out")) .nil)))) (.cons (.ret (.call "is_exchange" (.cons (.var 1) (.cons (.idx (.var 3) (.c (.int (0)))) .nil)))) .nil) .nil) (.cons (.ret (.ite (.cmp .eq (.var 0) (.c (.str "order"))) (.call "is_number_within" (.cons (.idx (.var 3) (.c (.int (0)))) (.cons (.c (.int (0))) (.cons (.c (.int (999999999999))) .nil)))) (.call "are_makers" (.cons (.var 1) (.cons (.idx (.var 3) (.c (.int (0)))) .nil))))) .nil))) .nil) (.cons (.ife (.cmp .ne (.bi .len (.cons (.var 3) .nil)) (.c (.int (2)))) (.cons (.ret (.c (.bl false))) .nil) .nil) (.cons (.ife (.cmp .mem (.var 0) (.tup (.cons (.c (.str "turned")) (.cons (.c (.str "apart")) .nil)))) (.cons (.ret (.call "are_exchanges" (.cons (.var 1) (.cons (.var 3) .nil)))) .nil) .nil) (.cons (.ife (.cmp .mem (.var 0) (.tup (.cons (.c (.str "led")) (.cons (.c (.str "unled")) .nil)))) (.cons (.ret (.and (.call "judge_thing" (.cons (.var 1) (.cons (.idx (.var 3) (.c (.int (0)))) .nil))) (.and (.call "judge_thing" (.cons (.var 1) (.cons (.idx (.var 3) (.c (.int (1)))) .nil))) (.cmp .eq (.idx (.idx (.var 3) (.c (.int (0)))) (.c (.int (0)))) (.idx (.idx (.var 3) (.c (.int (1)))) (.c (.int (0)))))))) .nil) .nil) (.cons (.ife (.cmp .eq (.var 0) (.c (.str "colourings"))) (.cons (.ret (.and (.call "is_number_within" (.cons (.idx (.var 3) (.c (.int (0)))) (.cons (.c (.int (1))) (.cons (.c (.int (9))) .nil)))) (.call "is_number_within" (.cons (.idx (.var 3) (.c (.int (1)))) (.cons (.c (.int (0))) (.cons (.c (.int (999999999999))) .nil)))))) .nil) .nil) (.cons (.ret (.and (.call "is_number_within" (.cons (.idx (.var 3) (.c (.int (0)))) (.cons (.c (.int (1))) (.cons (.c (.int (12))) .nil)))) (.and (.call "are_exchanges" (.cons (.idx (.var 3) (.c (.int (0)))) (.cons (.idx (.var 3) (.c (.int (1)))) .nil))) (.cmp .eq (.bi .len (.cons (.idx (.var 3) (.c (.int (1)))) .nil)) (.bi .len (.cons (.var 2) .nil)))))) .nil)))))))
def k75_b_judge_claim : Ss := (.cons (.ife (.or (.not (.call "starts_with" (.cons (.var 0) (.cons (.c (.tup [(.str "in"), (.str "out"), (.str "same"), (.str "unlike"), (.str "order"), (.str "normal"), (.str "broken"), (.str "tower"), (.str "stuck"), (.str "turned"), (.str "apart"), (.str "led"), (.str "unled"), (.str "map"), (.str "nomap"), (.str "colourings")])) .nil)))) (.or (.cmp .lt (.bi .len (.cons (.var 0) .nil)) (.c (.int (3)))) (.not (.call "is_number_within" (.cons (.idx (.var 0) (.c (.int (1)))) (.cons (.c (.int (1))) (.cons (.c (.int (12))) .nil))))))) (.cons (.ret (.c (.bl false))) .nil) .nil) (.cons (.ret (.and (.call "are_makers" (.cons (.idx (.var 0) (.c (.int (1)))) (.cons (.idx (.var 0) (.c (.int (2)))) .nil))) (.call "fits_claim" (.cons (.idx (.var 0) (.c (.int (0)))) (.cons (.idx (.var 0) (.c (.int (1)))) (.cons (.idx (.var 0) (.c (.int (2)))) (.cons (.sli (.var 0) (.c (.int (3))) .nope) .nil))))))) .nil))
def k75_b_opposite_of : Ss := (.cons (.ife (.cmp .nmem (.idx (.var 0) (.c (.int (0)))) (.c (.dc [(.str "in"), (.str "out"), (.str "same"), (.str "unlike"), (.str "normal"), (.str "broken"), (.str "tower"), (.str "stuck"), (.str "turned"), (.str "apart"), (.str "led"), (.str "unled"), (.str "map"), (.str "nomap")] [(.str "out"), (.str "in"), (.str "unlike"), (.str "same"), (.str "broken"), (.str "normal"), (.str "stuck"), (.str "tower"), (.str "apart"), (.str "turned"), (.str "unled"), (.str "led"), (.str "nomap"), (.str "map")]))) (.cons (.ret (.c .non)) .nil) .nil) (.cons (.ret (.bin .add (.tup (.cons (.idx (.c (.dc [(.str "in"), (.str "out"), (.str "same"), (.str "unlike"), (.str "normal"), (.str "broken"), (.str "tower"), (.str "stuck"), (.str "turned"), (.str "apart"), (.str "led"), (.str "unled"), (.str "map"), (.str "nomap")] [(.str "out"), (.str "in"), (.str "unlike"), (.str "same"), (.str "broken"), (.str "normal"), (.str "stuck"), (.str "tower"), (.str "apart"), (.str "turned"), (.str "unled"), (.str "led"), (.str "nomap"), (.str "map")])) (.idx (.var 0) (.c (.int (0))))) .nil)) (.sli (.var 0) (.c (.int (1))) .nope))) .nil))
def k75_b__law_draws : Ss := (.cons (.asg (.name 2) (.mat (.comp [7] (.seq (.sli (.var 0) .nope (.c (.int (63))))) .nope (.bin .mod (.bi .int (.cons (.var 7) .nil)) (.bin .shl (.c (.int (1))) (.c (.int (7200))))) [7]))) (.cons (.ife (.cmp .eq (.bi .len (.cons (.var 2) .nil)) (.c (.int (0)))) (.cons (.expr (.mth .append (.var 2) (.cons (.c (.int (0))) .nil))) .nil) .nil) (.cons (.asg (.name 3) (.mat (.bi .list (.cons (.var 2) .nil)))) (.cons (.asg (.name 4) (.mat (.lst .nil))) (.cons (.for_ [5] (.rng (.c (.int (0))) (.var 1)) (.cons (.asg (.name 6) (.bin .mod (.bi .int (.cons (.var 5) .nil)) (.bi .len (.cons (.var 2) .nil)))) (.cons (.ife (.and (.cmp .ge (.idx (.var 2) (.var 6)) (.bin .pow (.c (.int (10))) (.c (.int (18))))) (.cmp .gt (.idx (.var 3) (.var 6)) (.c (.int (0))))) (.cons (.expr (.mth .append (.var 4) (.cons (.bin .mod (.bi .int (.cons (.idx (.var 3) (.var 6)) .nil)) (.c (.int (1000)))) .nil))) (.cons (.asg (.sub (.var 3) (.var 6)) (.bin .fdiv (.idx (.var 3) (.var 6)) (.c (.int (1000))))) .nil)) (.cons (.asg (.name 8) (.bin .mod (.bi .int (.cons (.bin .add (.bin .add (.bin .mul (.idx (.var 2) (.var 6)) (.c (.int (48271)))) (.bin .mul (.var 5) (.c (.int (69621))))) (.c (.int (11)))) .nil)) (.c (.int (2147483647))))) (.cons (.expr (.mth .append (.var 4) (.cons (.bin .mod (.bi .int (.cons (.bin .add (.bin .add (.bin .mul (.var 8) (.var 8)) (.bin .mul (.c (.int (3))) (.var 8))) (.var 5)) .nil)) (.c (.int (1000003)))) .nil))) .nil))) .nil))) (.cons (.expr (.mth .reverse (.var 4) .nil)) (.cons (.ret (.var 4)) .nil)))))))
def k75_b__law_take : Ss := (.cons (.ife (.cmp .eq (.bi .len (.cons (.var 0) .nil)) (.c (.int (0)))) (.cons (.ret (.c (.int (0)))) .nil) .nil) (.cons (.ret (.bin .mod (.bi .int (.cons (.mth .pop (.var 0) .nil) .nil)) (.var 1))) .nil))
def k75_b__law_pick : Ss := (.cons (.ret (.idx (.var 1) (.call "_law_take" (.cons (.var 0) (.cons (.bi .len (.cons (.var 1) .nil)) .nil))))) .nil)
def k75_b__law_same : Ss := (.cons (.ife (.isi (.var 1) [.tuple, .list]) (.cons (.ife (.or (.cmp .ne (.isi (.var 0) [.tuple]) (.isi (.var 1) [.tuple])) (.cmp .ne (.isi (.var 0) [.list]) (.isi (.var 1) [.list]))) (.cons (.ret (.c (.bl false))) .nil) .nil) (.cons (.ife (.cmp .ne (.bi .len (.cons (.var 0) .nil)) (.bi .len (.cons (.var 1) .nil))) (.cons (.ret (.c (.bl false))) .nil) .nil) (.cons (.ret (.cmp .nmem (.c (.bl false)) (.comp [2] (.rng (.c (.int (0))) (.bi .len (.cons (.var 1) .nil))) .nope (.call "_law_same" (.cons (.idx (.var 0) (.var 2)) (.cons (.idx (.var 1) (.var 2)) .nil))) [2]))) .nil))) .nil) (.cons (.ife (.or (.cmp .ne (.isi (.var 0) [.bool]) (.isi (.var 1) [.bool])) (.cmp .ne (.isi (.var 0) [.int]) (.isi (.var 1) [.int]))) (.cons (.ret (.c (.bl false))) .nil) .nil) (.cons (.ife (.or (.cmp .ne (.isi (.var 0) [.str]) (.isi (.var 1) [.str])) (.cmp .ne (.cmp .is_ (.var 0) (.c .non)) (.cmp .is_ (.var 1) (.c .non)))) (.cons (.ret (.c (.bl false))) .nil) .nil) (.cons (.ret (.cmp .eq (.var 0) (.var 1))) .nil))))
def k75_b__law_shuffled : Ss := (.cons (.asg (.name 2) (.mat (.bi .list (.cons (.var 1) .nil)))) (.cons (.asg (.name 3) (.mat (.lst .nil))) (.cons (.for_ [4] (.rng (.c (.int (0))) (.bi .len (.cons (.var 2) .nil))) (.cons (.expr (.mth .append (.var 3) (.cons (.mth .pop (.var 2) (.cons (.call "_law_take" (.cons (.var 0) (.cons (.bi .len (.cons (.var 2) .nil)) .nil))) .nil)) .nil))) .nil)) (.cons (.ret (.var 3)) .nil))))
def k75_b__law_is_int : Ss := (.cons (.ret (.and (.isi (.var 0) [.int]) (.not (.isi (.var 0) [.bool])))) .nil)
def k75_b__law_identity : Ss := (.cons (.ret (.bi .tuple (.cons (.bi .range (.cons (.var 0) .nil)) .nil))) .nil)
def k75_b__law_of_rings : Ss := (.cons (.asg (.name 2) (.mat (.bi .range (.cons (.var 0) .nil)))) (.cons (.for_ [3] (.seq (.var 1)) (.cons (.for_ [4] (.rng (.c (.int (0))) (.bi .len (.cons (.var 3) .nil))) (.cons (.asg (.sub (.var 2) (.idx (.var 3) (.var 4))) (.idx (.var 3) (.bin .mod (.bi .int (.cons (.bin .add (.var 4) (.c (.int (1)))) .nil)) (.bi .len (.cons (.var 3) .nil))))) .nil)) .nil)) (.cons (.ret (.bi .tuple (.cons (.var 2) .nil))) .nil)))
def k75_b__law_exchange : Ss := (.cons (.asg (.name 2) (.call "_law_take" (.cons (.var 0) (.cons (.c (.int (4))) .nil)))) (.cons (.asg (.name 3) (.call "_law_shuffled" (.cons (.var 0) (.cons (.bi .range (.cons (.var 1) .nil)) .nil)))) (.cons (.ife (.cmp .lt (.var 2) (.c (.int (2)))) (.cons (.ret (.bi .tuple (.cons (.var 3) .nil))) .nil) .nil) (.cons (.ret (.call "_law_of_rings" (.cons (.var 1) (.cons (.tup (.cons (.bi .tuple (.cons (.sli (.var 3) .nope (.bin .add (.c (.int (1))) (.call "_law_take" (.cons (.var 0) (.cons (.var 1) .nil))))) .nil)) .nil)) .nil)))) .nil))))
def k75_b__law_flat : Ss := (.cons (.asg (.name 1) (.lst .nil)) (.cons (.for_ [2] (.seq (.var 0)) (.cons (.asg (.name 1) (.bin .add (.var 1) (.bi .list (.cons (.var 2) .nil)))) .nil)) (.cons (.ret (.var 1)) .nil)))
def k75_b__law_is_exchange : Ss := (.cons (.ife (.or (.not (.isi (.var 1) [.tuple])) (.or (.cmp .ne (.bi .len (.cons (.var 1) .nil)) (.var 0)) (.cmp .mem (.c (.bl false)) (.comp [2] (.seq (.var 1)) .nope (.call "_law_is_int" (.cons (.var 2) .nil)) [2])))) (.cons (.ret (.c (.bl false))) .nil) .nil) (.cons (.ret (.cmp .eq (.bi .sorted (.cons (.var 1) .nil)) (.bi .range (.cons (.var 0) .nil)))) .nil))
def k75_b__law_are_exchanges : Ss := (.cons (.ret (.and (.isi (.var 1) [.tuple]) (.cmp .nmem (.c (.bl false)) (.comp [2] (.seq (.var 1)) .nope (.call "_law_is_exchange" (.cons (.var 0) (.cons (.var 2) .nil))) [2])))) .nil)
def k75_b__law_bent : Ss := (.cons (.asg (.tup [3, 4]) (.tup (.cons (.mat (.lst .nil)) (.cons (.var 1) .nil)))) (.cons (.for_ [2] (.rng (.c (.int (0))) (.c (.int (9)))) (.cons (.ife (.or (.not (.isi (.var 4) [.tuple])) (.or (.cmp .eq (.bi .len (.cons (.var 4) .nil)) (.c (.int (0)))) (.and (.cmp .gt (.var 2) (.c (.int (0)))) (.cmp .eq (.call "_law_take" (.cons (.var 0) (.cons (.c (.int (5))) .nil))) (.c (.int (0))))))) (.cons .brk .nil) .nil) (.cons (.asg (.name 5) (.call "_law_take" (.cons (.var 0) (.cons (.bi .len (.cons (.var 4) .nil)) .nil)))) (.cons (.expr (.mth .append (.var 3) (.cons (.tup (.cons (.var 4) (.cons (.var 5) .nil))) .nil))) (.cons (.asg (.name 4) (.idx (.var 4) (.var 5))) .nil))))) (.cons (.ife (.isi (.var 4) [.str]) (.cons (.asg (.name 4) (.call "_law_pick" (.cons (.var 0) (.cons (.lst (.cons (.c (.str "left")) (.cons (.c (.str "right")) (.cons (.c (.str "kept")) (.cons (.c (.str "moved")) (.cons (.c (.str "map")) (.cons (.c (.str "wrong")) (.cons (.c (.str "down")) (.cons (.c (.str "stays")) (.cons (.c (.str "set")) (.cons (.c (.str "x")) .nil))))))))))) .nil)))) .nil) (.cons (.ife (.isi (.var 4) [.tuple]) (.cons (.asg (.name 6) (.call "_law_take" (.cons (.var 0) (.cons (.c (.int (4))) .nil)))) (.cons (.asg (.name 7) (.call "_law_take" (.cons (.var 0) (.cons (.bi .max (.cons (.c (.int (1))) (.cons (.bi .len (.cons (.var 4) .nil)) .nil))) .nil)))) (.cons (.ife (.cmp .eq (.var 6) (.c (.int (0)))) (.cons (.asg (.name 4) (.bin .add (.sli (.var 4) .nope (.var 7)) (.sli (.var 4) (.bin .add (.var 7) (.c (.int (1)))) .nope))) .nil) (.cons (.ife (.cmp .eq (.var 6) (.c (.int (1)))) (.cons (.asg (.name 4) (.bin .add (.bin .add (.sli (.var 4) .nope (.var 7)) (.sli (.var 4) (.var 7) (.bin .add (.var 7) (.c (.int (1)))))) (.sli (.var 4) (.var 7) .nope))) .nil) (.cons (.ife (.cmp .eq (.var 6) (.c (.int (2)))) (.cons (.asg (.name 4) (.bin .add (.sli (.var 4) (.var 7) .nope) (.sli (.var 4) .nope (.var 7)))) .nil) (.cons (.asg (.name 4) (.bin .add (.var 4) (.tup (.cons (.call "_law_pick" (.cons (.var 0) (.cons (.lst (.cons (.c (.int (0))) (.cons (.tup .nil) (.cons (.tup (.cons (.c (.int (0))) .nil)) (.cons (.c (.str "a")) .nil))))) .nil))) .nil)))) .nil)) .nil)) .nil)) .nil))) (.cons (.asg (.name 4) (.call "_law_pick" (.cons (.var 0) (.cons (.lst (.cons (.bin .add (.var 4) (.c (.int (1)))) (.cons (.bin .sub (.var 4) (.c (.int (1)))) (.cons (.bin .add (.var 4) (.c (.int (1)))) (.cons (.bin .sub (.var 4) (.c (.int (1)))) (.cons (.c (.int (0))) (.cons (.neg (.c (.int (1)))) (.cons (.tup (.cons (.var 4) .nil)) (.cons (.c (.str "a")) .nil))))))))) .nil)))) .nil)) .nil)) (.cons (.for_ [2] (.rng (.c (.int (0))) (.bi .len (.cons (.var 3) .nil))) (.cons (.asg (.tup [8, 5]) (.mth .pop (.var 3) .nil)) (.cons (.asg (.name 4) (.bin .add (.bin .add (.sli (.var 8) .nope (.var 5)) (.tup (.cons (.var 4) .nil))) (.sli (.var 8) (.bin .add (.var 5) (.c (.int (1)))) .nope))) .nil))) (.cons (.ret (.var 4)) .nil)))))
def k75_b__law_thing_led : Ss := (.cons (.asg (.tup [4, 5]) (.var 1)) (.cons (.ife (.cmp .eq (.var 4) (.c (.str "place"))) (.cons (.ret (.tup (.cons (.var 4) (.cons (.idx (.var 0) (.var 5)) .nil)))) .nil) .nil) (.cons (.ife (.cmp .eq (.var 4) (.c (.str "set"))) (.cons (.ret (.tup (.cons (.var 4) (.cons (.bi .tuple (.cons (.bi .sorted (.cons (.comp [3] (.seq (.var 5)) .nope (.idx (.var 0) (.var 3)) [3]) .nil)) .nil)) .nil)))) .nil) .nil) (.cons (.ife (.cmp .eq (.var 4) (.c (.str "row"))) (.cons (.ret (.tup (.cons (.var 4) (.cons (.bi .tuple (.cons (.comp [3] (.seq (.var 5)) .nope (.idx (.var 0) (.var 3)) [3]) .nil)) .nil)))) .nil) .nil) (.cons (.ife (.cmp .eq (.var 4) (.c (.str "parts"))) (.cons (.asg (.name 6) (.mat (.lst .nil))) (.cons (.for_ [7] (.seq (.var 5)) (.cons (.expr (.mth .append (.var 6) (.cons (.bi .tuple (.cons (.bi .sorted (.cons (.comp [3] (.seq (.var 7)) .nope (.idx (.var 0) (.var 3)) [3]) .nil)) .nil)) .nil))) .nil)) (.cons (.ret (.tup (.cons (.var 4) (.cons (.bi .tuple (.cons (.bi .sorted (.cons (.var 6) .nil)) .nil)) .nil)))) .nil))) .nil) (.cons (.asg (.name 2) (.mat (.bin .mul (.lst (.cons (.c (.int (0))) .nil)) (.bi .len (.cons (.var 5) .nil))))) (.cons (.for_ [3] (.rng (.c (.int (0))) (.bi .len (.cons (.var 5) .nil))) (.cons (.asg (.sub (.var 2) (.idx (.var 0) (.var 3))) (.idx (.var 5) (.var 3))) .nil)) (.cons (.ret (.tup (.cons (.var 4) (.cons (.bi .tuple (.cons (.var 2) .nil)) .nil)))) .nil))))))))
def k75_b__law_any_thing : Ss := (.cons (.asg (.name 2) (.call "_law_pick" (.cons (.var 0) (.cons (.lst (.cons (.c (.str "place")) (.cons (.c (.str "set")) (.cons (.c (.str "row")) (.cons (.c (.str "parts")) (.cons (.c (.str "colours")) (.cons (.c (.str "set")) (.cons (.c (.str "row")) (.cons (.c (.str "parts")) (.cons (.c (.str "colours")) .nil)))))))))) .nil)))) (.cons (.asg (.name 3) (.call "_law_shuffled" (.cons (.var 0) (.cons (.bi .range (.cons (.var 1) .nil)) .nil)))) (.cons (.asg (.name 4) (.call "_law_take" (.cons (.var 0) (.cons (.bin .add (.var 1) (.c (.int (1)))) .nil)))) (.cons (.ife (.cmp .eq (.var 2) (.c (.str "place"))) (.cons (.ret (.tup (.cons (.var 2) (.cons (.idx (.var 3) (.c (.int (0)))) .nil)))) .nil) .nil) (.cons (.ife (.cmp .eq (.var 2) (.c (.str "set"))) (.cons (.ret (.tup (.cons (.var 2) (.cons (.bi .tuple (.cons (.bi .sorted (.cons (.sli (.var 3) .nope (.var 4)) .nil)) .nil)) .nil)))) .nil) .nil) (.cons (.ife (.cmp .eq (.var 2) (.c (.str "row"))) (.cons (.ret (.tup (.cons (.var 2) (.cons (.bi .tuple (.cons (.sli (.var 3) .nope (.var 4)) .nil)) .nil)))) .nil) .nil) (.cons (.ife (.cmp .eq (.var 2) (.c (.str "colours"))) (.cons (.ret (.tup (.cons (.var 2) (.cons (.bi .tuple (.cons (.comp [6] (.rng (.c (.int (0))) (.var 1)) .nope (.call "_law_pick" (.cons (.var 0) (.cons (.lst (.cons (.c (.int (0))) (.cons (.c (.int (0))) (.cons (.c (.int (1))) (.cons (.c (.int (1))) (.cons (.c (.int (2))) (.cons (.c (.int (9))) .nil))))))) .nil))) [6]) .nil)) .nil)))) .nil) .nil) (.cons (.asg (.name 5) (.mat (.lst .nil))) (.cons (.for_ [6] (.seq (.var 3)) (.cons (.asg (.name 7) (.call "_law_take" (.cons (.var 0) (.cons (.bi .min (.cons (.c (.int (4))) (.cons (.bin .add (.bi .len (.cons (.var 5) .nil)) (.c (.int (1)))) .nil))) .nil)))) (.cons (.ife (.cmp .eq (.var 7) (.bi .len (.cons (.var 5) .nil))) (.cons (.expr (.mth .append (.var 5) (.cons (.mat (.lst (.cons (.var 6) .nil))) .nil))) .nil) (.cons (.expr (.mth .append (.idx (.var 5) (.var 7)) (.cons (.var 6) .nil))) .nil)) .nil))) (.cons (.ret (.tup (.cons (.var 2) (.cons (.bi .tuple (.cons (.bi .sorted (.cons (.comp [8] (.seq (.var 5)) .nope (.bi .tuple (.cons (.bi .sorted (.cons (.var 8) .nil)) .nil)) [8]) .nil)) .nil)) .nil)))) .nil))))))))))
def k75_b__law_is_set : Ss := (.cons (.ife (.or (.not (.isi (.var 1) [.tuple])) (.cmp .mem (.c (.bl false)) (.comp [3] (.seq (.var 1)) .nope (.and (.call "_law_is_int" (.cons (.var 3) .nil)) (.and (.cmp .le (.c (.int (0))) (.var 3)) (.cmp .lt (.var 3) (.var 0)))) [3]))) (.cons (.ret (.c (.bl false))) .nil) .nil) (.cons (.ret (.cmp .nmem (.c (.bl false)) (.comp [2] (.rng (.c (.int (0))) (.bin .sub (.bi .len (.cons (.var 1) .nil)) (.c (.int (1))))) .nope (.cmp .lt (.idx (.var 1) (.var 2)) (.idx (.var 1) (.bin .add (.var 2) (.c (.int (1)))))) [2]))) .nil))
def k75_b__law_is_thing : Ss := (.cons (.ife (.or (.not (.isi (.var 1) [.tuple])) (.or (.cmp .ne (.bi .len (.cons (.var 1) .nil)) (.c (.int (2)))) (.not (.isi (.idx (.var 1) (.c (.int (0)))) [.str])))) (.cons (.ret (.c (.bl false))) .nil) .nil) (.cons (.asg (.tup [2, 3]) (.var 1)) (.cons (.ife (.cmp .eq (.var 2) (.c (.str "place"))) (.cons (.ret (.and (.call "_law_is_int" (.cons (.var 3) .nil)) (.and (.cmp .le (.c (.int (0))) (.var 3)) (.cmp .lt (.var 3) (.var 0))))) .nil) .nil) (.cons (.ife (.cmp .eq (.var 2) (.c (.str "set"))) (.cons (.ret (.call "_law_is_set" (.cons (.var 0) (.cons (.var 3) .nil)))) .nil) .nil) (.cons (.ife (.cmp .eq (.var 2) (.c (.str "row"))) (.cons (.ife (.or (.not (.isi (.var 3) [.tuple])) (.cmp .mem (.c (.bl false)) (.comp [5] (.seq (.var 3)) .nope (.and (.call "_law_is_int" (.cons (.var 5) .nil)) (.and (.cmp .le (.c (.int (0))) (.var 5)) (.cmp .lt (.var 5) (.var 0)))) [5]))) (.cons (.ret (.c (.bl false))) .nil) .nil) (.cons (.ret (.cmp .eq (.bi .len (.cons (.bi .set (.cons (.var 3) .nil)) .nil)) (.bi .len (.cons (.var 3) .nil)))) .nil)) .nil) (.cons (.ife (.cmp .eq (.var 2) (.c (.str "colours"))) (.cons (.ife (.or (.not (.isi (.var 3) [.tuple])) (.cmp .ne (.bi .len (.cons (.var 3) .nil)) (.var 0))) (.cons (.ret (.c (.bl false))) .nil) .nil) (.cons (.ret (.cmp .nmem (.c (.bl false)) (.comp [5] (.seq (.var 3)) .nope (.and (.call "_law_is_int" (.cons (.var 5) .nil)) (.and (.cmp .le (.c (.int (0))) (.var 5)) (.cmp .le (.var 5) (.c (.int (9)))))) [5]))) .nil)) .nil) (.cons (.ife (.or (.cmp .ne (.var 2) (.c (.str "parts"))) (.not (.isi (.var 3) [.tuple]))) (.cons (.ret (.c (.bl false))) .nil) .nil) (.cons (.ife (.cmp .mem (.c (.bl false)) (.comp [4] (.seq (.var 3)) .nope (.and (.call "_law_is_set" (.cons (.var 0) (.cons (.var 4) .nil))) (.cmp .gt (.bi .len (.cons (.var 4) .nil)) (.c (.int (0))))) [4])) (.cons (.ret (.c (.bl false))) .nil) .nil) (.cons (.ret (.and (.cmp .eq (.bi .list (.cons (.var 3) .nil)) (.bi .sorted (.cons (.var 3) .nil))) (.cmp .eq (.bi .sorted (.cons (.call "_law_flat" (.cons (.var 3) .nil)) .nil)) (.bi .range (.cons (.var 0) .nil))))) .nil)))))))))
def k75_b__law_is_claim : Ss := (.cons (.ife (.or (.not (.isi (.var 0) [.tuple])) (.or (.cmp .lt (.bi .len (.cons (.var 0) .nil)) (.c (.int (3)))) (.or (.cmp .gt (.bi .len (.cons (.var 0) .nil)) (.c (.int (5)))) (.not (.isi (.idx (.var 0) (.c (.int (0)))) [.str]))))) (.cons (.ret (.c (.bl false))) .nil) .nil) (.cons (.asg (.tup [1, 2, 3]) (.sli (.var 0) .nope (.c (.int (3))))) (.cons (.ife (.or (.not (.call "_law_is_int" (.cons (.var 2) .nil))) (.or (.cmp .lt (.var 2) (.c (.int (1)))) (.or (.cmp .gt (.var 2) (.c (.int (12)))) (.or (.not (.call "_law_are_exchanges" (.cons (.var 2) (.cons (.var 3) .nil)))) (.cmp .gt (.bi .len (.cons (.var 3) .nil)) (.c (.int (24)))))))) (.cons (.ret (.c (.bl false))) .nil) .nil) (.cons (.ife (.cmp .mem (.var 1) (.lst (.cons (.c (.str "tower")) (.cons (.c (.str "stuck")) .nil)))) (.cons (.ret (.cmp .eq (.bi .len (.cons (.var 0) .nil)) (.c (.int (3))))) .nil) .nil) (.cons (.ife (.cmp .mem (.var 1) (.lst (.cons (.c (.str "in")) (.cons (.c (.str "out")) .nil)))) (.cons (.ret (.and (.cmp .eq (.bi .len (.cons (.var 0) .nil)) (.c (.int (4)))) (.call "_law_is_exchange" (.cons (.var 2) (.cons (.idx (.var 0) (.c (.int (3)))) .nil))))) .nil) .nil) (.cons (.ife (.cmp .mem (.var 1) (.lst (.cons (.c (.str "same")) (.cons (.c (.str "unlike")) (.cons (.c (.str "normal")) (.cons (.c (.str "broken")) .nil)))))) (.cons (.ret (.and (.cmp .eq (.bi .len (.cons (.var 0) .nil)) (.c (.int (4)))) (.and (.call "_law_are_exchanges" (.cons (.var 2) (.cons (.idx (.var 0) (.c (.int (3)))) .nil))) (.cmp .le (.bi .len (.cons (.idx (.var 0) (.c (.int (3)))) .nil)) (.c (.int (24))))))) .nil) .nil) (.cons (.ife (.cmp .eq (.var 1) (.c (.str "order"))) (.cons (.ret (.and (.cmp .eq (.bi .len (.cons (.var 0) .nil)) (.c (.int (4)))) (.and (.call "_law_is_int" (.cons (.idx (.var 0) (.c (.int (3)))) .nil)) (.cmp .le (.c (.int (0))) (.idx (.var 0) (.c (.int (3)))))))) .nil) .nil) (.cons (.ife (.cmp .ne (.bi .len (.cons (.var 0) .nil)) (.c (.int (5)))) (.cons (.ret (.c (.bl false))) .nil) .nil) (.cons (.asg (.tup [4, 5]) (.sli (.var 0) (.c (.int (3))) .nope)) (.cons (.ife (.cmp .mem (.var 1) (.lst (.cons (.c (.str "turned")) (.cons (.c (.str "apart")) .nil)))) (.cons (.ret (.and (.call "_law_is_exchange" (.cons (.var 2) (.cons (.var 4) .nil))) (.call "_law_is_exchange" (.cons (.var 2) (.cons (.var 5) .nil))))) .nil) .nil) (.cons (.ife (.cmp .mem (.var 1) (.lst (.cons (.c (.str "led")) (.cons (.c (.str "unled")) .nil)))) (.cons (.ret (.and (.call "_law_is_thing" (.cons (.var 2) (.cons (.var 4) .nil))) (.and (.call "_law_is_thing" (.cons (.var 2) (.cons (.var 5) .nil))) (.cmp .eq (.idx (.var 4) (.c (.int (0)))) (.idx (.var 5) (.c (.int (0)))))))) .nil) .nil) (.cons (.ife (.cmp .mem (.var 1) (.lst (.cons (.c (.str "map")) (.cons (.c (.str "nomap")) .nil)))) (.cons (.asg (.name 6) (.and (.call "_law_is_int" (.cons (.var 4) .nil)) (.and (.cmp .le (.c (.int (1))) (.var 4)) (.cmp .le (.var 4) (.c (.int (12))))))) (.cons (.ret (.and (.var 6) (.and (.call "_law_are_exchanges" (.cons (.var 4) (.cons (.var 5) .nil))) (.cmp .eq (.bi .len (.cons (.var 5) .nil)) (.bi .len (.cons (.var 3) .nil)))))) .nil)) .nil) (.cons (.ret (.and (.cmp .eq (.var 1) (.c (.str "colourings"))) (.and (.call "_law_is_int" (.cons (.var 4) .nil)) (.and (.cmp .le (.c (.int (1))) (.var 4)) (.and (.cmp .le (.var 4) (.c (.int (9)))) (.and (.call "_law_is_int" (.cons (.var 5) .nil)) (.cmp .le (.c (.int (0))) (.var 5)))))))) .nil)))))))))))))
def k75_b__law_words : Ss := (.cons (.asg (.name 0) (.lst (.cons (.tup (.cons (.c (.str "in")) (.cons (.c (.str "out")) .nil))) (.cons (.tup (.cons (.c (.str "same")) (.cons (.c (.str "unlike")) .nil))) (.cons (.tup (.cons (.c (.str "normal")) (.cons (.c (.str "broken")) .nil))) (.cons (.tup (.cons (.c (.str "tower")) (.cons (.c (.str "stuck")) .nil))) (.cons (.tup (.cons (.c (.str "turned")) (.cons (.c (.str "apart")) .nil))) .nil))))))) (.cons (.ret (.bin .add (.var 0) (.lst (.cons (.tup (.cons (.c (.str "led")) (.cons (.c (.str "unled")) .nil))) (.cons (.tup (.cons (.c (.str "map")) (.cons (.c (.str "nomap")) .nil))) (.cons (.tup (.cons (.c (.str "order")) (.cons (.c (.str "")) .nil))) (.cons (.tup (.cons (.c (.str "colourings")) (.cons (.c (.str "")) .nil))) .nil))))))) .nil))
def k75_b__law_opposite : Ss := (.cons (.for_ [1, 2] (.seq (.call "_law_words" .nil)) (.cons (.ife (.and (.cmp .eq (.idx (.var 0) (.c (.int (0)))) (.var 1)) (.cmp .ne (.var 2) (.c (.str "")))) (.cons (.ret (.bin .add (.tup (.cons (.var 2) .nil)) (.sli (.var 0) (.c (.int (1))) .nope))) .nil) .nil) (.cons (.ife (.cmp .eq (.idx (.var 0) (.c (.int (0)))) (.var 2)) (.cons (.ret (.bin .add (.tup (.cons (.var 1) .nil)) (.sli (.var 0) (.c (.int (1))) .nope))) .nil) .nil) .nil))) (.cons (.ret (.c .non)) .nil))
def k75_b__law_plain_claim : Ss := (.cons (.asg (.name 2) (.bin .add (.c (.int (1))) (.call "_law_take" (.cons (.var 0) (.cons (.c (.int (12))) .nil))))) (.cons (.asg (.name 3) (.bi .tuple (.cons (.comp [7] (.rng (.c (.int (0))) (.call "_law_take" (.cons (.var 0) (.cons (.c (.int (5))) .nil)))) .nope (.call "_law_exchange" (.cons (.var 0) (.cons (.var 2) .nil))) [7]) .nil))) (.cons (.asg (.name 4) (.call "_law_exchange" (.cons (.var 0) (.cons (.var 2) .nil)))) (.cons (.ife (.cmp .mem (.var 1) (.lst (.cons (.c (.str "in")) (.cons (.c (.str "out")) .nil)))) (.cons (.ret (.tup (.cons (.var 1) (.cons (.var 2) (.cons (.var 3) (.cons (.var 4) .nil)))))) .nil) .nil) (.cons (.ife (.cmp .mem (.var 1) (.lst (.cons (.c (.str "tower")) (.cons (.c (.str "stuck")) .nil)))) (.cons (.ret (.tup (.cons (.var 1) (.cons (.var 2) (.cons (.var 3) .nil))))) .nil) .nil) (.cons (.ife (.cmp .eq (.var 1) (.c (.str "order"))) (.cons (.ret (.tup (.cons (.var 1) (.cons (.var 2) (.cons (.var 3) (.cons (.call "_law_pick" (.cons (.var 0) (.cons (.lst (.cons (.c (.int (0))) (.cons (.c (.int (1))) (.cons (.c (.int (24))) (.cons (.c (.int (1000000))) .nil))))) .nil))) .nil)))))) .nil) .nil) (.cons (.ife (.cmp .mem (.var 1) (.lst (.cons (.c (.str "turned")) (.cons (.c (.str "apart")) .nil)))) (.cons (.ret (.tup (.cons (.var 1) (.cons (.var 2) (.cons (.var 3) (.cons (.var 4) (.cons (.call "_law_exchange" (.cons (.var 0) (.cons (.var 2) .nil))) .nil))))))) .nil) .nil) (.cons (.ife (.cmp .mem (.var 1) (.lst (.cons (.c (.str "led")) (.cons (.c (.str "unled")) .nil)))) (.cons (.asg (.name 5) (.call "_law_any_thing" (.cons (.var 0) (.cons (.var 2) .nil)))) (.cons (.ret (.tup (.cons (.var 1) (.cons (.var 2) (.cons (.var 3) (.cons (.var 5) (.cons (.call "_law_thing_led" (.cons (.var 4) (.cons (.var 5) .nil))) .nil))))))) .nil)) .nil) (.cons (.ife (.cmp .mem (.var 1) (.lst (.cons (.c (.str "map")) (.cons (.c (.str "nomap")) .nil)))) (.cons (.asg (.name 6) (.bin .add (.c (.int (1))) (.call "_law_take" (.cons (.var 0) (.cons (.c (.int (12))) .nil))))) (.cons (.ret (.tup (.cons (.var 1) (.cons (.var 2) (.cons (.var 3) (.cons (.var 6) (.cons (.bi .tuple (.cons (.comp [8] (.seq (.var 3)) .nope (.call "_law_exchange" (.cons (.var 0) (.cons (.var 6) .nil))) [8]) .nil)) .nil))))))) .nil)) .nil) (.cons (.ife (.cmp .eq (.var 1) (.c (.str "colourings"))) (.cons (.ret (.tup (.cons (.var 1) (.cons (.var 2) (.cons (.var 3) (.cons (.bin .add (.c (.int (1))) (.call "_law_take" (.cons (.var 0) (.cons (.c (.int (9))) .nil)))) (.cons (.call "_law_pick" (.cons (.var 0) (.cons (.lst (.cons (.c (.int (0))) (.cons (.c (.int (1))) (.cons (.c (.int (70))) (.cons (.c (.int (1000000))) .nil))))) .nil))) .nil))))))) .nil) .nil) (.cons (.ret (.tup (.cons (.var 1) (.cons (.var 2) (.cons (.var 3) (.cons (.bi .tuple (.cons (.comp [7] (.rng (.c (.int (0))) (.call "_law_take" (.cons (.var 0) (.cons (.c (.int (4))) .nil)))) .nope (.call "_law_exchange" (.cons (.var 0) (.cons (.var 2) .nil))) [7]) .nil)) .nil)))))) .nil)))))))))))
def k75_b__law_good : Ss := (.cons (.ret (.call "_law_same" (.cons (.call "judge_claim" (.cons (.var 0) .nil)) (.cons (.call "_law_is_claim" (.cons (.var 0) .nil)) .nil)))) .nil)
def k75_b__law_near : Ss := (.cons (.asg (.name 2) (.call "_law_take" (.cons (.var 0) (.cons (.c (.int (8))) .nil)))) (.cons (.ife (.cmp .eq (.var 2) (.c (.int (0)))) (.cons (.ret (.bin .add (.tup (.cons (.call "_law_pick" (.cons (.var 0) (.cons (.bin .add (.call "_law_flat" (.cons (.call "_law_words" .nil) .nil)) (.lst (.cons (.c (.str "orders")) (.cons (.c (.str "parted")) .nil)))) .nil))) .nil)) (.sli (.var 1) (.c (.int (1))) .nope))) .nil) .nil) (.cons (.ife (.cmp .eq (.var 2) (.c (.int (1)))) (.cons (.ret (.sli (.var 1) .nope (.bin .sub (.bi .len (.cons (.var 1) .nil)) (.c (.int (1)))))) .nil) .nil) (.cons (.ife (.cmp .eq (.var 2) (.c (.int (2)))) (.cons (.ret (.bin .add (.var 1) (.tup (.cons (.call "_law_pick" (.cons (.var 0) (.cons (.lst (.cons (.tup .nil) (.cons (.c (.int (0))) (.cons (.idx (.var 1) (.c (.int (1)))) (.cons (.idx (.var 1) (.c (.int (2)))) .nil))))) .nil))) .nil)))) .nil) .nil) (.cons (.ife (.and (.cmp .eq (.var 2) (.c (.int (3)))) (.cmp .mem (.idx (.var 1) (.c (.int (0)))) (.lst (.cons (.c (.str "led")) (.cons (.c (.str "unled")) .nil))))) (.cons (.ret (.bin .add (.sli (.var 1) .nope (.c (.int (4)))) (.tup (.cons (.call "_law_any_thing" (.cons (.var 0) (.cons (.idx (.var 1) (.c (.int (1)))) .nil))) .nil)))) .nil) .nil) (.cons (.ife (.and (.cmp .eq (.var 2) (.c (.int (3)))) (.cmp .mem (.idx (.var 1) (.c (.int (0)))) (.lst (.cons (.c (.str "map")) (.cons (.c (.str "nomap")) .nil))))) (.cons (.ret (.bin .add (.sli (.var 1) .nope (.c (.int (4)))) (.tup (.cons (.bin .add (.idx (.var 1) (.c (.int (4)))) (.tup (.cons (.call "_law_identity" (.cons (.idx (.var 1) (.c (.int (3)))) .nil)) .nil))) .nil)))) .nil) .nil) (.cons (.ret (.call "_law_bent" (.cons (.var 0) (.cons (.var 1) .nil)))) .nil)))))))
def k75_b_law : Ss := (.cons (.asg (.name 1) (.mat (.call "_law_draws" (.cons (.var 0) (.cons (.c (.int (2600))) .nil))))) (.cons (.for_ [2] (.seq (.call "_law_flat" (.cons (.call "_law_words" .nil) .nil))) (.cons (.ife (.cmp .ne (.var 2) (.c (.str ""))) (.cons (.asg (.name 7) (.call "_law_plain_claim" (.cons (.var 1) (.cons (.var 2) .nil)))) (.cons (.ife (.or (.cmp .isn (.call "judge_claim" (.cons (.var 7) .nil)) (.c (.bl true))) (.not (.call "_law_same" (.cons (.call "opposite_of" (.cons (.var 7) .nil)) (.cons (.call "_law_opposite" (.cons (.var 7) .nil)) .nil))))) (.cons (.ret (.c (.bl false))) .nil) .nil) (.cons (.ife (.cmp .mem (.c (.bl false)) (.comp [9] (.rng (.c (.int (0))) (.c (.int (4)))) .nope (.call "_law_good" (.cons (.call "_law_near" (.cons (.var 1) (.cons (.var 7) .nil))) .nil)) [9])) (.cons (.ret (.c (.bl false))) .nil) .nil) .nil))) .nil) .nil)) (.cons (.asg (.name 3) (.bin .add (.c (.int (1))) (.call "_law_take" (.cons (.var 1) (.cons (.c (.int (12))) .nil))))) (.cons (.asg (.name 4) (.call "_law_exchange" (.cons (.var 1) (.cons (.var 3) .nil)))) (.cons (.asg (.name 5) (.bin .add (.c (.int (23))) (.call "_law_take" (.cons (.var 1) (.cons (.c (.int (3))) .nil))))) (.cons (.ife (.or (.not (.call "_law_good" (.cons (.tup (.cons (.c (.str "tower")) (.cons (.var 3) (.cons (.bin .mul (.tup (.cons (.var 4) .nil)) (.var 5)) .nil)))) .nil))) (.not (.call "_law_good" (.cons (.tup (.cons (.c (.str "same")) (.cons (.var 3) (.cons (.tup (.cons (.var 4) .nil)) (.cons (.bin .mul (.tup (.cons (.var 4) .nil)) (.var 5)) .nil))))) .nil)))) (.cons (.ret (.c (.bl false))) .nil) .nil) (.cons (.asg (.name 6) (.lst (.cons (.tup .nil) (.cons (.c (.int (0))) (.cons (.c (.str "in")) (.cons (.tup (.cons (.c (.str "in")) .nil)) (.cons (.tup (.cons (.c (.str "tower")) (.cons (.var 3) .nil))) (.cons (.tup (.cons (.c (.str "tower")) (.cons (.c (.int (0))) (.cons (.tup .nil) .nil)))) (.cons (.tup (.cons (.c (.str "tower")) (.cons (.c (.int (13))) (.cons (.tup .nil) .nil)))) (.cons (.tup (.cons (.c (.str "stuck")) (.cons (.c (.int (12))) (.cons (.tup .nil) .nil)))) (.cons (.tup (.cons (.c (.str "tower")) (.cons (.var 3) (.cons (.var 4) .nil)))) .nil))))))))))) (.cons (.asg (.name 6) (.bin .add (.var 6) (.lst (.cons (.tup (.cons (.c (.str "order")) (.cons (.c (.int (3))) (.cons (.tup .nil) (.cons (.c (.int (0))) .nil))))) (.cons (.tup (.cons (.c (.str "order")) (.cons (.c (.int (3))) (.cons (.tup .nil) (.cons (.neg (.c (.int (1)))) .nil))))) (.cons (.tup (.cons (.c (.str "colourings")) (.cons (.c (.int (3))) (.cons (.tup .nil) (.cons (.c (.int (0))) (.cons (.c (.int (1))) .nil)))))) (.cons (.tup (.cons (.c (.str "colourings")) (.cons (.c (.int (3))) (.cons (.tup .nil) (.cons (.c (.int (10))) (.cons (.c (.int (1))) .nil)))))) .nil))))))) (.cons (.asg (.name 6) (.bin .add (.var 6) (.lst (.cons (.tup (.cons (.c (.str "colourings")) (.cons (.c (.int (3))) (.cons (.tup .nil) (.cons (.c (.int (9))) (.cons (.c (.int (729))) .nil)))))) (.cons (.tup (.cons (.c (.str "in")) (.cons (.c (.int (3))) (.cons (.tup (.cons (.tup (.cons (.c (.int (0))) (.cons (.c (.int (1))) (.cons (.c (.int (2))) .nil)))) .nil)) (.cons (.tup (.cons (.c (.int (0))) (.cons (.c (.int (1))) (.cons (.c (.int (3))) .nil)))) .nil))))) (.cons (.tup (.cons (.c (.str "in")) (.cons (.c (.int (3))) (.cons (.tup (.cons (.tup (.cons (.c (.int (0))) (.cons (.c (.int (1))) .nil))) .nil)) (.cons (.tup (.cons (.c (.int (0))) (.cons (.c (.int (1))) (.cons (.c (.int (2))) .nil)))) .nil))))) .nil)))))) (.cons (.asg (.name 6) (.bin .add (.var 6) (.lst (.cons (.tup (.cons (.c (.str "map")) (.cons (.c (.int (2))) (.cons (.tup .nil) (.cons (.c (.int (12))) (.cons (.tup .nil) .nil)))))) (.cons (.tup (.cons (.c (.str "map")) (.cons (.c (.int (2))) (.cons (.tup .nil) (.cons (.c (.int (13))) (.cons (.tup .nil) .nil)))))) (.cons (.tup (.cons (.c (.str "map")) (.cons (.c (.int (2))) (.cons (.tup .nil) (.cons (.c (.int (0))) (.cons (.tup .nil) .nil)))))) (.cons (.tup (.cons (.c (.str "order")) (.cons (.c (.int (3))) (.cons (.tup .nil) (.cons (.c (.str "a")) .nil))))) .nil))))))) (.cons (.ret (.cmp .nmem (.c (.bl false)) (.comp [8] (.seq (.var 6)) .nope (.call "_law_good" (.cons (.var 8) .nil)) [8]))) .nil)))))))))))
def k75_P_0 : Prg := [
  ("is_whole_number", ⟨1, 1, k75_b_is_whole_number⟩),
  ("is_number_below", ⟨2, 2, k75_b_is_number_below⟩),
  ("is_tuple_of", ⟨2, 2, k75_b_is_tuple_of⟩),
  ("is_row_below", ⟨2, 3, k75_b_is_row_below⟩),
  ("is_exchange", ⟨2, 2, k75_b_is_exchange⟩),
  ("are_exchanges", ⟨2, 3, k75_b_are_exchanges⟩),
  ("is_ascending", ⟨1, 2, k75_b_is_ascending⟩),
  ("is_place_set", ⟨2, 2, k75_b_is_place_set⟩),
  ("starts_with", ⟨2, 2, k75_b_starts_with⟩),
  ("is_partition", ⟨2, 4, k75_b_is_partition⟩)]
def k75_P_1 : Prg := [
  ("judge_thing", ⟨2, 4, k75_b_judge_thing⟩),
  ("is_number_within", ⟨3, 3, k75_b_is_number_within⟩),
  ("are_makers", ⟨2, 2, k75_b_are_makers⟩),
  ("fits_claim", ⟨4, 4, k75_b_fits_claim⟩),
  ("judge_claim", ⟨1, 1, k75_b_judge_claim⟩),
  ("opposite_of", ⟨1, 1, k75_b_opposite_of⟩),
  ("_law_draws", ⟨2, 9, k75_b__law_draws⟩),
  ("_law_take", ⟨2, 2, k75_b__law_take⟩),
  ("_law_pick", ⟨2, 2, k75_b__law_pick⟩),
  ("_law_same", ⟨2, 3, k75_b__law_same⟩)]
def k75_P_2 : Prg := [
  ("_law_shuffled", ⟨2, 5, k75_b__law_shuffled⟩),
  ("_law_is_int", ⟨1, 1, k75_b__law_is_int⟩),
  ("_law_identity", ⟨1, 1, k75_b__law_identity⟩),
  ("_law_of_rings", ⟨2, 5, k75_b__law_of_rings⟩),
  ("_law_exchange", ⟨2, 4, k75_b__law_exchange⟩),
  ("_law_flat", ⟨1, 3, k75_b__law_flat⟩),
  ("_law_is_exchange", ⟨2, 3, k75_b__law_is_exchange⟩),
  ("_law_are_exchanges", ⟨2, 3, k75_b__law_are_exchanges⟩),
  ("_law_bent", ⟨2, 9, k75_b__law_bent⟩),
  ("_law_thing_led", ⟨2, 8, k75_b__law_thing_led⟩)]
def k75_P_3 : Prg := [
  ("_law_any_thing", ⟨2, 9, k75_b__law_any_thing⟩),
  ("_law_is_set", ⟨2, 4, k75_b__law_is_set⟩),
  ("_law_is_thing", ⟨2, 6, k75_b__law_is_thing⟩),
  ("_law_is_claim", ⟨1, 7, k75_b__law_is_claim⟩),
  ("_law_words", ⟨0, 1, k75_b__law_words⟩),
  ("_law_opposite", ⟨1, 3, k75_b__law_opposite⟩),
  ("_law_plain_claim", ⟨2, 9, k75_b__law_plain_claim⟩),
  ("_law_good", ⟨1, 1, k75_b__law_good⟩),
  ("_law_near", ⟨2, 3, k75_b__law_near⟩),
  ("law", ⟨1, 10, k75_b_law⟩)]
def k75_P : Prg := k75_P_0 ++ (k75_P_1 ++ (k75_P_2 ++ (k75_P_3)))
theorem k75_P_ok : cAll k75_p k75_gl k75_hn = some k75_P := by kernel_rfl
theorem k75_l_is_whole_number : k75_P.lookup ("is_whole_number" : Str) = some ⟨1, 1, k75_b_is_whole_number⟩ := by kernel_rfl
theorem k75_l_is_number_below : k75_P.lookup ("is_number_below" : Str) = some ⟨2, 2, k75_b_is_number_below⟩ := by kernel_rfl
theorem k75_l_is_tuple_of : k75_P.lookup ("is_tuple_of" : Str) = some ⟨2, 2, k75_b_is_tuple_of⟩ := by kernel_rfl
theorem k75_l_is_row_below : k75_P.lookup ("is_row_below" : Str) = some ⟨2, 3, k75_b_is_row_below⟩ := by kernel_rfl
theorem k75_l_is_exchange : k75_P.lookup ("is_exchange" : Str) = some ⟨2, 2, k75_b_is_exchange⟩ := by kernel_rfl
theorem k75_l_are_exchanges : k75_P.lookup ("are_exchanges" : Str) = some ⟨2, 3, k75_b_are_exchanges⟩ := by kernel_rfl
theorem k75_l_is_ascending : k75_P.lookup ("is_ascending" : Str) = some ⟨1, 2, k75_b_is_ascending⟩ := by kernel_rfl
theorem k75_l_is_place_set : k75_P.lookup ("is_place_set" : Str) = some ⟨2, 2, k75_b_is_place_set⟩ := by kernel_rfl
theorem k75_l_starts_with : k75_P.lookup ("starts_with" : Str) = some ⟨2, 2, k75_b_starts_with⟩ := by kernel_rfl
theorem k75_l_is_partition : k75_P.lookup ("is_partition" : Str) = some ⟨2, 4, k75_b_is_partition⟩ := by kernel_rfl
theorem k75_l_judge_thing : k75_P.lookup ("judge_thing" : Str) = some ⟨2, 4, k75_b_judge_thing⟩ := by kernel_rfl
theorem k75_l_is_number_within : k75_P.lookup ("is_number_within" : Str) = some ⟨3, 3, k75_b_is_number_within⟩ := by kernel_rfl
theorem k75_l_are_makers : k75_P.lookup ("are_makers" : Str) = some ⟨2, 2, k75_b_are_makers⟩ := by kernel_rfl
theorem k75_l_fits_claim : k75_P.lookup ("fits_claim" : Str) = some ⟨4, 4, k75_b_fits_claim⟩ := by kernel_rfl
theorem k75_l_judge_claim : k75_P.lookup ("judge_claim" : Str) = some ⟨1, 1, k75_b_judge_claim⟩ := by kernel_rfl
theorem k75_l_opposite_of : k75_P.lookup ("opposite_of" : Str) = some ⟨1, 1, k75_b_opposite_of⟩ := by kernel_rfl
theorem k75_l__law_draws : k75_P.lookup ("_law_draws" : Str) = some ⟨2, 9, k75_b__law_draws⟩ := by kernel_rfl
theorem k75_l__law_take : k75_P.lookup ("_law_take" : Str) = some ⟨2, 2, k75_b__law_take⟩ := by kernel_rfl
theorem k75_l__law_pick : k75_P.lookup ("_law_pick" : Str) = some ⟨2, 2, k75_b__law_pick⟩ := by kernel_rfl
theorem k75_l__law_same : k75_P.lookup ("_law_same" : Str) = some ⟨2, 3, k75_b__law_same⟩ := by kernel_rfl
theorem k75_l__law_shuffled : k75_P.lookup ("_law_shuffled" : Str) = some ⟨2, 5, k75_b__law_shuffled⟩ := by kernel_rfl
theorem k75_l__law_is_int : k75_P.lookup ("_law_is_int" : Str) = some ⟨1, 1, k75_b__law_is_int⟩ := by kernel_rfl
theorem k75_l__law_identity : k75_P.lookup ("_law_identity" : Str) = some ⟨1, 1, k75_b__law_identity⟩ := by kernel_rfl
theorem k75_l__law_of_rings : k75_P.lookup ("_law_of_rings" : Str) = some ⟨2, 5, k75_b__law_of_rings⟩ := by kernel_rfl
theorem k75_l__law_exchange : k75_P.lookup ("_law_exchange" : Str) = some ⟨2, 4, k75_b__law_exchange⟩ := by kernel_rfl
theorem k75_l__law_flat : k75_P.lookup ("_law_flat" : Str) = some ⟨1, 3, k75_b__law_flat⟩ := by kernel_rfl
theorem k75_l__law_is_exchange : k75_P.lookup ("_law_is_exchange" : Str) = some ⟨2, 3, k75_b__law_is_exchange⟩ := by kernel_rfl
theorem k75_l__law_are_exchanges : k75_P.lookup ("_law_are_exchanges" : Str) = some ⟨2, 3, k75_b__law_are_exchanges⟩ := by kernel_rfl
theorem k75_l__law_bent : k75_P.lookup ("_law_bent" : Str) = some ⟨2, 9, k75_b__law_bent⟩ := by kernel_rfl
theorem k75_l__law_thing_led : k75_P.lookup ("_law_thing_led" : Str) = some ⟨2, 8, k75_b__law_thing_led⟩ := by kernel_rfl
theorem k75_l__law_any_thing : k75_P.lookup ("_law_any_thing" : Str) = some ⟨2, 9, k75_b__law_any_thing⟩ := by kernel_rfl
theorem k75_l__law_is_set : k75_P.lookup ("_law_is_set" : Str) = some ⟨2, 4, k75_b__law_is_set⟩ := by kernel_rfl
theorem k75_l__law_is_thing : k75_P.lookup ("_law_is_thing" : Str) = some ⟨2, 6, k75_b__law_is_thing⟩ := by kernel_rfl
theorem k75_l__law_is_claim : k75_P.lookup ("_law_is_claim" : Str) = some ⟨1, 7, k75_b__law_is_claim⟩ := by kernel_rfl
theorem k75_l__law_words : k75_P.lookup ("_law_words" : Str) = some ⟨0, 1, k75_b__law_words⟩ := by kernel_rfl
theorem k75_l__law_opposite : k75_P.lookup ("_law_opposite" : Str) = some ⟨1, 3, k75_b__law_opposite⟩ := by kernel_rfl
theorem k75_l__law_plain_claim : k75_P.lookup ("_law_plain_claim" : Str) = some ⟨2, 9, k75_b__law_plain_claim⟩ := by kernel_rfl
theorem k75_l__law_good : k75_P.lookup ("_law_good" : Str) = some ⟨1, 1, k75_b__law_good⟩ := by kernel_rfl
theorem k75_l__law_near : k75_P.lookup ("_law_near" : Str) = some ⟨2, 3, k75_b__law_near⟩ := by kernel_rfl
theorem k75_l_law : k75_P.lookup ("law" : Str) = some ⟨1, 10, k75_b_law⟩ := by kernel_rfl
end Z
end
section
set_option Elab.async false
set_option linter.all false
set_option maxRecDepth 100000
set_option maxHeartbeats 1000000
set_option autoImplicit false
/-! Plain rules about the evaluator. -/
namespace Z
open PySem
variable {P : Prg} {k : Nat} {f : Str} {ds : List D} {M M1 : Mem} {d r : D} {g : G}
theorem call_s {ps n : Nat} {b : Ss} (e : P.lookup f = some ⟨ps, n, b⟩) (h : ds.length = ps) : callK P true (k + 1) f ds M = fin (exSs ⟨callK P true k, true⟩ b (startE n ds) M) := by
  rw [callK, e]
  dsimp only
  rw [if_pos h]
theorem on_ok {α : Type} {a : α} {env : Env} {f : α → Mem → Option Fl} : onR env (some (.ok a M)) f = f a M := rfl
theorem fin_rt : fin (some (.rt d M)) = some (.ok d M) := rfl
theorem fin_nx {env : Env} : fin (some (.nx env M)) = some (.ok .non M) := rfl
theorem lift1_some : lift1 (some d) M = some (.ok d M) := rfl
theorem liftB_some {b : Bool} : liftB (some b) M = some (.ok (.bl b) M) := rfl
theorem obind_some {α β : Type} {a : α} {f : α → Option β} : Option.bind (some a) f = f a := rfl
theorem bind_ok {α β : Type} {a : α} {f : α → Mem → R β} : R.bind (some (.ok a M)) f = f a M := rfl
theorem deep_val {m av n : Nat} (h : d.val = true) : deep m av M (n + 1) d = some d := by
  unfold deep
  rw [if_pos h]
theorem out_val {m : Nat} (h : d.val = true) : outD m M d = some d := by
  have e : deep m M.length M 100000 d = some d := deep_val (n := 99999) h
  cases d <;> first
    | exact e
    | cases h
theorem refs_vals : ∀ {ds : List D}, D.vals ds = true → ds.flatMap refs1 = [] ∧ ds.all argOk = true ∧ ∀ rs, ds.map (ren rs) = ds
  | [], _ => ⟨rfl, rfl, fun _ => rfl⟩
  | d :: ds, h => by
    have h' := band (show (d.val && D.vals ds) = true from h)
    obtain ⟨h1, h2, h3⟩ := refs_vals h'.2
    have hr : ∀ n, d ≠ .ref n := fun n z => by
      rw [z] at h'
      cases h'.1
    refine ⟨?_, ?_, fun rs => ?_⟩
    · rw [List.flatMap_cons, h1, List.append_nil]
      cases d <;> first
        | rfl
        | exact absurd rfl (hr _)
    · rw [List.all_cons, h2, Bool.and_true]
      cases d <;> first
        | exact h'.1
        | exact absurd rfl (hr _)
    · rw [List.map_cons, h3]
      congr 1
      cases d <;> first
        | rfl
        | exact absurd rfl (hr _)
/-- a call with plain values -/
theorem inv_vals {Fn_ : Fn} {r' : D} (h : D.vals ds = true) (e : Fn_ f ds [] = some (.ok r M1)) (o : outD 0 M1 r = some r') : inv Fn_ f ds M = some (.ok r' M) := by
  obtain ⟨h1, h2, h3⟩ := refs_vals h
  have hr : refsOf ds = [] := by
    unfold refsOf
    rw [h1]
    exact List.eraseDups_nil
  unfold inv
  rw [if_pos h2, hr]
  show backR [] M (Fn_ f (ds.map (ren [])) []) = _
  rw [h3, e]
  show (if flats [] then (match outD 0 M1 r with
    | some d' => some (Rs.ok d' (putBack [] [] M))
    | none => none) else none) = _
  rw [o]
  rfl
theorem inv_val {Fn_ : Fn} (h : D.vals ds = true) (e : Fn_ f ds [] = some (.ok r M1)) (hr : r.val = true) : inv Fn_ f ds M = some (.ok r M) := inv_vals h e (out_val hr)
/-- a comprehension whose turns change nothing -/
theorem compL_map {wt : Mem → Bool} {body : D → Mem → R (Option D)} {F : D → D} (hw : wt M = true) : ∀ {l : List D}, (∀ x ∈ l, body x M = some (.ok (some (F x)) M)) → compL wt body l M = some (.ok (l.map F) M)
  | [], _ => by
    rw [compL, if_pos hw]
    rfl
  | x :: l, h => by
    rw [compL, if_pos hw, h x List.mem_cons_self]
    dsimp only
    rw [compL_map hw fun y hy => h y (List.mem_cons_of_mem _ hy)]
    rfl
theorem frz_int {i : Int} : frz (.int i) = some (.int i) := rfl
theorem frz_bl {b : Bool} : frz (.bl b) = some (.bl b) := rfl
theorem frz_str {s : Str} : frz (.str s) = some (.str s) := rfl
theorem frz_tup {ds : List D} : frz (.tup ds) = some (.tup ds) := rfl
theorem frz_tl {ds : List D} : frz (.tl ds) = some (.tl ds) := rfl
theorem frz_fl {ds : List D} : frz (.fl ds) = some (.tl ds) := rfl
theorem frz_non : frz .non = some .non := rfl
theorem frz_val {d : D} (h : d.val = true) : frz d = some d := by
  cases d <;> first
    | rfl
    | cases h
end Z
end
section
set_option Elab.async false
set_option linter.all false
set_option maxRecDepth 100000
set_option maxHeartbeats 1000000
set_option autoImplicit false
namespace Z
open PySem
variable {k n : Nat} {M M1 : Mem} {d e r : D} {ds : List D}
def C (k : Nat) : Fn := callK k75_P true k
theorem C_s {f : Str} {ps n : Nat} {b : Ss} (e : k75_P.lookup f = some ⟨ps, n, b⟩) (h : ds.length = ps) : C (k + 1) f ds M = fin (exSs ⟨C k, true⟩ b (startE n ds) M) := call_s e h
/-! ### the domain: nested tuples of numbers and short texts -/
mutual
def dm : Nat → D → Bool
  | _, .int i => decide (i.natAbs ≤ 999999999999)
  | _, .str s => SeqAt.shaped (.str s) && decide (s.length ≤ 100)
  | n + 1, .tup ds => dms n ds && decide (ds.length ≤ 1000)
  | _, _ => false
def dms : Nat → List D → Bool
  | _, [] => true
  | n, d :: ds => dm n d && dms n ds
end
def isInt : D → Bool
  | .int _ => true
  | _ => false
def below (d : D) (n : Int) : Bool := match d with
  | .int i => decide (0 ≤ i) && decide (i < n)
  | _ => false
theorem dm_cases (h : dm n d = true) : (∃ i, d = .int i) ∨ (∃ s, d = .str s) ∨ ∃ ds m, d = .tup ds ∧ n = m + 1 ∧ dms m ds = true ∧ ds.length ≤ 16777216 := by
  unfold dm at h
  split at h
  · exact .inl ⟨_, rfl⟩
  · exact .inr (.inl ⟨_, rfl⟩)
  · have h' := band h
    exact .inr (.inr ⟨_, _, rfl, rfl, h'.1, Nat.le_trans (of_decide_eq_true h'.2) (by decide)⟩)
  · cases h
theorem e_whole (h : dm n d = true) : C (k + 1) "is_whole_number" [d] [] = some (.ok (.bl (isInt d)) []) := by
  rw [C_s k75_l_is_whole_number rfl]
  rcases dm_cases h with ⟨i, rfl⟩ | ⟨s, rfl⟩ | ⟨ds, m, rfl, rfl, h1, h2⟩ <;> rfl
theorem dm_val : ∀ {n : Nat} {d : D}, dm n d = true → d.val = true
  | _, .int _, _ => rfl
  | _, .str _, _ => rfl
  | n + 1, .tup ds, h => by
    have h' := band (show (dms n ds && decide (ds.length ≤ 1000)) = true from h)
    have key : ∀ ds, dms n ds = true → D.vals ds = true := fun ds => by
      induction ds with
      | nil => exact fun _ => rfl
      | cons d ds ih =>
        intro h
        have h2 := band (show (dm n d && dms n ds) = true from h)
        show (d.val && D.vals ds) = true
        rw [dm_val h2.1, ih h2.2]
        rfl
    exact key ds h'.1
theorem frzs_vals : ∀ {ds : List D}, D.vals ds = true → frzs ds = some ds
  | [], _ => rfl
  | d :: ds, h => by
    have h' := band (show (d.val && D.vals ds) = true from h)
    rw [frzs, frz_val h'.1, frzs_vals h'.2]
theorem e_below {i : Int} (h : dm n d = true) : C (k + 2) "is_number_below" [d, .int i] [] = some (.ok (.bl (below d i)) []) := by
  have v := dm_val h
  have hc := inv_val (M := []) (ds := [d]) (by simp [D.vals, v]) (e_whole (k := k) h) rfl
  rw [C_s k75_l_is_number_below rfl, show startE 2 [d, .int i] = [some d, some (.int i)] from rfl]
  unfold k75_b_is_number_below
  simp only [exSs, exS, exE, exEs, bind_ok, on_ok, obind_some, List.getElem?_cons_zero, List.getElem?_cons_succ, frzs, frz_val v, hc]
  rcases dm_cases h with ⟨j, rfl⟩ | ⟨s, rfl⟩ | ⟨ds, m, rfl, rfl, h1, h2⟩
  · simp only [isInt, cmpD, cCmp, ordD, below, bind_ok, liftB_some]
    by_cases h0 : 0 ≤ j
    · simp [h0, liftB_some, on_ok, fin_rt]
    · simp [h0, liftB_some, on_ok, fin_rt]
  · rfl
  · rfl
end Z
end
section
set_option Elab.async false
set_option linter.all false
set_option maxRecDepth 100000
set_option maxHeartbeats 1000000
set_option autoImplicit false
namespace Z
open PySem
variable {k n : Nat} {M M1 : Mem} {d e r : D} {ds : List D}
/-! ### equality on the domain -/
theorem shaped_int (i : Int) : SeqAt.shaped (.int i) = true := by
  unfold SeqAt.shaped PyData.canLay0
  simp [PyData.depth]
theorem dm_shaped : ∀ {n : Nat} {d : D}, dm n d = true → d.py.canLay0 = true ∧ d.py.depth ≤ n + 1 ∧ d.plain = true
  | _, .int i, _ => ⟨by simp [D.py, PyData.canLay0], by simp [D.py, PyData.depth], rfl⟩
  | n, .str s, h => by
    have h' : (SeqAt.shaped (.str s) && decide (s.length ≤ 100)) = true := by
      cases n <;> exact h
    have h1 := (band h').1
    unfold SeqAt.shaped at h1
    exact ⟨(band h1).1, by simp [D.py, PyData.depth], rfl⟩
  | n + 1, .tup ds, h => by
    have h' := band (show (dms n ds && decide (ds.length ≤ 1000)) = true from h)
    have key : ∀ ds, dms n ds = true → PyData.canLayAll0 (D.pys ds) = true ∧ PyData.depthAll (D.pys ds) ≤ n + 1 ∧ D.plains ds = true := fun ds => by
      induction ds with
      | nil => exact fun _ => ⟨by simp [D.pys, PyData.canLayAll0], by simp [D.pys, PyData.depthAll], rfl⟩
      | cons d ds ih =>
        intro h
        have h2 := band (show (dm n d && dms n ds) = true from h)
        obtain ⟨a1, a2, a3⟩ := dm_shaped h2.1
        obtain ⟨b1, b2, b3⟩ := ih h2.2
        refine ⟨by simp [D.pys, PyData.canLayAll0, a1, b1], ?_, by rw [D.plains, a3, b3]; rfl⟩
        simp only [D.pys, PyData.depthAll]
        omega
    obtain ⟨c1, c2, c3⟩ := key ds h'.1
    refine ⟨by simp [D.py, PyData.canLay0, c1], ?_, c3⟩
    simp only [D.py, PyData.depth]
    omega
theorem viewS_dm (h : dm n d = true) (hn : n ≤ 60) : viewS d M = some d.py := by
  obtain ⟨h1, h2, h3⟩ := dm_shaped h
  have hv : view d M = some d.py := by
    unfold view
    rcases dm_cases h with ⟨i, rfl⟩ | ⟨s, rfl⟩ | ⟨ds, m, rfl, _⟩ <;> dsimp only <;> rw [h3] <;> rfl
  unfold viewS
  rw [hv]
  dsimp only
  rw [if_pos]
  unfold SeqAt.shaped
  rw [h1, Bool.true_and]
  exact decide_eq_true (by omega)
theorem eq_dm (h : dm n d = true) (h' : dm n e = true) (hn : n ≤ 60) : eqD d e M = some (PyData.eqv d.py e.py) := by
  unfold eqD
  rw [viewS_dm h hn, viewS_dm h' hn]
theorem eq_int (i j : Int) : eqD (.int i) (.int j) M = some (decide (i = j)) := by
  have v : ∀ i : Int, viewS (.int i) M = some (.int i) := fun i => by
    unfold viewS
    rw [show view (.int i) M = some (.int i) from rfl]
    dsimp only
    rw [if_pos (shaped_int i)]
  unfold eqD
  rw [v, v]
  simp only [PyData.eqv]
  rfl
theorem dm_len (h : dm n (.tup ds) = true) : ds.length ≤ 1000 := by
  cases n with
  | zero => cases h
  | succ n => exact of_decide_eq_true (band (show (dms n ds && decide (ds.length ≤ 1000)) = true from h)).2
theorem dm_str {s : Str} (h : dm n (.str s) = true) : SeqAt.shaped (.str s) = true ∧ s.length ≤ 100 := by
  have h' : (SeqAt.shaped (.str s) && decide (s.length ≤ 100)) = true := by
    cases n <;> exact h
  exact ⟨(band h').1, of_decide_eq_true (band h').2⟩
/-! ### more plain rules -/
theorem allB_map {α : Type} (p : α → Bool) : ∀ l : List α, allB (l.map fun x => D.bl (p x)) = some (l.all p)
  | [] => rfl
  | x :: l => by
    rw [List.map_cons, allB, allB_map p l]
    rfl
def isTupOf (d : D) (m : Int) : Bool := match d with
  | .tup ds => decide ((ds.length : Int) = m)
  | _ => false
def isRow (d : D) (b : Int) : Bool := match d with
  | .tup ds => ds.all (below · b)
  | _ => false
theorem e_tuple_of {i : Int} (h : dm n d = true) : C (k + 1) "is_tuple_of" [d, .int i] [] = some (.ok (.bl (isTupOf d i)) []) := by
  rw [C_s k75_l_is_tuple_of rfl, show startE 2 [d, .int i] = [some d, some (.int i)] from rfl]
  unfold k75_b_is_tuple_of
  rcases dm_cases h with ⟨j, rfl⟩ | ⟨s, rfl⟩ | ⟨ds, m, rfl, rfl, h1, h2⟩
  · rfl
  · rfl
  · simp only [exSs, exS, exE, exEs, bind_ok, on_ok, obind_some, List.getElem?_cons_zero, List.getElem?_cons_succ]
    simp only [isTs, tyOf, noCls, isB, List.all_cons, List.all_nil, Bool.and_self, if_true, List.any_cons, List.any_nil, Bool.or_self, liftB_some, bind_ok, biHot, Bool.true_or, biD, lenD, seqOf, Option.map_some, lift1_some, cmpD, eq_int, on_ok, fin_rt, isTupOf, Bool.or_false]
theorem dms_mem : ∀ {ds : List D}, dms n ds = true → ∀ x ∈ ds, dm n x = true
  | d :: ds, h, x, hx => by
    have h2 := band (show (dm n d && dms n ds) = true from h)
    rcases List.mem_cons.mp hx with rfl | hx
    · exact h2.1
    · exact dms_mem h2.2 x hx
theorem e_row_below {i : Int} (h : dm n d = true) : C (k + 3) "is_row_below" [d, .int i] [] = some (.ok (.bl (isRow d i)) []) := by
  rw [C_s k75_l_is_row_below rfl, show startE 3 [d, .int i] = [some d, some (.int i), none] from rfl]
  unfold k75_b_is_row_below
  rcases dm_cases h with ⟨j, rfl⟩ | ⟨s, rfl⟩ | ⟨ds, m, rfl, rfl, h1, h2⟩
  · rfl
  · rfl
  · have hb : ∀ x ∈ ds, (match bindG [2] x ([] : Mem) (wipeE [some (.tup ds), some (.int i), none] [2]) with
        | some env1 => (exT ⟨C (k + 2), true⟩ .nope env1 []).bind fun t M => if t then (exE ⟨C (k + 2), true⟩ (.call "is_number_below" (.cons (.var 2) (.cons (.var 1) .nil))) env1 M).bind fun y M => (match frz y with
          | some y => some (.ok (some y) M)
          | none => none) else some (.ok none M)
        | none => none) = some (.ok (some (.bl (below x i))) []) := fun x hx => by
      have hx' := dms_mem h1 x hx
      have v := dm_val hx'
      have hc := inv_val (M := []) (ds := [x, .int i]) (by simp [D.vals, v, D.val]) (e_below (k := k) (i := i) hx') rfl
      simp only [bindG, wipeE, List.set, exT, exE, exEs, bind_ok, if_true, List.getElem?_cons_zero, List.getElem?_cons_succ, frzs, frz_val v, frz_int, frz_bl, obind_some, hc]
    simp only [exSs, exS, exE, exEs, exI, bind_ok, on_ok, obind_some, List.getElem?_cons_zero, List.getElem?_cons_succ]
    simp only [isTs, tyOf, noCls, isB, List.all_cons, List.all_nil, Bool.and_self, if_true, List.any_cons, List.any_nil, Bool.or_self, Bool.or_false, liftB_some, bind_ok, biHot, Bool.false_or, wkSeq, seqOf, liftW]
    rw [compL_map (F := fun x => .bl (below x i)) rfl hb]
    simp only [bind_ok]
    rw [if_pos (by rw [List.length_map]; exact h2)]
    simp only [bind_ok, biD, lstOf, obind_some, Option.bind_some, allB_map, Option.map_some, lift1_some, on_ok, fin_rt, isRow]
end Z
end
section
set_option Elab.async false
set_option linter.all false
set_option maxRecDepth 100000
set_option maxHeartbeats 1000000
set_option autoImplicit false
namespace Z
open PySem
variable {k n : Nat} {M M1 : Mem} {d e r : D} {ds : List D}
def toI : D → Int
  | .int i => i
  | _ => 0
theorem intL_map : ∀ {ds : List D}, ds.all isInt = true → intL ds = some (ds.map toI)
  | [], _ => rfl
  | d :: ds, h => by
    have h' := band (show (isInt d && ds.all isInt) = true from h)
    cases d <;> first
      | (cases h'.1; done)
      | skip
    rw [intL, intL_map h'.2]
    rfl
theorem below_int {x : D} {i : Int} (h : below x i = true) : isInt x = true := by
  cases x <;> first
    | rfl
    | cases h
theorem all_int {i : Int} (h : ds.all (below · i) = true) : ds.all isInt = true := List.all_eq_true.mpr fun x hx => below_int (List.all_eq_true.mp h x hx)
def setLen (ds : List D) : Int := ((dedupI (ds.map toI)).length : Int)
def isEx (i : Int) (d : D) : Bool := match d with
  | .tup ds => decide ((ds.length : Int) = i) && (ds.all (below · i) && decide (setLen ds = i))
  | _ => false
theorem e_exchange {i : Int} (h : dm n d = true) (hi : i ≤ 4000) : C (k + 4) "is_exchange" [.int i, d] [] = some (.ok (.bl (isEx i d)) []) := by
  have v := dm_val h
  have hv : D.vals [d, .int i] = true := by simp [D.vals, v, D.val]
  have c1 := inv_val (M := []) hv (e_tuple_of (k := k + 2) (i := i) h) rfl
  have c2 := inv_val (M := []) hv (e_row_below (k := k) (i := i) h) rfl
  rw [C_s k75_l_is_exchange rfl, show startE 2 [.int i, d] = [some (.int i), some d] from rfl]
  unfold k75_b_is_exchange
  simp only [exSs, exS, exE, exEs, bind_ok, on_ok, obind_some, List.getElem?_cons_zero, List.getElem?_cons_succ, frzs, frz_val v, frz_int, c1]
  rcases dm_cases h with ⟨j, rfl⟩ | ⟨s, rfl⟩ | ⟨ds, m, rfl, rfl, h1, h2⟩
  · rfl
  · rfl
  · simp only [isTupOf, isEx]
    by_cases hl : (ds.length : Int) = i
    · simp only [hl, decide_true, bind_ok, frz_tup, c2, isRow, Bool.true_and]
      cases hb : ds.all (below · i) with
      | false => rfl
      | true =>
        have hz : ds.length ≤ 4000 := by omega
        simp only [biHot, Bool.or_true, if_true, bind_ok, biD, hz, intL_map (all_int hb), Option.map_some, lift1_some, lenD, seqOf, cmpD, List.length_map, eq_int, liftB_some, on_ok, fin_rt, Bool.true_and, setLen]
        rfl
    · simp only [hl, decide_false, Bool.false_and]
      rfl
def isExs (i : Int) (d : D) : Bool := match d with
  | .tup ds => ds.all (isEx i)
  | _ => false
theorem e_exchanges {i : Int} (h : dm n d = true) (hi : i ≤ 4000) : C (k + 5) "are_exchanges" [.int i, d] [] = some (.ok (.bl (isExs i d)) []) := by
  rw [C_s k75_l_are_exchanges rfl, show startE 3 [.int i, d] = [some (.int i), some d, none] from rfl]
  unfold k75_b_are_exchanges
  rcases dm_cases h with ⟨j, rfl⟩ | ⟨s, rfl⟩ | ⟨ds, m, rfl, rfl, h1, h2⟩
  · rfl
  · rfl
  · have hb : ∀ x ∈ ds, (match bindG [2] x ([] : Mem) (wipeE [some (.int i), some (.tup ds), none] [2]) with
        | some env1 => (exT ⟨C (k + 4), true⟩ .nope env1 []).bind fun t M => if t then (exE ⟨C (k + 4), true⟩ (.call "is_exchange" (.cons (.var 0) (.cons (.var 2) .nil))) env1 M).bind fun y M => (match frz y with
          | some y => some (.ok (some y) M)
          | none => none) else some (.ok none M)
        | none => none) = some (.ok (some (.bl (isEx i x))) []) := fun x hx => by
      have hx' := dms_mem h1 x hx
      have v := dm_val hx'
      have hc := inv_val (M := []) (ds := [.int i, x]) (by simp [D.vals, v, D.val]) (e_exchange (k := k) (i := i) hx' hi) rfl
      simp only [bindG, wipeE, List.set, exT, exE, exEs, bind_ok, if_true, List.getElem?_cons_zero, List.getElem?_cons_succ, frzs, frz_val v, frz_int, frz_bl, obind_some, hc]
    simp only [exSs, exS, exE, exEs, exI, bind_ok, on_ok, obind_some, List.getElem?_cons_zero, List.getElem?_cons_succ]
    simp only [isTs, tyOf, noCls, isB, List.all_cons, List.all_nil, Bool.and_self, if_true, List.any_cons, List.any_nil, Bool.or_self, Bool.or_false, liftB_some, bind_ok, biHot, Bool.false_or, wkSeq, seqOf, liftW]
    rw [compL_map (F := fun x => .bl (isEx i x)) rfl hb]
    simp only [bind_ok]
    rw [if_pos (by rw [List.length_map]; exact h2)]
    simp only [bind_ok, biD, lstOf, obind_some, Option.bind_some, allB_map, Option.map_some, lift1_some, on_ok, fin_rt, isExs]
/-! ### rows that ascend -/
def asc : List Int → Bool
  | [] => true
  | a :: l => (match l with
    | [] => true
    | b :: _ => decide (a < b)) && asc l
def ascR (is : List Int) : Bool := (List.range (is.length - 1)).all fun j => decide (is.getD j 0 < is.getD (j + 1) 0)
theorem ascR_eq : ∀ is : List Int, ascR is = asc is
  | [] => rfl
  | [a] => rfl
  | a :: b :: l => by
    have ih := ascR_eq (b :: l)
    unfold ascR at ih ⊢
    rw [show (a :: b :: l).length - 1 = ((b :: l).length - 1) + 1 by simp, List.range_succ_eq_map, List.all_cons, List.all_map]
    show (decide (a < b) && (List.range ((b :: l).length - 1)).all fun j => decide ((b :: l).getD j 0 < (b :: l).getD (j + 1) 0)) = (decide (a < b) && asc (b :: l))
    rw [ih]
theorem rangeL_map : ∀ (n : Nat) (lo : Int), rangeL lo n = (List.range n).map fun (j : Nat) => D.int (lo + (j : Int))
  | 0, _ => rfl
  | n + 1, lo => by
    rw [rangeL, rangeL_map n, List.range_succ_eq_map, List.map_cons, List.map_map]
    congr 1
    · simp
    · refine List.map_congr_left fun j _ => ?_
      show D.int (lo + 1 + (j : Int)) = D.int (lo + ((j + 1 : Nat) : Int))
      congr 1
      omega
theorem seqIx_nat {j n : Nat} (h : j < n) : seqIndex? (j : Int) n = some j := by
  unfold seqIndex?
  simp
  omega
/-- is_ascending over numbers -/
theorem e_ascending {is : List Int} {b : D} (hb : b = .tup (is.map .int) ∨ b = .tl (is.map .int)) (hz : is.length ≤ 16777216) : C (k + 1) "is_ascending" [b] [] = some (.ok (.bl (asc is)) []) := by
  rw [C_s k75_l_is_ascending rfl, show startE 2 [b] = [some b, none] from rfl]
  unfold k75_b_is_ascending
  have hlen : biD .len [b] ([] : Mem) = some (.int (is.length : Int)) := by
    rcases hb with rfl | rfl <;> simp [biD, lenD, seqOf, lstOf]
  have hix : ∀ j : Nat, j < is.length → idxD b (.int (j : Int)) ([] : Mem) = some (.int (is.getD j 0)) := fun j hj => by
    have e1 : (is.map D.int)[j]? = some (.int (is.getD j 0)) := by
      rw [List.getElem?_map, List.getD_eq_getElem?_getD, List.getElem?_eq_getElem hj]
      rfl
    have e2 : seqIndex? (j : Int) (is.map D.int).length = some j := by
      rw [List.length_map]
      exact seqIx_nat hj
    have e3 : (decide (-(2 ^ 63) ≤ (j : Int)) && decide ((j : Int) < 2 ^ 63)) = true := by
      simp
      omega
    rcases hb with rfl | rfl <;> simp only [idxD, seqOf, e2, e3, if_true, e1]
  have hbody : ∀ x ∈ rangeL 0 (is.length - 1), (match bindG [1] x ([] : Mem) (wipeE [some b, none] [1]) with
        | some env1 => (exT ⟨C k, true⟩ .nope env1 []).bind fun t M => if t then (exE ⟨C k, true⟩ (.cmp .lt (.idx (.var 0) (.var 1)) (.idx (.var 0) (.bin .add (.var 1) (.c (.int 1))))) env1 M).bind fun y M => (match frz y with
          | some y => some (.ok (some y) M)
          | none => none) else some (.ok none M)
        | none => none) = some (.ok (some (.bl (decide (is.getD (toI x).toNat 0 < is.getD ((toI x).toNat + 1) 0)))) []) := fun x hx => by
    rw [rangeL_map] at hx
    obtain ⟨j, hj, rfl⟩ := List.mem_map.mp hx
    have hj := List.mem_range.mp hj
    have e0 : (0 : Int) + (j : Int) = (j : Int) := by omega
    rw [e0]
    have e1 := hix j (by omega)
    have e2 := hix (j + 1) (by omega)
    have e3 : ((j : Int) + 1) = ((j + 1 : Nat) : Int) := by omega
    simp only [bindG, wipeE, List.set, exT, exE, exEs, bind_ok, if_true, List.getElem?_cons_zero, List.getElem?_cons_succ, e1, lift1_some, binD, binI, Option.map_some, e3, e2, cmpD, ordD, liftB_some, frz_bl, toI, Int.toNat_natCast]
    rfl
  simp only [exSs, exS, exE, exEs, exI, bind_ok, on_ok, obind_some, List.getElem?_cons_zero, List.getElem?_cons_succ, biHot, Bool.true_or, Bool.or_true, if_true, hlen, lift1_some, binD, binI, Option.map_some]
  have hr : wkRng (.int 0) (.int ((is.length : Int) - 1)) = some ⟨rangeL 0 (is.length - 1), still⟩ := by
    unfold wkRng
    dsimp only
    rw [if_pos (by unfold rngOk; simp; omega)]
    congr 2
    congr 1
    omega
  rw [hr]
  simp only [liftW, bind_ok]
  rw [compL_map (F := fun x => .bl (decide (is.getD (toI x).toNat 0 < is.getD ((toI x).toNat + 1) 0))) rfl hbody]
  simp only [bind_ok]
  rw [if_pos (by rw [List.length_map, rangeL_len]; omega)]
  simp only [bind_ok, biD, lstOf, obind_some, Option.bind_some, allB_map, Option.map_some, lift1_some, on_ok, fin_rt]
  rw [rangeL_map, List.all_map]
  have e : ((List.range (is.length - 1)).all ((fun x => decide (is.getD (toI x).toNat 0 < is.getD ((toI x).toNat + 1) 0)) ∘ fun (j : Nat) => D.int (0 + (j : Int)))) = ascR is := by
    unfold ascR
    congr 1
    funext j
    simp [toI]
  rw [e, ascR_eq]
end Z
end
section
set_option Elab.async false
set_option linter.all false
set_option maxRecDepth 100000
set_option maxHeartbeats 1000000
set_option autoImplicit false
namespace Z
open PySem
variable {k n : Nat} {M M1 : Mem} {d e r : D} {ds : List D}
theorem ints_eq : ∀ {ds : List D}, ds.all isInt = true → ds = (ds.map toI).map D.int
  | [], _ => rfl
  | d :: ds, h => by
    have h' := band (show (isInt d && ds.all isInt) = true from h)
    cases d <;> first
      | (cases h'.1; done)
      | skip
    rw [List.map_cons, List.map_cons, ← ints_eq h'.2]
    rfl
def isPS (i : Int) (d : D) : Bool := match d with
  | .tup ds => ds.all (below · i) && asc (ds.map toI)
  | _ => false
theorem e_place_set {i : Int} (h : dm n d = true) : C (k + 4) "is_place_set" [.int i, d] [] = some (.ok (.bl (isPS i d)) []) := by
  have v := dm_val h
  have c2 := inv_val (M := []) (ds := [d, .int i]) (by simp [D.vals, v, D.val]) (e_row_below (k := k) (i := i) h) rfl
  rw [C_s k75_l_is_place_set rfl, show startE 2 [.int i, d] = [some (.int i), some d] from rfl]
  unfold k75_b_is_place_set
  simp only [exSs, exS, exE, exEs, bind_ok, on_ok, obind_some, List.getElem?_cons_zero, List.getElem?_cons_succ, frzs, frz_val v, frz_int, c2]
  rcases dm_cases h with ⟨j, rfl⟩ | ⟨s, rfl⟩ | ⟨ds, m, rfl, rfl, h1, h2⟩
  · rfl
  · rfl
  · simp only [isRow, isPS]
    cases hb : ds.all (below · i) with
    | false => rfl
    | true =>
      have c3 := inv_val (M := []) (ds := [.tup ds]) (by simp [D.vals, v]) (e_ascending (k := k + 2) (is := ds.map toI) (b := .tup ds) (.inl (by rw [← ints_eq (all_int hb)])) (by rw [List.length_map]; exact h2)) rfl
      simp only [bind_ok, frz_tup, c3, on_ok, fin_rt, Bool.true_and, obind_some]
/-! ### words -/
theorem shaped_str {s : Str} (h : SeqAt.shaped (.str s) = true) : viewS (.str s) M = some (.str s) := by
  unfold viewS
  rw [show view (.str s) M = some (.str s) from rfl]
  dsimp only
  rw [if_pos h]
theorem mem_words {s : Str} {ws : List Str} (h : SeqAt.shaped (.str s) = true) (hw : SeqAt.shaped (.list (ws.map PyData.str)) = true) : memD (.str s) (.tup (ws.map D.str)) M = some (decide (s ∈ ws)) ∧ memD (.str s) (.tl (ws.map D.str)) M = some (decide (s ∈ ws)) ∧ memD (.str s) (.fl (ws.map D.str)) M = some (decide (s ∈ ws)) := by
  have e1 : D.plains (ws.map D.str) = true := by
    clear hw
    induction ws with
    | nil => rfl
    | cons w ws ih => exact ih
  have e2 : D.pys (ws.map D.str) = ws.map PyData.str := by
    clear hw e1
    induction ws with
    | nil => rfl
    | cons w ws ih =>
      rw [List.map_cons, D.pys, ih]
      rfl
  have e3 : ((ws.map PyData.str).any fun z => PyData.eqv z (.str s)) = decide (s ∈ ws) := by
    clear hw e1 e2
    induction ws with
    | nil => rfl
    | cons w ws ih =>
      rw [List.map_cons, List.any_cons, ih]
      simp only [PyData.eqv, List.mem_cons, Bool.decide_or]
      congr 1
      rw [Bool.beq_eq_decide_eq]
      exact decide_eq_decide.mpr eq_comm
  refine ⟨?_, ?_, ?_⟩ <;>
    · unfold memD
      simp only [seqOf, e1, if_true, shaped_str h, e2, hw, e3]
def stW (ws : List Str) (d : D) : Bool := match d with
  | .tup (.str s :: _) => decide (s ∈ ws)
  | _ => false
theorem idx0 {x : D} {l : List D} : idxD (.tup (x :: l)) (.int 0) M = some x := by
  have e : seqIndex? (0 : Int) (x :: l).length = some 0 := seqIx_nat (j := 0) (by simp)
  simp only [idxD, seqOf, e]
  rfl
theorem e_starts {ws : List Str} (h : dm n d = true) (hw : SeqAt.shaped (.list (ws.map PyData.str)) = true) : C (k + 1) "starts_with" [d, .tup (ws.map .str)] [] = some (.ok (.bl (stW ws d)) []) := by
  rw [C_s k75_l_starts_with rfl, show startE 2 [d, .tup (ws.map .str)] = [some d, some (.tup (ws.map .str))] from rfl]
  unfold k75_b_starts_with
  rcases dm_cases h with ⟨j, rfl⟩ | ⟨s, rfl⟩ | ⟨ds, m, rfl, rfl, h1, h2⟩
  · rfl
  · rfl
  · cases ds with
    | nil => rfl
    | cons x l =>
      have hl : (decide ((0 : Int) < ((l.length + 1 : Nat) : Int))) = true := decide_eq_true (by omega)
      simp only [exSs, exS, exE, exEs, bind_ok, on_ok, obind_some, List.getElem?_cons_zero, List.getElem?_cons_succ, isTs, tyOf, noCls, isB, List.all_cons, List.all_nil, Bool.and_self, if_true, List.any_cons, List.any_nil, Bool.or_false, liftB_some, biHot, Bool.true_or, biD, lenD, seqOf, Option.map_some, lift1_some, cmpD, ordD, List.length_cons, hl, idx0]
      have hx := (band (show (dm m x && dms m l) = true from h1)).1
      rcases dm_cases hx with ⟨j, rfl⟩ | ⟨s, rfl⟩ | ⟨es, q, rfl, rfl, _⟩
      · rfl
      · have hs : SeqAt.shaped (.str s) = true := by
          have : (SeqAt.shaped (.str s) && decide (s.length ≤ 100)) = true := by
            cases m <;> exact hx
          exact (band this).1
        simp only [isB, Bool.or_false, liftB_some, bind_ok, (mem_words (M := []) hs hw).1, liftB_some, on_ok, fin_rt, stW]
      · rfl
def isWin (d : D) (a b : Int) : Bool := match d with
  | .int i => decide (a ≤ i) && decide (i ≤ b)
  | _ => false
theorem e_within {a b : Int} (h : dm n d = true) : C (k + 2) "is_number_within" [d, .int a, .int b] [] = some (.ok (.bl (isWin d a b)) []) := by
  have v := dm_val h
  have hc := inv_val (M := []) (ds := [d]) (by simp [D.vals, v]) (e_whole (k := k) h) rfl
  rw [C_s k75_l_is_number_within rfl, show startE 3 [d, .int a, .int b] = [some d, some (.int a), some (.int b)] from rfl]
  unfold k75_b_is_number_within
  simp only [exSs, exS, exE, exEs, bind_ok, on_ok, obind_some, List.getElem?_cons_zero, List.getElem?_cons_succ, frzs, frz_val v, hc]
  rcases dm_cases h with ⟨j, rfl⟩ | ⟨s, rfl⟩ | ⟨ds, m, rfl, rfl, h1, h2⟩
  · simp only [isInt, cmpD, ordD, isWin, bind_ok, liftB_some]
    by_cases h0 : a ≤ j
    · simp [h0, liftB_some, on_ok, fin_rt]
    · simp [h0, liftB_some, on_ok, fin_rt]
  · rfl
  · rfl
def isMk (i : Int) (d : D) : Bool := match d with
  | .tup ds => ds.all (isEx i) && decide ((ds.length : Int) ≤ 24)
  | _ => false
theorem e_makers {i : Int} (h : dm n d = true) (hi : i ≤ 4000) : C (k + 6) "are_makers" [.int i, d] [] = some (.ok (.bl (isMk i d)) []) := by
  have v := dm_val h
  have hc := inv_val (M := []) (ds := [.int i, d]) (by simp [D.vals, v, D.val]) (e_exchanges (k := k) (i := i) h hi) rfl
  rw [C_s k75_l_are_makers rfl, show startE 2 [.int i, d] = [some (.int i), some d] from rfl]
  unfold k75_b_are_makers
  simp only [exSs, exS, exE, exEs, bind_ok, on_ok, obind_some, List.getElem?_cons_zero, List.getElem?_cons_succ, frzs, frz_val v, frz_int, hc]
  rcases dm_cases h with ⟨j, rfl⟩ | ⟨s, rfl⟩ | ⟨ds, m, rfl, rfl, h1, h2⟩
  · rfl
  · rfl
  · simp only [isExs, isMk]
    cases hb : ds.all (isEx i) with
    | false => rfl
    | true => rfl
end Z
end
section
set_option Elab.async false
set_option linter.all false
set_option maxRecDepth 100000
set_option maxHeartbeats 1000000
set_option autoImplicit false
namespace Z
open PySem
variable {k n : Nat} {M M1 : Mem} {d e r : D} {ds : List D}
/-! ### sorted numbers -/
def srt (l : List Int) : List D := (l.map D.int).mergeSort (PySem.W.dataLe false D.py)
def sortI (l : List Int) : List Int := (srt l).map toI
def rangeI (n : Nat) : List Int := (List.range n).map fun (j : Nat) => (j : Int)
theorem all_isInt (l : List Int) : (l.map D.int).all isInt = true := by
  rw [List.all_map]
  exact List.all_eq_true.mpr fun _ _ => rfl
theorem srt_int (l : List Int) : (srt l).all isInt = true := by
  refine List.all_eq_true.mpr fun x hx => ?_
  have := (List.mergeSort_perm (l.map D.int) (PySem.W.dataLe false D.py)).mem_iff.mp hx
  exact List.all_eq_true.mp (all_isInt l) x this
theorem srt_eq (l : List Int) : srt l = (sortI l).map D.int := ints_eq (srt_int l)
theorem plains_int (l : List Int) : D.plains (l.map D.int) = true := by
  induction l with
  | nil => rfl
  | cons i l ih => exact ih
theorem pys_int (l : List Int) : D.pys (l.map D.int) = l.map PyData.int := by
  induction l with
  | nil => rfl
  | cons i l ih =>
    rw [List.map_cons, D.pys, ih]
    rfl
theorem sort_ints (l : List Int) : sortD false (l.map D.int) = some (srt l) := by
  unfold sortD
  rw [if_pos]
  · rfl
  · rw [plains_int, Bool.true_and]
    have h1 : alikes (l.map D.int) = true := by
      unfold alikes
      refine List.all_eq_true.mpr fun a ha => List.all_eq_true.mpr fun b hb => ?_
      obtain ⟨i, _, rfl⟩ := List.mem_map.mp ha
      obtain ⟨j, _, rfl⟩ := List.mem_map.mp hb
      simp [D.py, PySem.W.alike]
    have h2 : sortable (l.map D.int) = true := by
      unfold sortable
      rw [Bool.or_eq_true]
      right
      refine List.all_eq_true.mpr fun a ha => ?_
      obtain ⟨i, _, rfl⟩ := List.mem_map.mp ha
      rfl
    have h3 : depths (l.map D.int) = true := by
      unfold depths
      refine List.all_eq_true.mpr fun a ha => ?_
      obtain ⟨i, _, rfl⟩ := List.mem_map.mp ha
      simp [D.py, PyData.depth]
    rw [h1, h2, h3]
    rfl
theorem shaped_ints (l : List Int) : SeqAt.shaped (.list (l.map PyData.int)) = true := by
  have h1 : PyData.canLayAll0 (l.map PyData.int) = true := by
    induction l with
    | nil => simp [PyData.canLayAll0]
    | cons i l ih => simp [PyData.canLayAll0, PyData.canLay0, ih]
  have h2 : PyData.depthAll (l.map PyData.int) = 0 := by
    induction l with
    | nil => simp [PyData.depthAll]
    | cons i l ih =>
      have h' : PyData.canLayAll0 (l.map PyData.int) = true := by
        simpa [PyData.canLayAll0, PyData.canLay0] using h1
      simp [PyData.depthAll, PyData.depth, ih h']
  unfold SeqAt.shaped
  simp [PyData.canLay0, h1, PyData.depth, h2]
theorem eqv_ints : ∀ a b : List Int, PyData.eqvAll (a.map PyData.int) (b.map PyData.int) = decide (a = b)
  | [], [] => by simp [PyData.eqvAll]
  | [], y :: ys => by simp [PyData.eqvAll]
  | x :: xs, [] => by simp [PyData.eqvAll]
  | x :: xs, y :: ys => by
    simp only [List.map_cons, PyData.eqvAll, PyData.eqv, eqv_ints xs ys]
    have : (x == y) = decide (x = y) := rfl
    rw [this, ← Bool.decide_and]
    exact decide_eq_decide.mpr (by simp)
def LstOf (d : D) (l : List Int) : Prop := d = .fl (l.map D.int) ∨ d = .tl (l.map D.int)
theorem view_ints {l : List Int} (h : LstOf d l) : viewS d M = some (.list (l.map PyData.int)) := by
  have hv : view d M = some (.list (l.map PyData.int)) := by
    unfold view
    rcases h with rfl | rfl
    · dsimp only
      rw [show (D.fl (l.map D.int)).plain = true from plains_int l]
      rw [if_pos rfl, D.py, pys_int]
    · dsimp only
      rw [show (D.tl (l.map D.int)).plain = true from plains_int l]
      rw [if_pos rfl, D.py, pys_int]
  unfold viewS
  rw [hv]
  dsimp only
  rw [if_pos (shaped_ints l)]
theorem eq_ints {a b : List Int} (h : LstOf d a) (h' : LstOf e b) : eqD d e M = some (decide (a = b)) := by
  unfold eqD
  rw [view_ints h, view_ints h']
  simp only [PyData.eqv, eqv_ints]
theorem range_ints (n : Nat) : rangeL 0 n = (rangeI n).map D.int := by
  rw [rangeL_map]
  unfold rangeI
  rw [List.map_map]
  refine List.map_congr_left fun j _ => ?_
  simp
theorem vals_int (l : List Int) : D.vals (l.map D.int) = true := by
  induction l with
  | nil => rfl
  | cons i l ih => exact ih
theorem vals_tl (l : List Int) : D.vals [.tl (l.map D.int)] = true := by
  show (D.vals (l.map D.int) && true) = true
  rw [vals_int]
  rfl
/-! ### partitions -/
def items : D → List D
  | .tup ds => ds
  | _ => []
def firstD : D → D
  | .tup (x :: _) => x
  | _ => .non
def isNP (i : Int) (d : D) : Bool := match d with
  | .tup (x :: l) => isPS i (.tup (x :: l))
  | _ => false
def flatI (ds : List D) : List Int := ds.flatMap fun p => (items p).map toI
def isPart (i : Int) (d : D) : Bool := match d with
  | .tup ds => ds.all (isNP i) && (asc (ds.map fun p => toI (firstD p)) && decide (sortI (flatI ds) = rangeI i.toNat))
  | _ => false
theorem compF_map {wt : Mem → Bool} {body : D → Mem → R (List D)} {F : D → List D} (hw : wt M = true) : ∀ {l : List D}, (∀ x ∈ l, body x M = some (.ok (F x) M)) → compF wt body l M = some (.ok (l.flatMap F) M)
  | [], _ => by
    rw [compF, if_pos hw]
    rfl
  | x :: l, h => by
    rw [compF, if_pos hw, h x List.mem_cons_self]
    dsimp only
    rw [compF_map hw fun y hy => h y (List.mem_cons_of_mem _ hy)]
    rfl
theorem isNP_ok {i : Int} {p : D} (h : isNP i p = true) : ∃ x l, p = .tup (x :: l) ∧ (x :: l).all isInt = true ∧ isPS i p = true := by
  unfold isNP at h
  split at h
  · exact ⟨_, _, rfl, all_int (band h).1, h⟩
  · cases h
theorem e_partition {i : Int} (h : dm n d = true) (hi : -4000 ≤ i ∧ i ≤ 4000) (hsz : (flatI (items d)).length ≤ 16777216) : C (k + 5) "is_partition" [.int i, d] [] = some (.ok (.bl (isPart i d)) []) := by
  rw [C_s k75_l_is_partition rfl, show startE 4 [.int i, d] = [some (.int i), some d, none, none] from rfl]
  unfold k75_b_is_partition
  rcases dm_cases h with ⟨j, rfl⟩ | ⟨s, rfl⟩ | ⟨ds, m, rfl, rfl, h1, h2⟩
  · rfl
  · rfl
  · have hb : ∀ x ∈ ds, (match bindG [2] x ([] : Mem) (wipeE [some (.int i), some (.tup ds), none, none] [2]) with
        | some env1 => (exT ⟨C (k + 4), true⟩ .nope env1 []).bind fun t M => if t then (exE ⟨C (k + 4), true⟩ (.and (.call "is_place_set" (.cons (.var 0) (.cons (.var 2) .nil))) (.cmp .gt (.bi .len (.cons (.var 2) .nil)) (.c (.int 0)))) env1 M).bind fun y M => (match frz y with
          | some y => some (.ok (some y) M)
          | none => none) else some (.ok none M)
        | none => none) = some (.ok (some (.bl (isNP i x))) []) := fun x hx => by
      have hx' := dms_mem h1 x hx
      have v := dm_val hx'
      have hc := inv_val (M := []) (ds := [.int i, x]) (by simp [D.vals, v, D.val]) (e_place_set (k := k) (i := i) hx') rfl
      simp only [bindG, wipeE, List.set, exT, exE, exEs, bind_ok, if_true, List.getElem?_cons_zero, List.getElem?_cons_succ, frzs, frz_val v, frz_int, frz_bl, obind_some, hc]
      rcases dm_cases hx' with ⟨j, rfl⟩ | ⟨s, rfl⟩ | ⟨es, q, rfl, rfl, _⟩
      · rfl
      · rfl
      · cases es with
        | nil => rfl
        | cons y l =>
          cases hps : isPS i (.tup (y :: l)) with
          | false =>
            simp only [isNP, hps]
            rfl
          | true =>
            have hl : (decide ((0 : Int) < ((l.length + 1 : Nat) : Int))) = true := decide_eq_true (by omega)
            simp only [isNP, hps, bind_ok, biHot, Bool.true_or, if_true, biD, lenD, seqOf, Option.map_some, lift1_some, cmpD, ordD, List.length_cons, hl, liftB_some, frz_bl]
    simp only [exSs, exS, exE, exT, exEs, exI, bind_ok, on_ok, obind_some, List.getElem?_cons_zero, List.getElem?_cons_succ]
    simp only [isTs, tyOf, noCls, isB, List.all_cons, List.all_nil, Bool.and_self, if_true, List.any_cons, List.any_nil, Bool.or_self, Bool.or_false, Bool.not_true, Bool.false_eq_true, if_false, bind_ok, biHot, Bool.false_or, wkSeq, seqOf, liftW]
    rw [compL_map (F := fun x => .bl (isNP i x)) rfl hb]
    simp only [bind_ok]
    rw [if_pos (by rw [List.length_map]; exact h2)]
    simp only [bind_ok, biD, lstOf, obind_some, Option.bind_some, allB_map, Option.map_some, truth, on_ok]
    cases hall : ds.all (isNP i) with
    | false =>
      simp only [isPart, hall]
      rfl
    | true =>
      have good := fun x hx => isNP_ok (List.all_eq_true.mp hall x hx)
      have hb2 : ∀ x ∈ ds, (match bindG [2] x ([] : Mem) (wipeE [some (.int i), some (.tup ds), none, none] [2]) with
        | some env1 => (exT ⟨C (k + 4), true⟩ .nope env1 []).bind fun t M => if t then (exE ⟨C (k + 4), true⟩ (.idx (.var 2) (.c (.int 0))) env1 M).bind fun y M => (match frz y with
          | some y => some (.ok (some y) M)
          | none => none) else some (.ok none M)
        | none => none) = some (.ok (some (.int (toI (firstD x)))) []) := fun x hx => by
        obtain ⟨y, l, rfl, hint, _⟩ := good x hx
        have hy := (band (show (isInt y && l.all isInt) = true from hint)).1
        cases y <;> first
          | (cases hy; done)
          | skip
        simp only [bindG, wipeE, List.set, exT, exE, exEs, bind_ok, if_true, List.getElem?_cons_zero, List.getElem?_cons_succ, idx0, lift1_some, frz_int, firstD, toI]
      have hfirst : (ds.map fun x => D.int (toI (firstD x))) = (ds.map fun x => toI (firstD x)).map D.int := by
        rw [List.map_map]
        rfl
      have c3 := inv_val (M := []) (f := "is_ascending") (ds := [.tl ((ds.map fun x => toI (firstD x)).map D.int)]) (vals_tl _) (e_ascending (k := k + 3) (is := ds.map fun x => toI (firstD x)) (.inr rfl) (by rw [List.length_map]; exact h2)) rfl
      simp only [Bool.not_true, Bool.false_eq_true, if_false, exSs, exS, exE, exT, exEs, exI, bind_ok, on_ok, obind_some, List.getElem?_cons_zero, List.getElem?_cons_succ, if_true, wkSeq, seqOf, liftW]
      rw [compL_map (F := fun x => .int (toI (firstD x))) rfl hb2]
      simp only [bind_ok]
      rw [if_pos (by rw [List.length_map]; exact h2), hfirst]
      simp only [bind_ok, frzs, frz_fl, obind_some, c3, truth]
      simp only [isPart, hall, Bool.true_and]
      cases hasc : asc (ds.map fun x => toI (firstD x)) with
      | false => rfl
      | true =>
        have hb3 : ∀ x ∈ ds, (match bindG [2] x ([] : Mem) (wipeE [some (.int i), some (.tup ds), none, none] [2, 3]) with
          | some env1 => (exI ⟨C (k + 4), true⟩ (.seq (.var 2)) env1 []).bind fun w2 M => (compL w2.watch (fun d2 M => match bindG [3] d2 M (wipeE env1 [3]) with
            | some env2 => (exE ⟨C (k + 4), true⟩ (.var 3) env2 M).bind fun y M => (match frz y with
              | some y => some (.ok (some y) M)
              | none => none)
            | none => none) w2.items M)
          | none => none) = some (.ok (items x) []) := fun x hx => by
          obtain ⟨y, l, rfl, hint, _⟩ := good x hx
          simp only [bindG, wipeE, List.set, exI, exE, bind_ok, List.getElem?_cons_zero, List.getElem?_cons_succ, wkSeq, seqOf, liftW]
          rw [compL_map (F := id) rfl fun z hz => by
            have hz' := List.all_eq_true.mp hint z hz
            cases z <;> first
              | (cases hz'; done)
              | rfl]
          rw [List.map_id]
          rfl
        have hflat : ds.flatMap items = (flatI ds).map D.int := by
          clear hb hb2 hb3 c3 hfirst hasc h1 h2 hsz h hall
          induction ds with
          | nil => rfl
          | cons x ds ih =>
            obtain ⟨y, l, rfl, hint, _⟩ := good x List.mem_cons_self
            have ih := ih fun z hz => good z (List.mem_cons_of_mem _ hz)
            unfold flatI at ih ⊢
            rw [List.flatMap_cons, List.flatMap_cons, List.map_append, ih]
            congr 1
            exact ints_eq hint
        simp only [Bool.not_true, Bool.false_eq_true, if_false, exSs, exS, exE, exEs, exI, bind_ok, on_ok, obind_some, List.getElem?_cons_zero, List.getElem?_cons_succ, if_true, wkSeq, seqOf, liftW, biHot, Bool.false_or]
        rw [compF_map (F := items) rfl hb3]
        simp only [bind_ok]
        rw [hflat, if_pos (by rw [List.length_map]; exact hsz)]
        have hr : biD .range [.int i] ([] : Mem) = some (.fl (rangeL 0 i.toNat)) := by
          show (if decide (-(2 ^ 62) ≤ i) && decide (i ≤ 16777216) then some (D.fl (rangeL 0 i.toNat)) else none) = _
          rw [if_pos (by simp; omega)]
        have hcnd : (decide (-(2 ^ 62) ≤ i) && decide (i ≤ 16777216)) = true := by
          simp
          omega
        simp only [bind_ok, obind_some, Option.bind_some, sort_ints, Option.map_some, lift1_some, hcnd, if_true, cmpD, eq_ints (a := sortI (flatI ds)) (b := rangeI i.toNat) (d := .fl (srt (flatI ds))) (e := .fl (rangeL 0 i.toNat)) (.inl (by rw [srt_eq])) (.inl (by rw [range_ints])), liftB_some, on_ok, fin_rt, Bool.true_and]
end Z
end
section
set_option Elab.async false
set_option linter.all false
set_option maxRecDepth 100000
set_option maxHeartbeats 2000000
set_option autoImplicit false
namespace Z
open PySem
variable {k n : Nat} {M M1 : Mem} {d e r : D} {ds : List D}
theorem eq_str {s t : Str} (h : SeqAt.shaped (.str s) = true) (h' : SeqAt.shaped (.str t) = true) : eqD (.str s) (.str t) M = some (decide (s = t)) := by
  unfold eqD
  rw [shaped_str h, shaped_str h']
  simp only [PyData.eqv]
  rw [Bool.beq_eq_decide_eq]
theorem idx_nat {l : List D} {j : Nat} {x : D} (h : l[j]? = some x) (hj : j < 1000) : idxD (.tup l) (.int (j : Int)) M = some x := by
  have hl := (List.getElem?_eq_some_iff.mp h).1
  have e : seqIndex? (j : Int) l.length = some j := seqIx_nat hl
  have c : (decide (-(2 ^ 63) ≤ (j : Int)) && decide ((j : Int) < 2 ^ 63)) = true := by
    simp
    omega
  simp only [idxD, seqOf, e, c, if_true, h]
theorem flat_len (h : dm n (.tup ds) = true) : (flatI ds).length ≤ 1000000 := by
  have h0 := dm_len h
  have key : ∀ l : List D, (∀ x ∈ l, (items x).length ≤ 1000) → (flatI l).length ≤ 1000 * l.length := fun l => by
    induction l with
    | nil => exact fun _ => Nat.le_refl _
    | cons x l ih =>
      intro hx
      have h1 := hx x List.mem_cons_self
      have h2 := ih fun y hy => hx y (List.mem_cons_of_mem _ hy)
      unfold flatI at h2 ⊢
      rw [List.flatMap_cons, List.length_append, List.length_map, List.length_cons]
      omega
  have := key ds fun x hx => by
    cases n with
    | zero => cases h
    | succ n =>
      have hx' := dms_mem (band (show (dms n ds && decide (ds.length ≤ 1000)) = true from h)).1 x hx
      rcases dm_cases hx' with ⟨j, rfl⟩ | ⟨s, rfl⟩ | ⟨es, q, rfl, rfl, _⟩
      · exact Nat.zero_le _
      · exact Nat.zero_le _
      · exact dm_len hx'
  omega
def isRowS (i : Int) (d : D) : Bool := match d with
  | .tup ds => ds.all (below · i) && decide (setLen ds = (ds.length : Int))
  | _ => false
def isCol (i : Int) (d : D) : Bool := match d with
  | .tup ds => ds.all (below · 10) && decide ((ds.length : Int) = i)
  | _ => false
def kindWs : List Str := ["place", "set", "row", "parts", "colours"]
def jKind (i : Int) (s : Str) (w : D) : Bool := if s = "place" then below w i else if s = "set" then isPS i w else if s = "row" then isRowS i w else if s = "colours" then isCol i w else isPart i w
def jThing (i : Int) (d : D) : Bool := match d with
  | .tup [a, w] => (match a with
    | .str s => decide (s ∈ kindWs) && jKind i s w
    | _ => false)
  | _ => false
theorem sh_kinds : SeqAt.shaped (.list (kindWs.map PyData.str)) = true := by decide +kernel
theorem sh (s : Str) (h : SeqAt.shaped (.str s) = true := by decide +kernel) : SeqAt.shaped (.str s) = true := h
theorem e_judge_thing {i : Int} (h : dm n d = true) (hi : -4000 ≤ i ∧ i ≤ 4000) : C (k + 6) "judge_thing" [.int i, d] [] = some (.ok (.bl (jThing i d)) []) := by
  have v := dm_val h
  have c1 := inv_val (M := []) (ds := [d, .int 2]) (by simp [D.vals, v, D.val]) (e_tuple_of (k := k + 4) (i := 2) h) rfl
  rw [C_s k75_l_judge_thing rfl, show startE 4 [.int i, d] = [some (.int i), some d, none, none] from rfl]
  unfold k75_b_judge_thing
  simp only [exSs, exS, exT, exE, exEs, bind_ok, on_ok, obind_some, List.getElem?_cons_zero, List.getElem?_cons_succ, frzs, frz_val v, frz_int, c1, truth]
  rcases dm_cases h with ⟨j, rfl⟩ | ⟨s, rfl⟩ | ⟨ds, m, rfl, rfl, h1, h2⟩
  · rfl
  · rfl
  · match ds, h, h1, v with
    | [], _, _, _ =>
      have e : isTupOf (.tup []) 2 = false := by decide
      simp only [e, Bool.not_false, if_true, bind_ok, on_ok]
      rfl
    | [z], _, _, _ =>
      have e : isTupOf (.tup [z]) 2 = false := by
        simp only [isTupOf, List.length_cons, List.length_nil]
        exact decide_eq_false (by omega)
      simp only [e, Bool.not_false, if_true, bind_ok, on_ok]
      rfl
    | z1 :: z2 :: z3 :: l, h, _, _ =>
      have e : isTupOf (.tup (z1 :: z2 :: z3 :: l)) 2 = false := by
        simp only [isTupOf, List.length_cons]
        exact decide_eq_false (by omega)
      simp only [e, Bool.not_false, if_true, bind_ok, on_ok]
      rfl
    | [a, w], h, h1, v =>
      have ha := dms_mem h1 a List.mem_cons_self
      have hw := dms_mem h1 w (List.mem_cons_of_mem _ List.mem_cons_self)
      have vw := dm_val hw
      have e : isTupOf (.tup [a, w]) 2 = true := rfl
      rw [e]
      have i0 : idxD (.tup [a, w]) (.int 0) ([] : Mem) = some a := idx_nat (j := 0) rfl (by decide)
      simp only [Bool.not_true, Bool.false_eq_true, if_false, bind_ok, i0, lift1_some]
      rcases dm_cases ha with ⟨j, rfl⟩ | ⟨s, rfl⟩ | ⟨es, q, rfl, rfl, _⟩
      · simp only [isTs, tyOf, noCls, isB, List.all_cons, List.all_nil, Bool.and_self, if_true, List.any_cons, List.any_nil, Bool.or_self, bind_ok, on_ok, Bool.not_false]
        rfl
      · obtain ⟨hs, _⟩ := dm_str ha
        have hm : memD (.str s) (.tup [.str "place", .str "set", .str "row", .str "parts", .str "colours"]) ([] : Mem) = some (decide (s ∈ kindWs)) := (mem_words (M := []) (ws := kindWs) hs sh_kinds).1
        simp only [isTs, tyOf, noCls, isB, List.all_cons, List.all_nil, Bool.and_self, if_true, List.any_cons, List.any_nil, Bool.or_self, Bool.or_false, Bool.not_true, Bool.false_eq_true, if_false, cmpD, hm, Option.map_some, bind_ok, liftB_some, i0, lift1_some]
        simp only [jThing]
        by_cases hk : s ∈ kindWs
        · simp only [hk, decide_true, Bool.not_true, Bool.false_eq_true, if_false, bind_ok, on_ok, tgOk, if_true, bindG, bindT, List.set, List.getElem?_cons_zero, List.getElem?_cons_succ, Bool.true_and, frz_tup]
          rw [eq_str hs (sh "place")]
          simp only [jKind]
          by_cases k1 : s = "place"
          · have c := inv_val (M := []) (ds := [w, .int i]) (by simp [D.vals, vw, D.val]) (e_below (k := k + 3) (i := i) hw) rfl
            simp only [k1, decide_true, if_true, List.getElem?_cons_zero, List.getElem?_cons_succ, frzs, bind_ok, on_ok, obind_some, frz_val vw, frz_int, c, fin_rt]
          · simp only [k1, decide_false, Bool.false_eq_true, if_false, List.getElem?_cons_zero, List.getElem?_cons_succ, frzs, bind_ok, on_ok]
            rw [eq_str hs (sh "set")]
            by_cases k2 : s = "set"
            · have c := inv_val (M := []) (ds := [.int i, w]) (by simp [D.vals, vw, D.val]) (e_place_set (k := k + 1) (i := i) hw) rfl
              simp only [k2, decide_true, if_true, List.getElem?_cons_zero, List.getElem?_cons_succ, frzs, bind_ok, on_ok, obind_some, frz_val vw, frz_int, c, fin_rt]
            · simp only [k2, decide_false, Bool.false_eq_true, if_false, List.getElem?_cons_zero, List.getElem?_cons_succ, frzs, bind_ok, on_ok]
              rw [eq_str hs (sh "row")]
              by_cases k3 : s = "row"
              · have c := inv_val (M := []) (ds := [w, .int i]) (by simp [D.vals, vw, D.val]) (e_row_below (k := k + 2) (i := i) hw) rfl
                simp only [k3, decide_true, if_true, List.getElem?_cons_zero, List.getElem?_cons_succ, frzs, bind_ok, on_ok, obind_some, frz_val vw, frz_int, c, fin_rt]
                rcases dm_cases hw with ⟨j, rfl⟩ | ⟨s, rfl⟩ | ⟨es, q, rfl, rfl, he, _⟩
                · rfl
                · rfl
                · simp only [isRow, isRowS]
                  cases hb : es.all (below · i) with
                  | false => rfl
                  | true =>
                    have hz : es.length ≤ 4000 := Nat.le_trans (dm_len hw) (by decide)
                    simp only [biHot, Bool.or_true, Bool.true_or, if_true, bind_ok, biD, hz, intL_map (all_int hb), Option.map_some, lift1_some, lenD, seqOf, List.length_map, eq_int, liftB_some, on_ok, fin_rt, Bool.true_and, setLen]
                    rfl
              · simp only [k3, decide_false, Bool.false_eq_true, if_false, List.getElem?_cons_zero, List.getElem?_cons_succ, frzs, bind_ok, on_ok]
                rw [eq_str hs (sh "colours")]
                by_cases k4 : s = "colours"
                · have c := inv_val (M := []) (ds := [w, .int 10]) (by simp [D.vals, vw, D.val]) (e_row_below (k := k + 2) (i := 10) hw) rfl
                  simp only [k4, decide_true, if_true, List.getElem?_cons_zero, List.getElem?_cons_succ, frzs, bind_ok, on_ok, obind_some, frz_val vw, frz_int, c, fin_rt]
                  rcases dm_cases hw with ⟨j, rfl⟩ | ⟨s, rfl⟩ | ⟨es, q, rfl, rfl, he, _⟩
                  · rfl
                  · rfl
                  · simp only [isRow, isCol]
                    cases hb : es.all (below · 10) with
                    | false => rfl
                    | true =>
                      simp only [biHot, Bool.or_true, Bool.true_or, if_true, bind_ok, biD, lift1_some, lenD, seqOf, Option.map_some, eq_int, liftB_some, on_ok, fin_rt, Bool.true_and]
                · have hz : (flatI (items w)).length ≤ 16777216 := by
                    rcases dm_cases hw with ⟨j, rfl⟩ | ⟨s, rfl⟩ | ⟨es, q, rfl, rfl, he, _⟩
                    · exact Nat.zero_le _
                    · exact Nat.zero_le _
                    · exact Nat.le_trans (flat_len hw) (by decide)
                  have c := inv_val (M := []) (ds := [.int i, w]) (by simp [D.vals, vw, D.val]) (e_partition (k := k) (i := i) hw hi hz) rfl
                  simp only [k4, decide_false, Bool.false_eq_true, if_false, List.getElem?_cons_zero, List.getElem?_cons_succ, frzs, bind_ok, on_ok, obind_some, frz_val vw, frz_int, c, fin_rt]
        · simp only [hk, decide_false, Bool.not_false, if_true, bind_ok, on_ok, Bool.false_and]
          rfl
      · simp only [isTs, tyOf, noCls, isB, List.all_cons, List.all_nil, Bool.and_self, if_true, List.any_cons, List.any_nil, Bool.or_self, bind_ok, on_ok, Bool.not_false]
        rfl
end Z
end
section
set_option Elab.async false
set_option linter.all false
set_option maxRecDepth 100000
set_option maxHeartbeats 4000000
set_option autoImplicit false
namespace Z
open PySem
variable {k n : Nat} {M M1 : Mem} {d e r : D} {ds : List D}
theorem mw {s : Str} (ws : List Str) (hs : SeqAt.shaped (.str s) = true) (hw : SeqAt.shaped (.list (ws.map PyData.str)) = true := by decide +kernel) : memD (.str s) (.tup (ws.map D.str)) M = some (decide (s ∈ ws)) := (mem_words hs hw).1
def kindOf : D → D
  | .tup (a :: _) => a
  | _ => .non
/-- are the two kinds alike -/
def sameK (a b : D) : Bool := PyData.eqv (kindOf a).py (kindOf b).py
def jRest (s : Str) (i : Int) (mk : List D) (rs : List D) : Bool :=
  if s ∈ (["tower", "stuck"] : List Str) then decide (rs = []) else
  if s ∈ (["in", "out", "order", "same", "unlike", "normal", "broken"] : List Str) then (match rs with
    | [a] => if s ∈ (["in", "out"] : List Str) then isEx i a else if s = "order" then isWin a 0 999999999999 else isMk i a
    | _ => false) else
  (match rs with
    | [a, b] => if s ∈ (["turned", "apart"] : List Str) then isEx i a && isEx i b else
        if s ∈ (["led", "unled"] : List Str) then jThing i a && (jThing i b && sameK a b) else
        if s = "colourings" then isWin a 1 9 && isWin b 0 999999999999 else
        (match a with
          | .int j => decide (1 ≤ j) && (decide (j ≤ 12) && (isExs j b && decide ((items b).length = mk.length)))
          | _ => false)
    | _ => false)
theorem eq_nil {rs : List D} (h : dms n rs = true) (hl : rs.length ≤ 1000) (hn : n ≤ 50) : eqD (.tup rs) (.tup []) M = some (decide (rs = [])) := by
  have h1 : dm (n + 1) (.tup rs) = true := by
    show (dms n rs && decide (rs.length ≤ 1000)) = true
    rw [h, decide_eq_true hl]
    rfl
  rw [eq_dm h1 (show dm (n + 1) (.tup []) = true from rfl) (by omega)]
  cases rs with
  | nil => simp [D.py, D.pys, PyData.eqv, PyData.eqvAll]
  | cons a l => simp [D.py, D.pys, PyData.eqv, PyData.eqvAll]
theorem jThing_ok {i : Int} (h : jThing i d = true) : ∃ s w, d = .tup [.str s, w] := by
  unfold jThing at h
  split at h
  · split at h
    · exact ⟨_, _, rfl⟩
    · cases h
  · cases h
theorem e_fits {s : Str} {i : Int} {m : Nat} {mk rs : List D} (hs : SeqAt.shaped (.str s) = true) (hi : 1 ≤ i ∧ i ≤ 12) (hmk : D.vals mk = true) (h : dms m rs = true) (hl : rs.length ≤ 1000) (hm : m ≤ 50) :
    C (k + 7) "fits_claim" [.str s, .int i, .tup mk, .tup rs] [] = some (.ok (.bl (jRest s i mk rs)) []) := by
  have hr : dm (m + 1) (.tup rs) = true := by
    show (dms m rs && decide (rs.length ≤ 1000)) = true
    rw [h, decide_eq_true hl]
    rfl
  have vr := dm_val hr
  have len_rs : biD .len [.tup rs] ([] : Mem) = some (.int (rs.length : Int)) := rfl
  rw [C_s k75_l_fits_claim rfl, show startE 4 [.str s, .int i, .tup mk, .tup rs] = [some (.str s), some (.int i), some (.tup mk), some (.tup rs)] from rfl]
  unfold k75_b_fits_claim
  have m1 : memD (.str s) (.tup [.str "tower", .str "stuck"]) ([] : Mem) = some (decide (s ∈ (["tower", "stuck"] : List Str))) := mw ["tower", "stuck"] hs
  have m2 : memD (.str s) (.tup [.str "in", .str "out", .str "order", .str "same", .str "unlike", .str "normal", .str "broken"]) ([] : Mem) = some (decide (s ∈ (["in", "out", "order", "same", "unlike", "normal", "broken"] : List Str))) := mw ["in", "out", "order", "same", "unlike", "normal", "broken"] hs
  have m3 : memD (.str s) (.tup [.str "in", .str "out"]) ([] : Mem) = some (decide (s ∈ (["in", "out"] : List Str))) := mw ["in", "out"] hs
  have m4 : memD (.str s) (.tup [.str "turned", .str "apart"]) ([] : Mem) = some (decide (s ∈ (["turned", "apart"] : List Str))) := mw ["turned", "apart"] hs
  have m5 : memD (.str s) (.tup [.str "led", .str "unled"]) ([] : Mem) = some (decide (s ∈ (["led", "unled"] : List Str))) := mw ["led", "unled"] hs
  have l2 : ∀ a b : D, ([a, b].length ≤ 16777216) := fun a b => by simp
  have sz : ∀ l : List D, l.length ≤ 7 → l.length ≤ 16777216 := fun l h => by omega
  simp only [exSs, exS, exT, exE, exEs, bind_ok, on_ok, obind_some, List.getElem?_cons_zero, List.getElem?_cons_succ, frzs, frz_int, frz_str, frz_tup, frz_bl, if_true, Bool.false_eq_true, if_false, lift1_some, liftB_some, Option.map_some]
  rw [if_pos (sz _ (by decide))]
  simp only [bind_ok, on_ok, obind_some, List.getElem?_cons_zero, List.getElem?_cons_succ, frzs, frz_int, frz_str, frz_tup, frz_bl, if_true, Bool.false_eq_true, if_false, lift1_some, liftB_some, Option.map_some, cmpD, m1]
  by_cases t1 : s ∈ (["tower", "stuck"] : List Str)
  · simp only [t1, decide_true, bind_ok, on_ok, obind_some, List.getElem?_cons_zero, List.getElem?_cons_succ, frzs, frz_int, frz_str, frz_tup, frz_bl, if_true, Bool.false_eq_true, if_false, lift1_some, liftB_some, Option.map_some]
    rw [if_pos (sz _ (by decide))]
    simp only [bind_ok, on_ok, obind_some, List.getElem?_cons_zero, List.getElem?_cons_succ, frzs, frz_int, frz_str, frz_tup, frz_bl, if_true, Bool.false_eq_true, if_false, lift1_some, liftB_some, Option.map_some, cmpD, eq_nil h hl (by omega), fin_rt, jRest, t1]
  · simp only [t1, decide_false, bind_ok, on_ok, obind_some, List.getElem?_cons_zero, List.getElem?_cons_succ, frzs, frz_int, frz_str, frz_tup, frz_bl, if_true, Bool.false_eq_true, if_false, lift1_some, liftB_some, Option.map_some, jRest]
    rw [if_pos (sz _ (by decide))]
    simp only [bind_ok, on_ok, obind_some, List.getElem?_cons_zero, List.getElem?_cons_succ, frzs, frz_int, frz_str, frz_tup, frz_bl, if_true, Bool.false_eq_true, if_false, lift1_some, liftB_some, Option.map_some, m2]
    by_cases t2 : s ∈ (["in", "out", "order", "same", "unlike", "normal", "broken"] : List Str)
    · simp only [t2, decide_true, bind_ok, on_ok, obind_some, List.getElem?_cons_zero, List.getElem?_cons_succ, frzs, frz_int, frz_str, frz_tup, frz_bl, if_true, Bool.false_eq_true, if_false, lift1_some, liftB_some, Option.map_some, biHot, Bool.true_or, len_rs, eq_int]
      match rs, h, len_rs with
      | [], _, _ => rfl
      | a :: b :: l, _, _ =>
        have e : (decide (((a :: b :: l).length : Int) = 1)) = false := by
          simp only [List.length_cons]
          exact decide_eq_false (by omega)
        simp only [e, Bool.not_false, bind_ok, on_ok, obind_some, List.getElem?_cons_zero, List.getElem?_cons_succ, frzs, frz_int, frz_str, frz_tup, frz_bl, if_true, Bool.false_eq_true, if_false, lift1_some, liftB_some, Option.map_some]
        rfl
      | [a], h, _ =>
        have ha := (band (show (dm m a && dms m []) = true from h)).1
        have va := dm_val ha
        have i0 : idxD (.tup [a]) (.int 0) ([] : Mem) = some a := idx_nat (j := 0) rfl (by decide)
        have e : (decide ((([a] : List D).length : Int) = 1)) = true := rfl
        simp only [e, Bool.not_true, bind_ok, on_ok, obind_some, List.getElem?_cons_zero, List.getElem?_cons_succ, frzs, frz_int, frz_str, frz_tup, frz_bl, if_true, Bool.false_eq_true, if_false, lift1_some, liftB_some, Option.map_some]
        rw [if_pos (sz _ (by decide))]
        simp only [bind_ok, on_ok, obind_some, List.getElem?_cons_zero, List.getElem?_cons_succ, frzs, frz_int, frz_str, frz_tup, frz_bl, if_true, Bool.false_eq_true, if_false, lift1_some, liftB_some, Option.map_some, m3]
        by_cases t3 : s ∈ (["in", "out"] : List Str)
        · have c := inv_val (M := []) (ds := [.int i, a]) (by simp [D.vals, va, D.val]) (e_exchange (k := k + 2) (i := i) ha (by omega)) rfl
          simp only [t3, decide_true, bind_ok, on_ok, obind_some, List.getElem?_cons_zero, List.getElem?_cons_succ, frzs, frz_int, frz_str, frz_tup, frz_bl, if_true, Bool.false_eq_true, if_false, lift1_some, liftB_some, Option.map_some, i0, frz_val va, c, fin_rt]
        · simp only [t3, decide_false, bind_ok, on_ok, obind_some, List.getElem?_cons_zero, List.getElem?_cons_succ, frzs, frz_int, frz_str, frz_tup, frz_bl, if_true, Bool.false_eq_true, if_false, lift1_some, liftB_some, Option.map_some, i0, frz_val va, eq_str hs (sh "order")]
          by_cases t4 : s = "order"
          · have c := inv_val (M := []) (ds := [a, .int 0, .int 999999999999]) (by simp [D.vals, va, D.val]) (e_within (k := k + 4) (a := 0) (b := 999999999999) ha) rfl
            simp only [t4, decide_true, bind_ok, on_ok, obind_some, List.getElem?_cons_zero, List.getElem?_cons_succ, frzs, frz_int, frz_str, frz_tup, frz_bl, if_true, Bool.false_eq_true, if_false, lift1_some, liftB_some, Option.map_some, c, fin_rt]
          · have c := inv_val (M := []) (ds := [.int i, a]) (by simp [D.vals, va, D.val]) (e_makers (k := k) (i := i) ha (by omega)) rfl
            simp only [t4, decide_false, bind_ok, on_ok, obind_some, List.getElem?_cons_zero, List.getElem?_cons_succ, frzs, frz_int, frz_str, frz_tup, frz_bl, if_true, Bool.false_eq_true, if_false, lift1_some, liftB_some, Option.map_some, c, fin_rt]
    · simp only [t2, decide_false, bind_ok, on_ok, obind_some, List.getElem?_cons_zero, List.getElem?_cons_succ, frzs, frz_int, frz_str, frz_tup, frz_bl, if_true, Bool.false_eq_true, if_false, lift1_some, liftB_some, Option.map_some, biHot, Bool.true_or, len_rs, eq_int]
      match rs, h, hr, vr, len_rs with
      | [], _, _, _, _ => rfl
      | [a], _, _, _, _ => rfl
      | a :: b :: c :: l, _, _, _, _ =>
        have e : (decide (((a :: b :: c :: l).length : Int) = 2)) = false := by
          simp only [List.length_cons]
          exact decide_eq_false (by omega)
        simp only [e, Bool.not_false, bind_ok, on_ok, obind_some, List.getElem?_cons_zero, List.getElem?_cons_succ, frzs, frz_int, frz_str, frz_tup, frz_bl, if_true, Bool.false_eq_true, if_false, lift1_some, liftB_some, Option.map_some]
        rfl
      | [a, b], h, hr, vr, _ =>
        have h2 := band (show (dm m a && dms m [b]) = true from h)
        have ha := h2.1
        have hb := (band (show (dm m b && dms m []) = true from h2.2)).1
        have va := dm_val ha
        have vb := dm_val hb
        have i0 : idxD (.tup [a, b]) (.int 0) ([] : Mem) = some a := idx_nat (j := 0) rfl (by decide)
        have i1 : idxD (.tup [a, b]) (.int 1) ([] : Mem) = some b := idx_nat (j := 1) rfl (by decide)
        have e : (decide ((([a, b] : List D).length : Int) = 2)) = true := rfl
        simp only [e, Bool.not_true, bind_ok, on_ok, obind_some, List.getElem?_cons_zero, List.getElem?_cons_succ, frzs, frz_int, frz_str, frz_tup, frz_bl, if_true, Bool.false_eq_true, if_false, lift1_some, liftB_some, Option.map_some]
        rw [if_pos (sz _ (by decide))]
        simp only [bind_ok, on_ok, obind_some, List.getElem?_cons_zero, List.getElem?_cons_succ, frzs, frz_int, frz_str, frz_tup, frz_bl, if_true, Bool.false_eq_true, if_false, lift1_some, liftB_some, Option.map_some, m4]
        by_cases t3 : s ∈ (["turned", "apart"] : List Str)
        · have c := inv_val (M := []) (ds := [.int i, .tup [a, b]]) (by simp [D.vals, va, vb, D.val]) (e_exchanges (k := k + 1) (i := i) hr (by omega)) rfl
          simp only [t3, decide_true, bind_ok, on_ok, obind_some, List.getElem?_cons_zero, List.getElem?_cons_succ, frzs, frz_int, frz_str, frz_tup, frz_bl, if_true, Bool.false_eq_true, if_false, lift1_some, liftB_some, Option.map_some, c, fin_rt, isExs, List.all_cons, List.all_nil, Bool.and_true]
        · simp only [t3, decide_false, bind_ok, on_ok, obind_some, List.getElem?_cons_zero, List.getElem?_cons_succ, frzs, frz_int, frz_str, frz_tup, frz_bl, if_true, Bool.false_eq_true, if_false, lift1_some, liftB_some, Option.map_some]
          rw [if_pos (sz _ (by decide))]
          simp only [bind_ok, on_ok, obind_some, List.getElem?_cons_zero, List.getElem?_cons_succ, frzs, frz_int, frz_str, frz_tup, frz_bl, if_true, Bool.false_eq_true, if_false, lift1_some, liftB_some, Option.map_some, m5]
          by_cases t4 : s ∈ (["led", "unled"] : List Str)
          · have c1 := inv_val (M := []) (ds := [.int i, a]) (by simp [D.vals, va, D.val]) (e_judge_thing (k := k) (i := i) ha (by omega)) rfl
            have c2 := inv_val (M := []) (ds := [.int i, b]) (by simp [D.vals, vb, D.val]) (e_judge_thing (k := k) (i := i) hb (by omega)) rfl
            simp only [t4, decide_true, bind_ok, on_ok, obind_some, List.getElem?_cons_zero, List.getElem?_cons_succ, frzs, frz_int, frz_str, frz_tup, frz_bl, if_true, Bool.false_eq_true, if_false, lift1_some, liftB_some, Option.map_some, i0, i1, frz_val va, frz_val vb, c1, c2]
            cases j1 : jThing i a with
            | false => rfl
            | true =>
              simp only [bind_ok, on_ok, obind_some, List.getElem?_cons_zero, List.getElem?_cons_succ, frzs, frz_int, frz_str, frz_tup, frz_bl, if_true, Bool.false_eq_true, if_false, lift1_some, liftB_some, Option.map_some, i0, i1, frz_val va, frz_val vb, c2, Bool.true_and]
              cases j2 : jThing i b with
              | false => rfl
              | true =>
                simp only [bind_ok, on_ok, obind_some, List.getElem?_cons_zero, List.getElem?_cons_succ, frzs, frz_int, frz_str, frz_tup, frz_bl, if_true, Bool.false_eq_true, if_false, lift1_some, liftB_some, Option.map_some, i0, i1, Bool.true_and]
                obtain ⟨s1, w1, rfl⟩ := jThing_ok j1
                obtain ⟨s2, w2, rfl⟩ := jThing_ok j2
                have d1 : ∃ q, dm q (.str s1) = true := by
                  cases m with
                  | zero => cases ha
                  | succ q => exact ⟨q, dms_mem (band (show (dms q [.str s1, w1] && _) = true from ha)).1 _ List.mem_cons_self⟩
                have d2 : ∃ q, dm q (.str s2) = true := by
                  cases m with
                  | zero => cases hb
                  | succ q => exact ⟨q, dms_mem (band (show (dms q [.str s2, w2] && _) = true from hb)).1 _ List.mem_cons_self⟩
                obtain ⟨q1, d1⟩ := d1
                obtain ⟨q2, d2⟩ := d2
                have e1 : idxD (.tup [.str s1, w1]) (.int 0) ([] : Mem) = some (.str s1) := idx_nat (j := 0) rfl (by decide)
                have e2 : idxD (.tup [.str s2, w2]) (.int 0) ([] : Mem) = some (.str s2) := idx_nat (j := 0) rfl (by decide)
                simp only [bind_ok, on_ok, obind_some, List.getElem?_cons_zero, List.getElem?_cons_succ, frzs, frz_int, frz_str, frz_tup, frz_bl, if_true, Bool.false_eq_true, if_false, lift1_some, liftB_some, Option.map_some, i0, i1, e1, e2, eq_str (dm_str d1).1 (dm_str d2).1, fin_rt, sameK, kindOf, D.py, PyData.eqv]
                rw [Bool.beq_eq_decide_eq]
          · simp only [t4, decide_false, bind_ok, on_ok, obind_some, List.getElem?_cons_zero, List.getElem?_cons_succ, frzs, frz_int, frz_str, frz_tup, frz_bl, if_true, Bool.false_eq_true, if_false, lift1_some, liftB_some, Option.map_some, eq_str hs (sh "colourings")]
            by_cases t5 : s = "colourings"
            · have c1 := inv_val (M := []) (ds := [a, .int 1, .int 9]) (by simp [D.vals, va, D.val]) (e_within (k := k + 4) (a := 1) (b := 9) ha) rfl
              have c2 := inv_val (M := []) (ds := [b, .int 0, .int 999999999999]) (by simp [D.vals, vb, D.val]) (e_within (k := k + 4) (a := 0) (b := 999999999999) hb) rfl
              simp only [t5, decide_true, bind_ok, on_ok, obind_some, List.getElem?_cons_zero, List.getElem?_cons_succ, frzs, frz_int, frz_str, frz_tup, frz_bl, if_true, Bool.false_eq_true, if_false, lift1_some, liftB_some, Option.map_some, i0, i1, frz_val va, frz_val vb, c1]
              cases j1 : isWin a 1 9 with
              | false => rfl
              | true => simp only [bind_ok, on_ok, obind_some, List.getElem?_cons_zero, List.getElem?_cons_succ, frzs, frz_int, frz_str, frz_tup, frz_bl, if_true, Bool.false_eq_true, if_false, lift1_some, liftB_some, Option.map_some, i0, i1, frz_val va, frz_val vb, c2, fin_rt, Bool.true_and]
            · have c1 := inv_val (M := []) (ds := [a, .int 1, .int 12]) (by simp [D.vals, va, D.val]) (e_within (k := k + 4) (a := 1) (b := 12) ha) rfl
              simp only [t5, decide_false, bind_ok, on_ok, obind_some, List.getElem?_cons_zero, List.getElem?_cons_succ, frzs, frz_int, frz_str, frz_tup, frz_bl, if_true, Bool.false_eq_true, if_false, lift1_some, liftB_some, Option.map_some, i0, i1, frz_val va, frz_val vb, c1]
              rcases dm_cases ha with ⟨j, rfl⟩ | ⟨s', rfl⟩ | ⟨es, q, rfl, rfl, _⟩
              · by_cases q1 : 1 ≤ j
                · by_cases q2 : j ≤ 12
                  · have c2 := inv_val (M := []) (ds := [.int j, b]) (by simp [D.vals, vb, D.val]) (e_exchanges (k := k + 1) (i := j) hb (by omega)) rfl
                    simp only [isWin, q1, q2, decide_true, Bool.and_self, Bool.true_and, bind_ok, on_ok, obind_some, List.getElem?_cons_zero, List.getElem?_cons_succ, frzs, frz_int, frz_str, frz_tup, frz_bl, if_true, Bool.false_eq_true, if_false, lift1_some, liftB_some, Option.map_some, i0, i1, frz_val vb, c2]
                    rcases dm_cases hb with ⟨j', rfl⟩ | ⟨s', rfl⟩ | ⟨es, q, rfl, rfl, _⟩
                    · rfl
                    · rfl
                    · cases j2 : isExs j (.tup es) with
                      | false => rfl
                      | true =>
                        have e1 : (decide ((es.length : Int) = (mk.length : Int))) = decide (es.length = mk.length) := decide_eq_decide.mpr (by omega)
                        simp only [bind_ok, on_ok, obind_some, List.getElem?_cons_zero, List.getElem?_cons_succ, frzs, frz_int, frz_str, frz_tup, frz_bl, if_true, Bool.false_eq_true, if_false, lift1_some, liftB_some, Option.map_some, i1, biHot, Bool.true_or, biD, lenD, seqOf, eq_int, fin_rt, Bool.true_and, items, e1]
                        rfl
                  · simp only [isWin, q1, q2, decide_true, decide_false, Bool.and_false, Bool.false_and, bind_ok, on_ok, obind_some, List.getElem?_cons_zero, List.getElem?_cons_succ, frzs, frz_int, frz_str, frz_tup, frz_bl, if_true, Bool.false_eq_true, if_false, lift1_some, liftB_some, Option.map_some]
                    rfl
                · simp only [isWin, q1, decide_false, Bool.false_and, bind_ok, on_ok, obind_some, List.getElem?_cons_zero, List.getElem?_cons_succ, frzs, frz_int, frz_str, frz_tup, frz_bl, if_true, Bool.false_eq_true, if_false, lift1_some, liftB_some, Option.map_some]
                  rfl
              · rfl
              · rfl
end Z
end
section
set_option Elab.async false
set_option linter.all false
set_option maxRecDepth 100000
set_option maxHeartbeats 4000000
set_option autoImplicit false
namespace Z
open PySem
variable {k n : Nat} {M M1 : Mem} {d e r : D} {ds : List D}
theorem cut_from {l : List D} {j : Nat} (h : j ≤ l.length) : cutD l (some (j : Int)) none = l.drop j := by
  unfold cutD
  rw [HT.sIx_nat, HT.sIx_none, Nat.min_eq_left h]
  exact List.take_of_length_le (by rw [List.length_drop]; exact Nat.le_refl _)
def wordsC : List Str := ["in", "out", "same", "unlike", "order", "normal", "broken", "tower", "stuck", "turned", "apart", "led", "unled", "map", "nomap", "colourings"]
def jClaim (d : D) : Bool := match d with
  | .tup (a :: b :: c :: rs) => (match a with
    | .str s => (match b with
      | .int i => decide (s ∈ wordsC) && ((decide (1 ≤ i) && decide (i ≤ 12)) && (isMk i c && jRest s i (items c) rs))
      | _ => false)
    | _ => false)
  | _ => false
theorem sh_words : SeqAt.shaped (.list (wordsC.map PyData.str)) = true := by decide +kernel
theorem dms_drop {l : List D} (h : dms n l = true) : ∀ j : Nat, dms n (l.drop j) = true := fun j => by
  induction l generalizing j with
  | nil => rw [List.drop_nil]; exact h
  | cons a l ih =>
    cases j with
    | zero => exact h
    | succ j => exact ih (band (show (dm n a && dms n l) = true from h)).2 j
theorem e_judge_claim (h : dm n d = true) (hn : n ≤ 50) : C (k + 8) "judge_claim" [d] [] = some (.ok (.bl (jClaim d)) []) := by
  have v := dm_val h
  have c1 := inv_val (M := []) (f := "starts_with") (ds := [d, .tup (wordsC.map .str)]) (by simp [D.vals, v, D.val]; decide +kernel) (e_starts (k := k + 6) h sh_words) rfl
  have c1' : inv (C (k + 7)) "starts_with" [d, .tup [.str "in", .str "out", .str "same", .str "unlike", .str "order", .str "normal", .str "broken", .str "tower", .str "stuck", .str "turned", .str "apart", .str "led", .str "unled", .str "map", .str "nomap", .str "colourings"]] [] = some (.ok (.bl (stW wordsC d)) []) := c1
  rw [C_s k75_l_judge_claim rfl, show startE 1 [d] = [some d] from rfl]
  unfold k75_b_judge_claim
  simp only [exSs, exS, exT, exE, exEs, bind_ok, on_ok, obind_some, List.getElem?_cons_zero, List.getElem?_cons_succ, frzs, frz_int, frz_str, frz_tup, frz_bl, if_true, Bool.false_eq_true, if_false, lift1_some, liftB_some, Option.map_some, frz_val v, c1', truth]
  rcases dm_cases h with ⟨j, rfl⟩ | ⟨s, rfl⟩ | ⟨ds, m, rfl, rfl, h1, h2⟩
  · rfl
  · rfl
  · cases hst : stW wordsC (.tup ds) with
    | false =>
      have e : jClaim (.tup ds) = false := by
        match ds, hst with
        | [], _ => rfl
        | [_], _ => rfl
        | [_, _], _ => rfl
        | a :: b :: c :: rs, hst =>
          cases a <;> first
            | rfl
            | skip
          cases b <;> first
            | rfl
            | skip
          rename_i s i
          have : decide (s ∈ wordsC) = false := hst
          simp only [jClaim, this, Bool.false_and]
      simp only [e, Bool.not_false, bind_ok, on_ok, obind_some, List.getElem?_cons_zero, List.getElem?_cons_succ, frzs, frz_int, frz_str, frz_tup, frz_bl, if_true, Bool.false_eq_true, if_false, lift1_some, liftB_some, Option.map_some]
      rfl
    | true =>
      have bl : biD .len [.tup ds] ([] : Mem) = some (.int (ds.length : Int)) := rfl
      simp only [Bool.not_true, bind_ok, on_ok, obind_some, List.getElem?_cons_zero, List.getElem?_cons_succ, frzs, frz_int, frz_str, frz_tup, frz_bl, if_true, Bool.false_eq_true, if_false, lift1_some, liftB_some, Option.map_some, biHot, Bool.true_or, bl, cmpD, ordD]
      match ds, h, h1, v, hst with
      | [], _, _, _, hst => cases hst
      | [_], _, _, _, _ => rfl
      | [_, _], _, _, _, _ => rfl
      | a :: b :: c :: rs, h, h1, v, hst =>
        have e : (decide (((a :: b :: c :: rs).length : Int) < 3)) = false := by
          simp only [List.length_cons]
          exact decide_eq_false (by omega)
        have a1 := band (show (dm m a && dms m (b :: c :: rs)) = true from h1)
        have a2 := band (show (dm m b && dms m (c :: rs)) = true from a1.2)
        have a3 := band (show (dm m c && dms m rs) = true from a2.2)
        have vb := dm_val a2.1
        have vc := dm_val a3.1
        have i0 : idxD (.tup (a :: b :: c :: rs)) (.int 0) ([] : Mem) = some a := idx_nat (j := 0) rfl (by decide)
        have i1 : idxD (.tup (a :: b :: c :: rs)) (.int 1) ([] : Mem) = some b := idx_nat (j := 1) rfl (by decide)
        have i2 : idxD (.tup (a :: b :: c :: rs)) (.int 2) ([] : Mem) = some c := idx_nat (j := 2) rfl (by decide)
        have c2 := inv_val (M := []) (ds := [b, .int 1, .int 12]) (by simp [D.vals, vb, D.val]) (e_within (k := k + 5) (a := 1) (b := 12) a2.1) rfl
        cases a <;> first
          | (cases hst; done)
          | skip
        rename_i s
        simp only [e, bind_ok, on_ok, obind_some, List.getElem?_cons_zero, List.getElem?_cons_succ, frzs, frz_int, frz_str, frz_tup, frz_bl, if_true, Bool.false_eq_true, if_false, lift1_some, liftB_some, Option.map_some, i1, frz_val vb, c2]
        have hw : decide (s ∈ wordsC) = true := hst
        rcases dm_cases a2.1 with ⟨i, rfl⟩ | ⟨s', rfl⟩ | ⟨es, q, rfl, rfl, _⟩
        · by_cases q1 : 1 ≤ i
          · by_cases q2 : i ≤ 12
            · have c3 := inv_val (M := []) (ds := [.int i, c]) (by simp [D.vals, vc, D.val]) (e_makers (k := k + 1) (i := i) a3.1 (by omega)) rfl
              simp only [isWin, q1, q2, decide_true, Bool.and_self, Bool.not_true, bind_ok, on_ok, obind_some, List.getElem?_cons_zero, List.getElem?_cons_succ, frzs, frz_int, frz_str, frz_tup, frz_bl, if_true, Bool.false_eq_true, if_false, lift1_some, liftB_some, Option.map_some, i1, i2, frz_val vc, c3, jClaim, hw, Bool.true_and]
              cases hm : isMk i c with
              | false => rfl
              | true =>
                rcases dm_cases a3.1 with ⟨i', rfl⟩ | ⟨s', rfl⟩ | ⟨es, q, rfl, rfl, _⟩
                · cases hm
                · cases hm
                · have hlen : rs.length ≤ 1000 := by
                    have := dm_len h
                    simp only [List.length_cons] at this
                    omega
                  have ves : D.vals es = true := vc
                  have vrs : D.vals rs = true := by
                    have hr : dm (q + 1 + 1) (.tup rs) = true := by
                      show (dms (q + 1) rs && decide (rs.length ≤ 1000)) = true
                      rw [a3.2, decide_eq_true hlen]
                      rfl
                    exact dm_val hr
                  have sl : sliD (.tup (.str s :: .int i :: .tup es :: rs)) (some 3) none ([] : Mem) = some (.tup rs) := by
                    show some (D.tup (cutD (.str s :: .int i :: .tup es :: rs) (some ((3 : Nat) : Int)) none)) = _
                    rw [cut_from (by simp only [List.length_cons]; omega)]
                    rfl
                  have c4 := inv_val (M := []) (ds := [.str s, .int i, .tup es, .tup rs]) (by simp [D.vals, ves, vrs, D.val]) (e_fits (k := k) (mk := es) (dm_str a1.1).1 ⟨q1, q2⟩ ves a3.2 hlen (by omega)) rfl
                  simp only [bind_ok, on_ok, obind_some, List.getElem?_cons_zero, List.getElem?_cons_succ, frzs, frz_int, frz_str, frz_tup, frz_bl, if_true, Bool.false_eq_true, if_false, lift1_some, liftB_some, Option.map_some, i0, i1, i2, optI, sl, c4, fin_rt, Bool.true_and, items]
            · simp only [isWin, q1, q2, decide_true, decide_false, Bool.and_false, Bool.not_false, bind_ok, on_ok, obind_some, List.getElem?_cons_zero, List.getElem?_cons_succ, frzs, frz_int, frz_str, frz_tup, frz_bl, if_true, Bool.false_eq_true, if_false, lift1_some, liftB_some, Option.map_some, jClaim, hw, Bool.true_and, Bool.false_and]
              rfl
          · simp only [isWin, q1, decide_false, Bool.false_and, Bool.not_false, bind_ok, on_ok, obind_some, List.getElem?_cons_zero, List.getElem?_cons_succ, frzs, frz_int, frz_str, frz_tup, frz_bl, if_true, Bool.false_eq_true, if_false, lift1_some, liftB_some, Option.map_some, jClaim, hw, Bool.true_and]
            rfl
        · rfl
        · rfl
end Z
end
section
set_option Elab.async false
set_option linter.all false
set_option maxRecDepth 100000
set_option maxHeartbeats 4000000
set_option autoImplicit false
namespace Z
open PySem
variable {k n : Nat} {M M1 : Mem} {d e r : D} {ds : List D}
/-! ### False in [..] -/
theorem mem_false {α : Type} (p : α → Bool) (l : List α) : memD (.bl false) (.fl (l.map fun x => D.bl (p x))) M = some (!(l.all p)) := by
  have e1 : D.plains (l.map fun x => D.bl (p x)) = true := by
    induction l with
    | nil => rfl
    | cons w ws ih => exact ih
  have e2 : D.pys (l.map fun x => D.bl (p x)) = l.map fun x => PyData.bool (p x) := by
    clear e1
    induction l with
    | nil => rfl
    | cons w ws ih =>
      rw [List.map_cons, D.pys, ih]
      rfl
  have e3 : ((l.map fun x => PyData.bool (p x)).any fun z => PyData.eqv z (.bool false)) = !(l.all p) := by
    clear e1 e2
    induction l with
    | nil => rfl
    | cons w ws ih =>
      rw [List.map_cons, List.any_cons, ih, List.all_cons]
      simp only [PyData.eqv]
      cases p w <;> cases ws.all p <;> rfl
  have e4 : SeqAt.shaped (.list (l.map fun x => PyData.bool (p x))) = true := by
    have h1 : PyData.canLayAll0 (l.map fun x => PyData.bool (p x)) = true := by
      clear e1 e2 e3
      induction l with
      | nil => simp [PyData.canLayAll0]
      | cons i l ih => simp [PyData.canLayAll0, PyData.canLay0, ih]
    have h2 : PyData.depthAll (l.map fun x => PyData.bool (p x)) = 0 := by
      clear e1 e2 e3 h1
      induction l with
      | nil => simp [PyData.depthAll]
      | cons i l ih => simp [PyData.depthAll, PyData.depth, ih]
    unfold SeqAt.shaped
    simp [PyData.canLay0, h1, PyData.depth, h2]
  have v : viewS (.bl false) M = some (.bool false) := by
    unfold viewS
    rw [show view (.bl false) M = some (.bool false) from rfl]
    dsimp only
    rw [if_pos (by unfold SeqAt.shaped; simp [PyData.canLay0, PyData.depth])]
  unfold memD
  simp only [seqOf, e1, if_true, v, e2, e4, e3]
theorem bin_sub {a b : Int} : binD .sub (.int a) (.int b) M = some (.int (a - b)) := rfl
theorem bin_add {a b : Int} : binD .add (.int a) (.int b) M = some (.int (a + b)) := rfl
theorem l_int (h : dm n d = true) : C (k + 1) "_law_is_int" [d] [] = some (.ok (.bl (isInt d)) []) := by
  rw [C_s k75_l__law_is_int rfl]
  rcases dm_cases h with ⟨i, rfl⟩ | ⟨s, rfl⟩ | ⟨ds, m, rfl, rfl, h1, h2⟩ <;> rfl
def lEx (i : Int) (d : D) : Bool := match d with
  | .tup ds => decide ((ds.length : Int) = i) && (ds.all isInt && decide (sortI (ds.map toI) = rangeI i.toNat))
  | _ => false
theorem l_exchange {i : Int} (h : dm n d = true) (hi : -4000 ≤ i ∧ i ≤ 4000) : C (k + 2) "_law_is_exchange" [.int i, d] [] = some (.ok (.bl (lEx i d)) []) := by
  rw [C_s k75_l__law_is_exchange rfl, show startE 3 [.int i, d] = [some (.int i), some d, none] from rfl]
  unfold k75_b__law_is_exchange
  rcases dm_cases h with ⟨j, rfl⟩ | ⟨s, rfl⟩ | ⟨ds, m, rfl, rfl, h1, h2⟩
  · rfl
  · rfl
  · have hb : ∀ x ∈ ds, (match bindG [2] x ([] : Mem) (wipeE [some (.int i), some (.tup ds), none] [2]) with
        | some env1 => (exT ⟨C (k + 1), true⟩ .nope env1 []).bind fun t M => if t then (exE ⟨C (k + 1), true⟩ (.call "_law_is_int" (.cons (.var 2) .nil)) env1 M).bind fun y M => (match frz y with
          | some y => some (.ok (some y) M)
          | none => none) else some (.ok none M)
        | none => none) = some (.ok (some (.bl (isInt x))) []) := fun x hx => by
      have hx' := dms_mem h1 x hx
      have v := dm_val hx'
      have hc := inv_val (M := []) (ds := [x]) (by simp [D.vals, v, D.val]) (l_int (k := k) hx') rfl
      simp only [bindG, wipeE, List.set, exT, exE, exEs, bind_ok, on_ok, obind_some, List.getElem?_cons_zero, List.getElem?_cons_succ, frzs, frz_int, frz_str, frz_tup, frz_bl, if_true, Bool.false_eq_true, if_false, lift1_some, liftB_some, Option.map_some, frz_val v, hc]
    have bl : biD .len [.tup ds] ([] : Mem) = some (.int (ds.length : Int)) := rfl
    have hr : biD .range [.int i] ([] : Mem) = some (.fl (rangeL 0 i.toNat)) := by
      show (if decide (-(2 ^ 62) ≤ i) && decide (i ≤ 16777216) then some (D.fl (rangeL 0 i.toNat)) else none) = _
      rw [if_pos (by simp; omega)]
    simp only [exSs, exS, exT, exE, exEs, exI, bind_ok, on_ok, obind_some, List.getElem?_cons_zero, List.getElem?_cons_succ, frzs, frz_int, frz_str, frz_tup, frz_bl, if_true, Bool.false_eq_true, if_false, lift1_some, liftB_some, Option.map_some, isTs, tyOf, noCls, isB, List.all_cons, List.all_nil, Bool.and_self, List.any_cons, List.any_nil, Bool.or_self, Bool.or_false, Bool.not_true, biHot, Bool.true_or, Bool.or_true, bl, cmpD, eq_int, lEx]
    by_cases hl : (ds.length : Int) = i
    · simp only [hl, decide_true, Bool.not_true, bind_ok, on_ok, obind_some, List.getElem?_cons_zero, List.getElem?_cons_succ, frzs, frz_int, frz_str, frz_tup, frz_bl, if_true, Bool.false_eq_true, if_false, lift1_some, liftB_some, Option.map_some, wkSeq, seqOf, liftW, Bool.true_and]
      rw [compL_map (F := fun x => .bl (isInt x)) rfl hb]
      simp only [bind_ok, on_ok, obind_some, List.getElem?_cons_zero, List.getElem?_cons_succ, frzs, frz_int, frz_str, frz_tup, frz_bl, if_true, Bool.false_eq_true, if_false, lift1_some, liftB_some, Option.map_some]
      rw [if_pos (by rw [List.length_map]; exact h2)]
      simp only [bind_ok, on_ok, obind_some, List.getElem?_cons_zero, List.getElem?_cons_succ, frzs, frz_int, frz_str, frz_tup, frz_bl, if_true, Bool.false_eq_true, if_false, lift1_some, liftB_some, Option.map_some, mem_false]
      cases hall : ds.all isInt with
      | false => rfl
      | true =>
        have hs : biD .sorted [.tup ds] ([] : Mem) = some (.fl (srt (ds.map toI))) := by
          show Option.bind (some ds) (fun ds => (sortD false ds).map D.fl) = _
          rw [Option.bind_some]
          have e := ints_eq hall
          have e2 := sort_ints (ds.map toI)
          rw [← e] at e2
          rw [e2]
          rfl
        simp only [bind_ok, on_ok, obind_some, List.getElem?_cons_zero, List.getElem?_cons_succ, frzs, frz_int, frz_str, frz_tup, frz_bl, if_true, Bool.false_eq_true, if_false, lift1_some, liftB_some, Option.map_some, Bool.not_true, hs, hr, eq_ints (a := sortI (ds.map toI)) (b := rangeI i.toNat) (d := .fl (srt (ds.map toI))) (e := .fl (rangeL 0 i.toNat)) (.inl (by rw [srt_eq])) (.inl (by rw [range_ints])), fin_rt, Bool.true_and]
    · simp only [hl, decide_false, Bool.not_false, bind_ok, on_ok, obind_some, List.getElem?_cons_zero, List.getElem?_cons_succ, frzs, frz_int, frz_str, frz_tup, frz_bl, if_true, Bool.false_eq_true, if_false, lift1_some, liftB_some, Option.map_some, Bool.false_and]
      rfl
def lExs (i : Int) (d : D) : Bool := match d with
  | .tup ds => ds.all (lEx i)
  | _ => false
theorem l_exchanges {i : Int} (h : dm n d = true) (hi : -4000 ≤ i ∧ i ≤ 4000) : C (k + 3) "_law_are_exchanges" [.int i, d] [] = some (.ok (.bl (lExs i d)) []) := by
  rw [C_s k75_l__law_are_exchanges rfl, show startE 3 [.int i, d] = [some (.int i), some d, none] from rfl]
  unfold k75_b__law_are_exchanges
  rcases dm_cases h with ⟨j, rfl⟩ | ⟨s, rfl⟩ | ⟨ds, m, rfl, rfl, h1, h2⟩
  · rfl
  · rfl
  · have hb : ∀ x ∈ ds, (match bindG [2] x ([] : Mem) (wipeE [some (.int i), some (.tup ds), none] [2]) with
        | some env1 => (exT ⟨C (k + 2), true⟩ .nope env1 []).bind fun t M => if t then (exE ⟨C (k + 2), true⟩ (.call "_law_is_exchange" (.cons (.var 0) (.cons (.var 2) .nil))) env1 M).bind fun y M => (match frz y with
          | some y => some (.ok (some y) M)
          | none => none) else some (.ok none M)
        | none => none) = some (.ok (some (.bl (lEx i x))) []) := fun x hx => by
      have hx' := dms_mem h1 x hx
      have v := dm_val hx'
      have hc := inv_val (M := []) (ds := [.int i, x]) (by simp [D.vals, v, D.val]) (l_exchange (k := k) (i := i) hx' hi) rfl
      simp only [bindG, wipeE, List.set, exT, exE, exEs, bind_ok, on_ok, obind_some, List.getElem?_cons_zero, List.getElem?_cons_succ, frzs, frz_int, frz_str, frz_tup, frz_bl, if_true, Bool.false_eq_true, if_false, lift1_some, liftB_some, Option.map_some, frz_val v, hc]
    simp only [exSs, exS, exT, exE, exEs, exI, bind_ok, on_ok, obind_some, List.getElem?_cons_zero, List.getElem?_cons_succ, frzs, frz_int, frz_str, frz_tup, frz_bl, if_true, Bool.false_eq_true, if_false, lift1_some, liftB_some, Option.map_some, isTs, tyOf, noCls, isB, List.all_cons, List.all_nil, Bool.and_self, List.any_cons, List.any_nil, Bool.or_self, Bool.or_false, wkSeq, seqOf, liftW, cmpD]
    rw [compL_map (F := fun x => .bl (lEx i x)) rfl hb]
    simp only [bind_ok, on_ok, obind_some, List.getElem?_cons_zero, List.getElem?_cons_succ, frzs, frz_int, frz_str, frz_tup, frz_bl, if_true, Bool.false_eq_true, if_false, lift1_some, liftB_some, Option.map_some]
    rw [if_pos (by rw [List.length_map]; exact h2)]
    simp only [bind_ok, on_ok, obind_some, List.getElem?_cons_zero, List.getElem?_cons_succ, frzs, frz_int, frz_str, frz_tup, frz_bl, if_true, Bool.false_eq_true, if_false, lift1_some, liftB_some, Option.map_some, mem_false, Bool.not_not, fin_rt, lExs]
theorem l_set {i : Int} (h : dm n d = true) : C (k + 2) "_law_is_set" [.int i, d] [] = some (.ok (.bl (isPS i d)) []) := by
  rw [C_s k75_l__law_is_set rfl, show startE 4 [.int i, d] = [some (.int i), some d, none, none] from rfl]
  unfold k75_b__law_is_set
  rcases dm_cases h with ⟨j, rfl⟩ | ⟨s, rfl⟩ | ⟨ds, m, rfl, rfl, h1, h2⟩
  · rfl
  · rfl
  · have hb : ∀ x ∈ ds, (match bindG [3] x ([] : Mem) (wipeE [some (.int i), some (.tup ds), none, none] [3]) with
        | some env1 => (exT ⟨C (k + 1), true⟩ .nope env1 []).bind fun t M => if t then (exE ⟨C (k + 1), true⟩ (.and (.call "_law_is_int" (.cons (.var 3) .nil)) (.and (.cmp .le (.c (.int 0)) (.var 3)) (.cmp .lt (.var 3) (.var 0)))) env1 M).bind fun y M => (match frz y with
          | some y => some (.ok (some y) M)
          | none => none) else some (.ok none M)
        | none => none) = some (.ok (some (.bl (below x i))) []) := fun x hx => by
      have hx' := dms_mem h1 x hx
      have v := dm_val hx'
      have hc := inv_val (M := []) (ds := [x]) (by simp [D.vals, v, D.val]) (l_int (k := k) hx') rfl
      simp only [bindG, wipeE, List.set, exT, exE, exEs, bind_ok, on_ok, obind_some, List.getElem?_cons_zero, List.getElem?_cons_succ, frzs, frz_int, frz_str, frz_tup, frz_bl, if_true, Bool.false_eq_true, if_false, lift1_some, liftB_some, Option.map_some, frz_val v, hc]
      rcases dm_cases hx' with ⟨j, rfl⟩ | ⟨s, rfl⟩ | ⟨es, q, rfl, rfl, _⟩
      · by_cases h0 : 0 ≤ j
        · simp only [isInt, cmpD, ordD, below, h0, decide_true, Bool.true_and, bind_ok, on_ok, obind_some, List.getElem?_cons_zero, List.getElem?_cons_succ, frzs, frz_int, frz_str, frz_tup, frz_bl, if_true, Bool.false_eq_true, if_false, lift1_some, liftB_some, Option.map_some]
        · simp only [isInt, cmpD, ordD, below, h0, decide_false, Bool.false_and, bind_ok, on_ok, obind_some, List.getElem?_cons_zero, List.getElem?_cons_succ, frzs, frz_int, frz_str, frz_tup, frz_bl, if_true, Bool.false_eq_true, if_false, lift1_some, liftB_some, Option.map_some]
      · rfl
      · rfl
    have bl : biD .len [.tup ds] ([] : Mem) = some (.int (ds.length : Int)) := rfl
    simp only [exSs, exS, exT, exE, exEs, exI, bind_ok, on_ok, obind_some, List.getElem?_cons_zero, List.getElem?_cons_succ, frzs, frz_int, frz_str, frz_tup, frz_bl, if_true, Bool.false_eq_true, if_false, lift1_some, liftB_some, Option.map_some, isTs, tyOf, noCls, isB, List.all_cons, List.all_nil, Bool.and_self, List.any_cons, List.any_nil, Bool.or_self, Bool.or_false, Bool.not_true, wkSeq, seqOf, liftW, cmpD, biHot, Bool.true_or, bl, bin_sub]
    rw [compL_map (F := fun x => .bl (below x i)) rfl hb]
    simp only [bind_ok, on_ok, obind_some, List.getElem?_cons_zero, List.getElem?_cons_succ, frzs, frz_int, frz_str, frz_tup, frz_bl, if_true, Bool.false_eq_true, if_false, lift1_some, liftB_some, Option.map_some]
    rw [if_pos (by rw [List.length_map]; exact h2)]
    simp only [bind_ok, on_ok, obind_some, List.getElem?_cons_zero, List.getElem?_cons_succ, frzs, frz_int, frz_str, frz_tup, frz_bl, if_true, Bool.false_eq_true, if_false, lift1_some, liftB_some, Option.map_some, mem_false, isPS]
    cases hall : ds.all (below · i) with
    | false => rfl
    | true =>
      have hint := all_int hall
      have hix : ∀ j : Nat, j < ds.length → idxD (.tup ds) (.int (j : Int)) ([] : Mem) = some (.int ((ds.map toI).getD j 0)) := fun j hj => by
        have e1 : ds[j]? = some (.int ((ds.map toI).getD j 0)) := by
          have := ints_eq hint
          rw [List.getD_eq_getElem?_getD, List.getElem?_map, List.getElem?_eq_getElem hj]
          have h3 := List.all_eq_true.mp hint _ (List.getElem_mem hj)
          show some ds[j] = some (.int (toI ds[j]))
          generalize ds[j] = z at h3
          cases z <;> first
            | (cases h3; done)
            | rfl
        have hl := dm_len h
        exact idx_nat e1 (by omega)
      have hbody : ∀ x ∈ rangeL 0 (ds.length - 1), (match bindG [2] x ([] : Mem) (wipeE [some (.int i), some (.tup ds), none, none] [2]) with
        | some env1 => (exT ⟨C (k + 1), true⟩ .nope env1 []).bind fun t M => if t then (exE ⟨C (k + 1), true⟩ (.cmp .lt (.idx (.var 1) (.var 2)) (.idx (.var 1) (.bin .add (.var 2) (.c (.int 1))))) env1 M).bind fun y M => (match frz y with
          | some y => some (.ok (some y) M)
          | none => none) else some (.ok none M)
        | none => none) = some (.ok (some (.bl (decide ((ds.map toI).getD (toI x).toNat 0 < (ds.map toI).getD ((toI x).toNat + 1) 0)))) []) := fun x hx => by
        rw [rangeL_map] at hx
        obtain ⟨j, hj, rfl⟩ := List.mem_map.mp hx
        have hj := List.mem_range.mp hj
        have e0 : (0 : Int) + (j : Int) = (j : Int) := by omega
        rw [e0]
        have e1 := hix j (by omega)
        have e2 := hix (j + 1) (by omega)
        have e3 : ((j : Int) + 1) = ((j + 1 : Nat) : Int) := by omega
        simp only [bindG, wipeE, List.set, exT, exE, exEs, bind_ok, on_ok, obind_some, List.getElem?_cons_zero, List.getElem?_cons_succ, frzs, frz_int, frz_str, frz_tup, frz_bl, if_true, Bool.false_eq_true, if_false, lift1_some, liftB_some, Option.map_some, e1, bin_add, e3, e2, cmpD, ordD, toI, Int.toNat_natCast]
        rfl
      have hr : wkRng (.int 0) (.int ((ds.length : Int) - 1)) = some ⟨rangeL 0 (ds.length - 1), still⟩ := by
        unfold wkRng
        dsimp only
        rw [if_pos (by unfold rngOk; simp; omega)]
        congr 2
        congr 1
        omega
      simp only [Bool.not_true, bind_ok, on_ok, obind_some, List.getElem?_cons_zero, List.getElem?_cons_succ, frzs, frz_int, frz_str, frz_tup, frz_bl, if_true, Bool.false_eq_true, if_false, lift1_some, liftB_some, Option.map_some, bl, bin_sub, hr, liftW]
      rw [compL_map (F := fun x => .bl (decide ((ds.map toI).getD (toI x).toNat 0 < (ds.map toI).getD ((toI x).toNat + 1) 0))) rfl hbody]
      simp only [bind_ok, on_ok, obind_some, List.getElem?_cons_zero, List.getElem?_cons_succ, frzs, frz_int, frz_str, frz_tup, frz_bl, if_true, Bool.false_eq_true, if_false, lift1_some, liftB_some, Option.map_some]
      rw [if_pos (by rw [List.length_map, rangeL_len]; omega)]
      simp only [bind_ok, on_ok, obind_some, List.getElem?_cons_zero, List.getElem?_cons_succ, frzs, frz_int, frz_str, frz_tup, frz_bl, if_true, Bool.false_eq_true, if_false, lift1_some, liftB_some, Option.map_some, mem_false, Bool.not_not, fin_rt, Bool.true_and]
      rw [rangeL_map, List.all_map]
      have e : ((List.range (ds.length - 1)).all ((fun x => decide ((ds.map toI).getD (toI x).toNat 0 < (ds.map toI).getD ((toI x).toNat + 1) 0)) ∘ fun (j : Nat) => D.int (0 + (j : Int)))) = ascR (ds.map toI) := by
        unfold ascR
        rw [List.length_map]
        congr 1
        funext j
        simp [toI]
      rw [e, ascR_eq]
end Z
end
section
set_option Elab.async false
set_option linter.all false
set_option maxRecDepth 100000
set_option maxHeartbeats 4000000
set_option autoImplicit false
namespace Z
open PySem
variable {k n : Nat} {M M1 : Mem} {d e r : D} {ds : List D}
theorem add_tl {a b : List D} (h : a.length + b.length ≤ 16777216) : binD .add (.tl a) (.fl b) M = some (.fl (a ++ b)) := by
  show (if a.length + b.length ≤ 16777216 then some (D.fl (a ++ b)) else none) = _
  rw [if_pos h]
def flatB : Ss := .cons (.asg (.name 1) (.bin .add (.var 1) (.bi .list (.cons (.var 2) .nil)))) .nil
theorem flat_step {g : G} {D0 : D} {acc es : List D} (h : acc.length + es.length ≤ 16777216) : exSs g flatB [some D0, some (.tl acc), some (.tup es)] [] = some (.nx [some D0, some (.tl (acc ++ es)), some (.tup es)] []) := by
  have bl : biD .list [.tup es] ([] : Mem) = some (.fl es) := rfl
  unfold flatB
  simp only [exSs, exS, exE, exEs, tgOk, bind_ok, on_ok, obind_some, List.getElem?_cons_zero, List.getElem?_cons_succ, frzs, frz_int, frz_str, frz_tup, frz_bl, if_true, Bool.false_eq_true, if_false, lift1_some, liftB_some, Option.map_some, biHot, Bool.true_or, bl, add_tl (M := []) h, frz_fl, List.set]
theorem flat_loop {D0 : D} {g : G} (wt : Mem → Bool) (hw : wt [] = true) : ∀ (l acc : List D) (z : Option D), (∀ x ∈ l, ∃ es, x = .tup es) → acc.length + (l.flatMap items).length ≤ 16777216 →
    ∃ z', forM wt (forB [2] (exSs g flatB)) l [some D0, some (.tl acc), z] [] = some (.nx [some D0, some (.tl (acc ++ l.flatMap items)), z'] [])
  | [], acc, z, _, _ => ⟨z, by
      rw [forM, if_pos hw, List.flatMap_nil, List.append_nil]⟩
  | x :: l, acc, z, hx, hl => by
    obtain ⟨es, rfl⟩ := hx x List.mem_cons_self
    rw [List.flatMap_cons, List.length_append] at hl
    have hl' : acc.length + es.length + (l.flatMap items).length ≤ 16777216 := by
      have : (items (.tup es)).length = es.length := rfl
      omega
    obtain ⟨z', h⟩ := flat_loop wt hw l (acc ++ es) (some (.tup es)) (fun y hy => hx y (List.mem_cons_of_mem _ hy)) (by rw [List.length_append]; exact hl')
    refine ⟨z', ?_⟩
    have step : forB [2] (exSs g flatB) (.tup es) [some D0, some (.tl acc), z] [] = some (.nx [some D0, some (.tl (acc ++ es)), some (.tup es)] []) := flat_step (by omega)
    rw [forM, if_pos hw, step, List.flatMap_cons, ← List.append_assoc]
    exact h
theorem l_flat (hd : ∀ x ∈ ds, ∃ es, x = .tup es) (hlen : (ds.flatMap items).length ≤ 16777216) : C (k + 1) "_law_flat" [.tup ds] [] = some (.ok (.tl (ds.flatMap items)) []) := by
  rw [C_s k75_l__law_flat rfl, show startE 3 [.tup ds] = [some (.tup ds), none, none] from rfl]
  have e : k75_b__law_flat = .cons (.asg (.name 1) (.lst .nil)) (.cons (.for_ [2] (.seq (.var 0)) flatB) (.cons (.ret (.var 1)) .nil)) := rfl
  rw [e]
  obtain ⟨z', h⟩ := flat_loop (D0 := .tup ds) (g := ⟨C k, true⟩) (watchOf (.tup ds) ds) rfl ds [] none hd (by simpa using hlen)
  rw [List.nil_append] at h
  simp only [exSs, exS, exE, exEs, exI, tgOk, bind_ok, on_ok, obind_some, List.getElem?_cons_zero, List.getElem?_cons_succ, frzs, frz_int, frz_str, frz_tup, frz_bl, if_true, Bool.false_eq_true, if_false, lift1_some, liftB_some, Option.map_some, wkSeq, seqOf, liftW]
  rw [if_pos (by decide)]
  simp only [bind_ok, on_ok, obind_some, List.getElem?_cons_zero, List.getElem?_cons_succ, frzs, frz_int, frz_str, frz_tup, frz_bl, if_true, Bool.false_eq_true, if_false, lift1_some, liftB_some, Option.map_some, frz_fl, List.set]
  rw [h]
  simp only [bind_ok, on_ok, obind_some, List.getElem?_cons_zero, List.getElem?_cons_succ, frzs, frz_int, frz_str, frz_tup, frz_bl, if_true, Bool.false_eq_true, if_false, lift1_some, liftB_some, Option.map_some, fin_rt]
end Z
end
section
set_option Elab.async false
set_option linter.all false
set_option maxRecDepth 100000
set_option maxHeartbeats 8000000
set_option autoImplicit false
namespace Z
open PySem
variable {k n : Nat} {M M1 : Mem} {d e r : D} {ds : List D}
/-! ### sorted rows of rows -/
def srtD (ds : List D) : List D := ds.mergeSort (PySem.W.dataLe false D.py)
def isIT : D → Bool
  | .tup (x :: l) => (x :: l).all isInt
  | _ => false
theorem isIT_ok (h : isIT d = true) : ∃ x l, d = .tup (x :: l) ∧ (x :: l).all isInt = true := by
  unfold isIT at h
  split at h
  · exact ⟨_, _, rfl, h⟩
  · cases h
theorem alike_ints : ∀ a b : List Int, PySem.W.alikeAll (a.map PyData.int) (b.map PyData.int) = true
  | [], _ => by simp [PySem.W.alikeAll]
  | _ :: _, [] => by simp [PySem.W.alikeAll]
  | x :: xs, y :: ys => by simp [PySem.W.alikeAll, PySem.W.alike, alike_ints xs ys]
theorem dep_ints (is : List Int) : PyData.depthAll (is.map PyData.int) = 0 := by
  induction is with
  | nil => simp [PyData.depthAll]
  | cons i l ih => simp [PyData.depthAll, PyData.depth, ih]
theorem it_py {x : D} (h : isIT x = true) : ∃ is : List Int, x = .tup (is.map D.int) ∧ x.py = .tuple (is.map PyData.int) ∧ x.plain = true := by
  obtain ⟨y, l, rfl, hl⟩ := isIT_ok h
  refine ⟨(y :: l).map toI, by rw [← ints_eq hl], ?_, ?_⟩
  · show PyData.tuple (D.pys (y :: l)) = _
    rw [← pys_int, ← ints_eq hl]
  · show D.plains (y :: l) = true
    rw [ints_eq hl]
    exact plains_int _
theorem it_all {l : List D} (h : l.all isIT = true) : D.plains l = true ∧ PyData.canLayAll0 (D.pys l) = true ∧ PyData.depthAll (D.pys l) ≤ 1 := by
  induction l with
  | nil => exact ⟨rfl, by simp [D.pys, PyData.canLayAll0], by simp [D.pys, PyData.depthAll]⟩
  | cons x l ih =>
    have h' := band (show (isIT x && l.all isIT) = true from h)
    obtain ⟨a1, a2, a3⟩ := ih h'.2
    obtain ⟨is, e1, e2, e3⟩ := it_py h'.1
    have s1 := shaped_ints is
    unfold SeqAt.shaped at s1
    have s2 := (band s1).1
    have s3 : PyData.canLayAll0 (is.map PyData.int) = true := by simpa [PyData.canLay0] using s2
    have s4 : PyData.depthAll (is.map PyData.int) = 0 := by
      clear e1 e2 s1 s2 s3
      induction is with
      | nil => simp [PyData.depthAll]
      | cons i l ih => simp [PyData.depthAll, PyData.depth, ih]
    refine ⟨by rw [D.plains, e3, a1]; rfl, ?_, ?_⟩
    · simp only [D.pys, PyData.canLayAll0, e2, PyData.canLay0, s3, a2, Bool.and_self]
    · simp only [D.pys, PyData.depthAll, e2, PyData.depth, s4]
      omega
theorem sort_tups (h : ds.all isIT = true) : sortD false ds = some (srtD ds) := by
  unfold sortD
  rw [if_pos]
  · rfl
  · obtain ⟨a1, _, _⟩ := it_all h
    have h1 : alikes ds = true := by
      unfold alikes
      refine List.all_eq_true.mpr fun a ha => List.all_eq_true.mpr fun b hb => ?_
      obtain ⟨i, _, e1, _⟩ := it_py (List.all_eq_true.mp h a ha)
      obtain ⟨j, _, e2, _⟩ := it_py (List.all_eq_true.mp h b hb)
      rw [e1, e2, PySem.W.alike]
      exact alike_ints i j
    have h2 : sortable ds = true := by
      unfold sortable
      rw [Bool.or_eq_true]
      left
      refine List.all_eq_true.mpr fun a ha => ?_
      obtain ⟨y, l, rfl, _⟩ := isIT_ok (List.all_eq_true.mp h a ha)
      rfl
    have h3 : depths ds = true := by
      unfold depths
      refine List.all_eq_true.mpr fun a ha => ?_
      obtain ⟨i, _, e1, _⟩ := it_py (List.all_eq_true.mp h a ha)
      rw [e1]
      have := dep_ints i
      exact decide_eq_true (by simp only [PyData.depth, this]; omega)
    rw [a1, h1, h2, h3]
    rfl
theorem srtD_it (h : ds.all isIT = true) : (srtD ds).all isIT = true := by
  refine List.all_eq_true.mpr fun x hx => ?_
  exact List.all_eq_true.mp h x ((List.mergeSort_perm ds (PySem.W.dataLe false D.py)).mem_iff.mp hx)
theorem view_it {l : List D} (h : l.all isIT = true) : viewS (.fl l) M = some (.list (D.pys l)) := by
  obtain ⟨a1, a2, a3⟩ := it_all h
  have hv : view (.fl l) M = some (.list (D.pys l)) := by
    unfold view
    dsimp only
    rw [show (D.fl l).plain = true from a1, if_pos rfl]
    rfl
  unfold viewS
  rw [hv]
  dsimp only
  rw [if_pos]
  unfold SeqAt.shaped
  simp only [PyData.canLay0, a2, PyData.depth, Bool.true_and]
  exact decide_eq_true (by omega)
theorem eq_it {a b : List D} (h : a.all isIT = true) (h' : b.all isIT = true) : eqD (.fl a) (.fl b) M = some (PyData.eqvAll (D.pys a) (D.pys b)) := by
  unfold eqD
  rw [view_it h, view_it h']
  simp only [PyData.eqv]
def lPart (i : Int) (d : D) : Bool := match d with
  | .tup ds => ds.all (isNP i) && (PyData.eqvAll (D.pys ds) (D.pys (srtD ds)) && decide (sortI (flatI ds) = rangeI i.toNat))
  | _ => false
theorem np_it {i : Int} (h : ds.all (isNP i) = true) : ds.all isIT = true := by
  refine List.all_eq_true.mpr fun x hx => ?_
  obtain ⟨y, l, rfl, hl, _⟩ := isNP_ok (List.all_eq_true.mp h x hx)
  exact hl
end Z
end
section
set_option Elab.async false
set_option linter.all false
set_option maxRecDepth 100000
set_option maxHeartbeats 8000000
set_option autoImplicit false
namespace Z
open PySem
variable {k n : Nat} {M M1 : Mem} {d e r : D} {ds : List D}
def lCol (i : Int) (d : D) : Bool := match d with
  | .tup ds => decide ((ds.length : Int) = i) && ds.all (below · 10)
  | _ => false
def lKind (i : Int) (s : Str) (w : D) : Bool := if s = "place" then below w i else if s = "set" then isPS i w else if s = "row" then isRowS i w else if s = "colours" then lCol i w else decide (s = "parts") && lPart i w
def lThing (i : Int) (d : D) : Bool := match d with
  | .tup [a, w] => (match a with
    | .str s => lKind i s w
    | _ => false)
  | _ => false
abbrev env6 (i : Int) (t a w : D) : Env := [some (.int i), some t, some a, some w, none, none]
theorem b_below {i : Int} {t a w x : D} (hx' : dm n x = true) (E0 : Env) (h0 : E0 = env6 i t a w) : (match bindG [5] x ([] : Mem) (wipeE E0 [5]) with
        | some env1 => (exT ⟨C (k + 3), true⟩ .nope env1 []).bind fun t M => if t then (exE ⟨C (k + 3), true⟩ (.and (.call "_law_is_int" (.cons (.var 5) .nil)) (.and (.cmp .le (.c (.int 0)) (.var 5)) (.cmp .lt (.var 5) (.var 0)))) env1 M).bind fun y M => (match frz y with
          | some y => some (.ok (some y) M)
          | none => none) else some (.ok none M)
        | none => none) = some (.ok (some (.bl (below x i))) []) := by
  subst h0
  have v := dm_val hx'
  have hc := inv_val (M := []) (ds := [x]) (by simp [D.vals, v, D.val]) (l_int (k := k + 2) hx') rfl
  simp only [bindG, wipeE, List.set, exT, exE, exEs, bind_ok, on_ok, obind_some, List.getElem?_cons_zero, List.getElem?_cons_succ, frzs, frz_int, frz_str, frz_tup, frz_bl, if_true, Bool.false_eq_true, if_false, lift1_some, liftB_some, Option.map_some, frz_val v, hc]
  rcases dm_cases hx' with ⟨j, rfl⟩ | ⟨s, rfl⟩ | ⟨es, q, rfl, rfl, _⟩
  · by_cases h0 : 0 ≤ j
    · simp only [isInt, cmpD, ordD, below, h0, decide_true, Bool.true_and, bind_ok, on_ok, obind_some, List.getElem?_cons_zero, List.getElem?_cons_succ, frzs, frz_int, frz_str, frz_tup, frz_bl, if_true, Bool.false_eq_true, if_false, lift1_some, liftB_some, Option.map_some]
    · simp only [isInt, cmpD, ordD, below, h0, decide_false, Bool.false_and, bind_ok, on_ok, obind_some, List.getElem?_cons_zero, List.getElem?_cons_succ, frzs, frz_int, frz_str, frz_tup, frz_bl, if_true, Bool.false_eq_true, if_false, lift1_some, liftB_some, Option.map_some]
  · rfl
  · rfl
theorem b_col {i : Int} {t a w x : D} (hx' : dm n x = true) (E0 : Env) (h0 : E0 = env6 i t a w) : (match bindG [5] x ([] : Mem) (wipeE E0 [5]) with
        | some env1 => (exT ⟨C (k + 3), true⟩ .nope env1 []).bind fun t M => if t then (exE ⟨C (k + 3), true⟩ (.and (.call "_law_is_int" (.cons (.var 5) .nil)) (.and (.cmp .le (.c (.int 0)) (.var 5)) (.cmp .le (.var 5) (.c (.int 9))))) env1 M).bind fun y M => (match frz y with
          | some y => some (.ok (some y) M)
          | none => none) else some (.ok none M)
        | none => none) = some (.ok (some (.bl (below x 10))) []) := by
  subst h0
  have v := dm_val hx'
  have hc := inv_val (M := []) (ds := [x]) (by simp [D.vals, v, D.val]) (l_int (k := k + 2) hx') rfl
  simp only [bindG, wipeE, List.set, exT, exE, exEs, bind_ok, on_ok, obind_some, List.getElem?_cons_zero, List.getElem?_cons_succ, frzs, frz_int, frz_str, frz_tup, frz_bl, if_true, Bool.false_eq_true, if_false, lift1_some, liftB_some, Option.map_some, frz_val v, hc]
  rcases dm_cases hx' with ⟨j, rfl⟩ | ⟨s, rfl⟩ | ⟨es, q, rfl, rfl, _⟩
  · have e : decide (j ≤ 9) = decide (j < 10) := decide_eq_decide.mpr (by omega)
    by_cases h0 : 0 ≤ j
    · simp only [isInt, cmpD, ordD, below, h0, decide_true, Bool.true_and, bind_ok, on_ok, obind_some, List.getElem?_cons_zero, List.getElem?_cons_succ, frzs, frz_int, frz_str, frz_tup, frz_bl, if_true, Bool.false_eq_true, if_false, lift1_some, liftB_some, Option.map_some, e]
    · simp only [isInt, cmpD, ordD, below, h0, decide_false, Bool.false_and, bind_ok, on_ok, obind_some, List.getElem?_cons_zero, List.getElem?_cons_succ, frzs, frz_int, frz_str, frz_tup, frz_bl, if_true, Bool.false_eq_true, if_false, lift1_some, liftB_some, Option.map_some]
  · rfl
  · rfl
theorem b_np {i : Int} {t a w x : D} (hx' : dm n x = true) (E0 : Env) (h0 : E0 = env6 i t a w) : (match bindG [4] x ([] : Mem) (wipeE E0 [4]) with
        | some env1 => (exT ⟨C (k + 3), true⟩ .nope env1 []).bind fun t M => if t then (exE ⟨C (k + 3), true⟩ (.and (.call "_law_is_set" (.cons (.var 0) (.cons (.var 4) .nil))) (.cmp .gt (.bi .len (.cons (.var 4) .nil)) (.c (.int 0)))) env1 M).bind fun y M => (match frz y with
          | some y => some (.ok (some y) M)
          | none => none) else some (.ok none M)
        | none => none) = some (.ok (some (.bl (isNP i x))) []) := by
  subst h0
  have v := dm_val hx'
  have hc := inv_val (M := []) (ds := [.int i, x]) (by simp [D.vals, v, D.val]) (l_set (k := k + 1) (i := i) hx') rfl
  simp only [bindG, wipeE, List.set, exT, exE, exEs, bind_ok, on_ok, obind_some, List.getElem?_cons_zero, List.getElem?_cons_succ, frzs, frz_int, frz_str, frz_tup, frz_bl, if_true, Bool.false_eq_true, if_false, lift1_some, liftB_some, Option.map_some, frz_val v, hc]
  rcases dm_cases hx' with ⟨j, rfl⟩ | ⟨s, rfl⟩ | ⟨es, q, rfl, rfl, _⟩
  · rfl
  · rfl
  · cases es with
    | nil => rfl
    | cons y l =>
      cases hps : isPS i (.tup (y :: l)) with
      | false =>
        simp only [isNP, hps]
        rfl
      | true =>
        have hl : (decide ((0 : Int) < ((l.length + 1 : Nat) : Int))) = true := decide_eq_true (by omega)
        simp only [isNP, hps, bind_ok, on_ok, obind_some, List.getElem?_cons_zero, List.getElem?_cons_succ, frzs, frz_int, frz_str, frz_tup, frz_bl, if_true, Bool.false_eq_true, if_false, lift1_some, liftB_some, Option.map_some, biHot, Bool.true_or, biD, lenD, seqOf, cmpD, ordD, List.length_cons, hl]
theorem flat_np {i : Int} : ∀ {es : List D}, es.all (isNP i) = true → es.flatMap items = (flatI es).map D.int
  | [], _ => rfl
  | x :: es, h => by
    have h' := band (show (isNP i x && es.all (isNP i)) = true from h)
    obtain ⟨y, l, rfl, hint, _⟩ := isNP_ok h'.1
    have ih := flat_np h'.2
    unfold flatI at ih ⊢
    rw [List.flatMap_cons, List.flatMap_cons, List.map_append, ih]
    congr 1
    exact ints_eq hint
theorem l_thing {i : Int} (h : dm n d = true) (hi : -4000 ≤ i ∧ i ≤ 4000) : C (k + 4) "_law_is_thing" [.int i, d] [] = some (.ok (.bl (lThing i d)) []) := by
  rw [C_s k75_l__law_is_thing rfl, show startE 6 [.int i, d] = [some (.int i), some d, none, none, none, none] from rfl]
  unfold k75_b__law_is_thing
  rcases dm_cases h with ⟨j, rfl⟩ | ⟨s, rfl⟩ | ⟨ds, m, rfl, rfl, h1, h2⟩
  · rfl
  · rfl
  · have v := dm_val h
    have bl : biD .len [.tup ds] ([] : Mem) = some (.int (ds.length : Int)) := rfl
    simp only [exSs, exS, exT, exE, exEs, exI, bind_ok, on_ok, obind_some, List.getElem?_cons_zero, List.getElem?_cons_succ, frzs, frz_int, frz_str, frz_tup, frz_bl, if_true, Bool.false_eq_true, if_false, lift1_some, liftB_some, Option.map_some, isTs, tyOf, noCls, isB, List.all_cons, List.all_nil, Bool.and_self, List.any_cons, List.any_nil, Bool.or_self, Bool.or_false, Bool.not_true, biHot, Bool.true_or, bl, cmpD, eq_int]
    match ds, h, h1, v, bl with
    | [], _, _, _, _ => rfl
    | [z], _, _, _, _ => rfl
    | z1 :: z2 :: z3 :: l, _, _, _, _ =>
      have e : (decide (((z1 :: z2 :: z3 :: l).length : Int) = 2)) = false := by
        simp only [List.length_cons]
        exact decide_eq_false (by omega)
      simp only [e, Bool.not_false, bind_ok, on_ok, obind_some, List.getElem?_cons_zero, List.getElem?_cons_succ, frzs, frz_int, frz_str, frz_tup, frz_bl, if_true, Bool.false_eq_true, if_false, lift1_some, liftB_some, Option.map_some]
      rfl
    | [a, w], h, h1, v, _ =>
      have ha := dms_mem h1 a List.mem_cons_self
      have hw := dms_mem h1 w (List.mem_cons_of_mem _ List.mem_cons_self)
      have vw := dm_val hw
      have e : (decide ((([a, w] : List D).length : Int) = 2)) = true := rfl
      have i0 : idxD (.tup [a, w]) (.int 0) ([] : Mem) = some a := idx_nat (j := 0) rfl (by decide)
      simp only [e, Bool.not_true, bind_ok, on_ok, obind_some, List.getElem?_cons_zero, List.getElem?_cons_succ, frzs, frz_int, frz_str, frz_tup, frz_bl, if_true, Bool.false_eq_true, if_false, lift1_some, liftB_some, Option.map_some, i0]
      rcases dm_cases ha with ⟨j, rfl⟩ | ⟨s, rfl⟩ | ⟨es, q, rfl, rfl, _⟩
      · rfl
      · obtain ⟨hs, _⟩ := dm_str ha
        simp only [isTs, tyOf, noCls, isB, List.all_cons, List.all_nil, Bool.and_self, List.any_cons, List.any_nil, Bool.or_self, Bool.or_false, Bool.not_true, bind_ok, on_ok, obind_some, List.getElem?_cons_zero, List.getElem?_cons_succ, frzs, frz_int, frz_str, frz_tup, frz_bl, if_true, Bool.false_eq_true, if_false, lift1_some, liftB_some, Option.map_some, tgOk, bindG, bindT, List.set, lThing, lKind]
        rw [eq_str hs (sh "place")]
        by_cases k1 : s = "place"
        · have c := inv_val (M := []) (ds := [w]) (by simp [D.vals, vw, D.val]) (l_int (k := k + 2) hw) rfl
          simp only [k1, decide_true, bind_ok, on_ok, obind_some, List.getElem?_cons_zero, List.getElem?_cons_succ, frzs, frz_int, frz_str, frz_tup, frz_bl, if_true, Bool.false_eq_true, if_false, lift1_some, liftB_some, Option.map_some, frz_val vw, c]
          rcases dm_cases hw with ⟨j, rfl⟩ | ⟨s, rfl⟩ | ⟨es, q, rfl, rfl, _⟩
          · by_cases h0 : 0 ≤ j
            · simp only [isInt, cmpD, ordD, below, h0, decide_true, Bool.true_and, bind_ok, on_ok, obind_some, List.getElem?_cons_zero, List.getElem?_cons_succ, frzs, frz_int, frz_str, frz_tup, frz_bl, if_true, Bool.false_eq_true, if_false, lift1_some, liftB_some, Option.map_some, fin_rt]
            · simp only [isInt, cmpD, ordD, below, h0, decide_false, Bool.false_and, bind_ok, on_ok, obind_some, List.getElem?_cons_zero, List.getElem?_cons_succ, frzs, frz_int, frz_str, frz_tup, frz_bl, if_true, Bool.false_eq_true, if_false, lift1_some, liftB_some, Option.map_some, fin_rt]
          · rfl
          · rfl
        · simp only [k1, decide_false, bind_ok, on_ok, obind_some, List.getElem?_cons_zero, List.getElem?_cons_succ, frzs, frz_int, frz_str, frz_tup, frz_bl, if_true, Bool.false_eq_true, if_false, lift1_some, liftB_some, Option.map_some]
          rw [eq_str hs (sh "set")]
          by_cases k2 : s = "set"
          · have c := inv_val (M := []) (ds := [.int i, w]) (by simp [D.vals, vw, D.val]) (l_set (k := k + 1) (i := i) hw) rfl
            simp only [k2, decide_true, bind_ok, on_ok, obind_some, List.getElem?_cons_zero, List.getElem?_cons_succ, frzs, frz_int, frz_str, frz_tup, frz_bl, if_true, Bool.false_eq_true, if_false, lift1_some, liftB_some, Option.map_some, frz_val vw, c, fin_rt]
          · simp only [k2, decide_false, bind_ok, on_ok, obind_some, List.getElem?_cons_zero, List.getElem?_cons_succ, frzs, frz_int, frz_str, frz_tup, frz_bl, if_true, Bool.false_eq_true, if_false, lift1_some, liftB_some, Option.map_some]
            rw [eq_str hs (sh "row")]
            by_cases k3 : s = "row"
            · simp only [k3, decide_true, bind_ok, on_ok, obind_some, List.getElem?_cons_zero, List.getElem?_cons_succ, frzs, frz_int, frz_str, frz_tup, frz_bl, if_true, Bool.false_eq_true, if_false, lift1_some, liftB_some, Option.map_some]
              rcases dm_cases hw with ⟨j, rfl⟩ | ⟨s, rfl⟩ | ⟨es, q, rfl, rfl, he, he2⟩
              · rfl
              · rfl
              · simp only [isTs, tyOf, noCls, isB, List.all_cons, List.all_nil, Bool.and_self, List.any_cons, List.any_nil, Bool.or_self, Bool.or_false, Bool.not_true, bind_ok, on_ok, obind_some, List.getElem?_cons_zero, List.getElem?_cons_succ, frzs, frz_int, frz_str, frz_tup, frz_bl, if_true, Bool.false_eq_true, if_false, lift1_some, liftB_some, Option.map_some, wkSeq, seqOf, liftW]
                rw [compL_map (F := fun x => .bl (below x i)) rfl fun x hx => b_below (i := i) (t := .tup [.str "row", .tup es]) (a := .str "row") (w := .tup es) (dms_mem he x hx) _ rfl]
                simp only [bind_ok, on_ok, obind_some, List.getElem?_cons_zero, List.getElem?_cons_succ, frzs, frz_int, frz_str, frz_tup, frz_bl, if_true, Bool.false_eq_true, if_false, lift1_some, liftB_some, Option.map_some]
                rw [if_pos (by rw [List.length_map]; exact he2)]
                simp only [bind_ok, on_ok, obind_some, List.getElem?_cons_zero, List.getElem?_cons_succ, frzs, frz_int, frz_str, frz_tup, frz_bl, if_true, Bool.false_eq_true, if_false, lift1_some, liftB_some, Option.map_some, mem_false, isRowS]
                cases hb : es.all (below · i) with
                | false => rfl
                | true =>
                  have hz : es.length ≤ 4000 := Nat.le_trans (dm_len hw) (by decide)
                  simp only [Bool.not_true, bind_ok, on_ok, obind_some, List.getElem?_cons_zero, List.getElem?_cons_succ, frzs, frz_int, frz_str, frz_tup, frz_bl, if_true, Bool.false_eq_true, if_false, lift1_some, liftB_some, Option.map_some, biHot, Bool.or_true, Bool.true_or, biD, hz, intL_map (all_int hb), lenD, seqOf, List.length_map, eq_int, fin_rt, Bool.true_and, setLen]
                  rfl
            · simp only [k3, decide_false, bind_ok, on_ok, obind_some, List.getElem?_cons_zero, List.getElem?_cons_succ, frzs, frz_int, frz_str, frz_tup, frz_bl, if_true, Bool.false_eq_true, if_false, lift1_some, liftB_some, Option.map_some]
              rw [eq_str hs (sh "colours")]
              by_cases k4 : s = "colours"
              · simp only [k4, decide_true, bind_ok, on_ok, obind_some, List.getElem?_cons_zero, List.getElem?_cons_succ, frzs, frz_int, frz_str, frz_tup, frz_bl, if_true, Bool.false_eq_true, if_false, lift1_some, liftB_some, Option.map_some]
                rcases dm_cases hw with ⟨j, rfl⟩ | ⟨s, rfl⟩ | ⟨es, q, rfl, rfl, he, he2⟩
                · rfl
                · rfl
                · have be : biD .len [.tup es] ([] : Mem) = some (.int (es.length : Int)) := rfl
                  simp only [isTs, tyOf, noCls, isB, List.all_cons, List.all_nil, Bool.and_self, List.any_cons, List.any_nil, Bool.or_self, Bool.or_false, Bool.not_true, bind_ok, on_ok, obind_some, List.getElem?_cons_zero, List.getElem?_cons_succ, frzs, frz_int, frz_str, frz_tup, frz_bl, if_true, Bool.false_eq_true, if_false, lift1_some, liftB_some, Option.map_some, be, eq_int, lCol]
                  by_cases hl : (es.length : Int) = i
                  · simp only [hl, decide_true, Bool.not_true, bind_ok, on_ok, obind_some, List.getElem?_cons_zero, List.getElem?_cons_succ, frzs, frz_int, frz_str, frz_tup, frz_bl, if_true, Bool.false_eq_true, if_false, lift1_some, liftB_some, Option.map_some, wkSeq, seqOf, liftW, Bool.true_and]
                    rw [compL_map (F := fun x => .bl (below x 10)) rfl fun x hx => b_col (i := i) (t := .tup [.str "colours", .tup es]) (a := .str "colours") (w := .tup es) (dms_mem he x hx) _ rfl]
                    simp only [bind_ok, on_ok, obind_some, List.getElem?_cons_zero, List.getElem?_cons_succ, frzs, frz_int, frz_str, frz_tup, frz_bl, if_true, Bool.false_eq_true, if_false, lift1_some, liftB_some, Option.map_some]
                    rw [if_pos (by rw [List.length_map]; exact he2)]
                    simp only [bind_ok, on_ok, obind_some, List.getElem?_cons_zero, List.getElem?_cons_succ, frzs, frz_int, frz_str, frz_tup, frz_bl, if_true, Bool.false_eq_true, if_false, lift1_some, liftB_some, Option.map_some, mem_false, Bool.not_not, fin_rt]
                  · simp only [hl, decide_false, Bool.not_false, bind_ok, on_ok, obind_some, List.getElem?_cons_zero, List.getElem?_cons_succ, frzs, frz_int, frz_str, frz_tup, frz_bl, if_true, Bool.false_eq_true, if_false, lift1_some, liftB_some, Option.map_some, Bool.false_and]
                    rfl
              · simp only [k4, decide_false, bind_ok, on_ok, obind_some, List.getElem?_cons_zero, List.getElem?_cons_succ, frzs, frz_int, frz_str, frz_tup, frz_bl, if_true, Bool.false_eq_true, if_false, lift1_some, liftB_some, Option.map_some]
                rw [eq_str hs (sh "parts")]
                by_cases k5 : s = "parts"
                · simp only [k5, decide_true, bind_ok, on_ok, obind_some, List.getElem?_cons_zero, List.getElem?_cons_succ, frzs, frz_int, frz_str, frz_tup, frz_bl, if_true, Bool.false_eq_true, if_false, lift1_some, liftB_some, Option.map_some, Bool.not_true, Bool.true_and]
                  rcases dm_cases hw with ⟨j, rfl⟩ | ⟨s, rfl⟩ | ⟨es, q, rfl, rfl, he, he2⟩
                  · rfl
                  · rfl
                  · simp only [isTs, tyOf, noCls, isB, List.all_cons, List.all_nil, Bool.and_self, List.any_cons, List.any_nil, Bool.or_self, Bool.or_false, Bool.not_true, bind_ok, on_ok, obind_some, List.getElem?_cons_zero, List.getElem?_cons_succ, frzs, frz_int, frz_str, frz_tup, frz_bl, if_true, Bool.false_eq_true, if_false, lift1_some, liftB_some, Option.map_some, wkSeq, seqOf, liftW]
                    rw [compL_map (F := fun x => .bl (isNP i x)) rfl fun x hx => b_np (i := i) (t := .tup [.str "parts", .tup es]) (a := .str "parts") (w := .tup es) (dms_mem he x hx) _ rfl]
                    simp only [bind_ok, on_ok, obind_some, List.getElem?_cons_zero, List.getElem?_cons_succ, frzs, frz_int, frz_str, frz_tup, frz_bl, if_true, Bool.false_eq_true, if_false, lift1_some, liftB_some, Option.map_some]
                    rw [if_pos (by rw [List.length_map]; exact he2)]
                    simp only [bind_ok, on_ok, obind_some, List.getElem?_cons_zero, List.getElem?_cons_succ, frzs, frz_int, frz_str, frz_tup, frz_bl, if_true, Bool.false_eq_true, if_false, lift1_some, liftB_some, Option.map_some, mem_false, lPart]
                    cases hall : es.all (isNP i) with
                    | false => rfl
                    | true =>
                      have hit := np_it hall
                      have ht : ∀ x ∈ es, ∃ zs, x = .tup zs := fun x hx => by
                        obtain ⟨y, l, rfl, _⟩ := isNP_ok (List.all_eq_true.mp hall x hx)
                        exact ⟨_, rfl⟩
                      have hflat := flat_np hall
                      have b1 : biD .list [.tup es] ([] : Mem) = some (.fl es) := rfl
                      have b2 : biD .sorted [.tup es] ([] : Mem) = some (.fl (srtD es)) := by
                        show Option.bind (some es) (fun ds => (sortD false ds).map D.fl) = _
                        rw [Option.bind_some, sort_tups hit]
                        rfl
                      have fl := l_flat (k := k + 2) ht (by rw [hflat, List.length_map]; exact Nat.le_trans (flat_len hw) (by decide))
                      rw [hflat] at fl
                      have c := inv_val (M := []) (ds := [.tup es]) (by show (D.vals es && true) = true; rw [show D.vals es = true from vw]; rfl) fl (by show D.vals _ = true; exact vals_int _)
                      have b3 : biD .sorted [.tl ((flatI es).map D.int)] ([] : Mem) = some (.fl (srt (flatI es))) := by
                        show Option.bind (some ((flatI es).map D.int)) (fun ds => (sortD false ds).map D.fl) = _
                        rw [Option.bind_some, sort_ints]
                        rfl
                      have hr : biD .range [.int i] ([] : Mem) = some (.fl (rangeL 0 i.toNat)) := by
                        show (if decide (-(2 ^ 62) ≤ i) && decide (i ≤ 16777216) then some (D.fl (rangeL 0 i.toNat)) else none) = _
                        rw [if_pos (by simp; omega)]
                      simp only [Bool.not_true, Bool.false_or, bind_ok, on_ok, obind_some, List.getElem?_cons_zero, List.getElem?_cons_succ, frzs, frz_int, frz_str, frz_tup, frz_bl, if_true, Bool.false_eq_true, if_false, lift1_some, liftB_some, Option.map_some, b1, b2, cmpD, eq_it hit (srtD_it hit), Bool.true_and]
                      cases hq : PyData.eqvAll (D.pys es) (D.pys (srtD es)) with
                      | false => rfl
                      | true => simp only [Bool.false_or, bind_ok, on_ok, obind_some, List.getElem?_cons_zero, List.getElem?_cons_succ, frzs, frz_int, frz_str, frz_tup, frz_bl, if_true, Bool.false_eq_true, if_false, lift1_some, liftB_some, Option.map_some, c, b3, hr, eq_ints (a := sortI (flatI es)) (b := rangeI i.toNat) (d := .fl (srt (flatI es))) (e := .fl (rangeL 0 i.toNat)) (.inl (by rw [srt_eq])) (.inl (by rw [range_ints])), fin_rt, Bool.true_and]
                · simp only [k5, decide_false, bind_ok, on_ok, obind_some, List.getElem?_cons_zero, List.getElem?_cons_succ, frzs, frz_int, frz_str, frz_tup, frz_bl, if_true, Bool.false_eq_true, if_false, lift1_some, liftB_some, Option.map_some, Bool.not_false, Bool.false_and]
                  rfl
      · rfl
end Z
end
section
set_option Elab.async false
set_option linter.all false
set_option maxRecDepth 100000
set_option maxHeartbeats 8000000
set_option autoImplicit false
namespace Z
open PySem
variable {k n : Nat} {M M1 : Mem} {d e r : D} {ds : List D}
theorem mwl {s : Str} (ws : List Str) (hs : SeqAt.shaped (.str s) = true) (hw : SeqAt.shaped (.list (ws.map PyData.str)) = true := by decide +kernel) : memD (.str s) (.fl (ws.map D.str)) M = some (decide (s ∈ ws)) := (mem_words hs hw).2.2
def isWinL (d : D) (a : Int) : Bool := match d with
  | .int i => decide (a ≤ i)
  | _ => false
/-- what the law says of a claim's rest -/
def lRest (s : Str) (i : Int) (mk : List D) (rs : List D) : Bool :=
  if s ∈ (["tower", "stuck"] : List Str) then decide (rs = []) else
  if s ∈ (["in", "out"] : List Str) then (match rs with
    | [a] => lEx i a
    | _ => false) else
  if s ∈ (["same", "unlike", "normal", "broken"] : List Str) then (match rs with
    | [a] => lExs i a && decide ((items a).length ≤ 24)
    | _ => false) else
  if s = "order" then (match rs with
    | [a] => isWinL a 0
    | _ => false) else
  (match rs with
    | [a, b] => if s ∈ (["turned", "apart"] : List Str) then lEx i a && lEx i b else
        if s ∈ (["led", "unled"] : List Str) then lThing i a && (lThing i b && sameK a b) else
        if s ∈ (["map", "nomap"] : List Str) then (match a with
          | .int j => decide (1 ≤ j) && (decide (j ≤ 12) && (lExs j b && decide ((items b).length = mk.length)))
          | _ => false) else
        decide (s = "colourings") && (isWin a 1 9 && isWinL b 0)
    | _ => false)
def lClaim (d : D) : Bool := match d with
  | .tup (a :: b :: c :: rs) => decide (rs.length ≤ 2) && (match a with
    | .str s => (match b with
      | .int i => decide (1 ≤ i) && (decide (i ≤ 12) && (lExs i c && (decide ((items c).length ≤ 24) && lRest s i (items c) rs)))
      | _ => false)
    | _ => false)
  | _ => false
end Z
end
section
set_option Elab.async false
set_option linter.all false
set_option maxRecDepth 100000
set_option maxHeartbeats 8000000
set_option autoImplicit false
namespace Z
open PySem
variable {k n : Nat} {M M1 : Mem} {d e r : D} {ds : List D}
def k75_rest : Ss := (.cons (.ife (.cmp .mem (.var 1) (.lst (.cons (.c (.str "tower")) (.cons (.c (.str "stuck")) .nil)))) (.cons (.ret (.cmp .eq (.bi .len (.cons (.var 0) .nil)) (.c (.int (3))))) .nil) .nil) (.cons (.ife (.cmp .mem (.var 1) (.lst (.cons (.c (.str "in")) (.cons (.c (.str "out")) .nil)))) (.cons (.ret (.and (.cmp .eq (.bi .len (.cons (.var 0) .nil)) (.c (.int (4)))) (.call "_law_is_exchange" (.cons (.var 2) (.cons (.idx (.var 0) (.c (.int (3)))) .nil))))) .nil) .nil) (.cons (.ife (.cmp .mem (.var 1) (.lst (.cons (.c (.str "same")) (.cons (.c (.str "unlike")) (.cons (.c (.str "normal")) (.cons (.c (.str "broken")) .nil)))))) (.cons (.ret (.and (.cmp .eq (.bi .len (.cons (.var 0) .nil)) (.c (.int (4)))) (.and (.call "_law_are_exchanges" (.cons (.var 2) (.cons (.idx (.var 0) (.c (.int (3)))) .nil))) (.cmp .le (.bi .len (.cons (.idx (.var 0) (.c (.int (3)))) .nil)) (.c (.int (24))))))) .nil) .nil) (.cons (.ife (.cmp .eq (.var 1) (.c (.str "order"))) (.cons (.ret (.and (.cmp .eq (.bi .len (.cons (.var 0) .nil)) (.c (.int (4)))) (.and (.call "_law_is_int" (.cons (.idx (.var 0) (.c (.int (3)))) .nil)) (.cmp .le (.c (.int (0))) (.idx (.var 0) (.c (.int (3)))))))) .nil) .nil) (.cons (.ife (.cmp .ne (.bi .len (.cons (.var 0) .nil)) (.c (.int (5)))) (.cons (.ret (.c (.bl false))) .nil) .nil) (.cons (.asg (.tup [4, 5]) (.sli (.var 0) (.c (.int (3))) .nope)) (.cons (.ife (.cmp .mem (.var 1) (.lst (.cons (.c (.str "turned")) (.cons (.c (.str "apart")) .nil)))) (.cons (.ret (.and (.call "_law_is_exchange" (.cons (.var 2) (.cons (.var 4) .nil))) (.call "_law_is_exchange" (.cons (.var 2) (.cons (.var 5) .nil))))) .nil) .nil) (.cons (.ife (.cmp .mem (.var 1) (.lst (.cons (.c (.str "led")) (.cons (.c (.str "unled")) .nil)))) (.cons (.ret (.and (.call "_law_is_thing" (.cons (.var 2) (.cons (.var 4) .nil))) (.and (.call "_law_is_thing" (.cons (.var 2) (.cons (.var 5) .nil))) (.cmp .eq (.idx (.var 4) (.c (.int (0)))) (.idx (.var 5) (.c (.int (0)))))))) .nil) .nil) (.cons (.ife (.cmp .mem (.var 1) (.lst (.cons (.c (.str "map")) (.cons (.c (.str "nomap")) .nil)))) (.cons (.asg (.name 6) (.and (.call "_law_is_int" (.cons (.var 4) .nil)) (.and (.cmp .le (.c (.int (1))) (.var 4)) (.cmp .le (.var 4) (.c (.int (12))))))) (.cons (.ret (.and (.var 6) (.and (.call "_law_are_exchanges" (.cons (.var 4) (.cons (.var 5) .nil))) (.cmp .eq (.bi .len (.cons (.var 5) .nil)) (.bi .len (.cons (.var 3) .nil)))))) .nil)) .nil) (.cons (.ret (.and (.cmp .eq (.var 1) (.c (.str "colourings"))) (.and (.call "_law_is_int" (.cons (.var 4) .nil)) (.and (.cmp .le (.c (.int (1))) (.var 4)) (.and (.cmp .le (.var 4) (.c (.int (9)))) (.and (.call "_law_is_int" (.cons (.var 5) .nil)) (.cmp .le (.c (.int (0))) (.var 5)))))))) .nil))))))))))
theorem claim_split : k75_b__law_is_claim = .cons (.ife (.or (.not (.isi (.var 0) [.tuple])) (.or (.cmp .lt (.bi .len (.cons (.var 0) .nil)) (.c (.int (3)))) (.or (.cmp .gt (.bi .len (.cons (.var 0) .nil)) (.c (.int (5)))) (.not (.isi (.idx (.var 0) (.c (.int (0)))) [.str]))))) (.cons (.ret (.c (.bl false))) .nil) .nil) (.cons (.asg (.tup [1, 2, 3]) (.sli (.var 0) .nope (.c (.int (3))))) (.cons (.ife (.or (.not (.call "_law_is_int" (.cons (.var 2) .nil))) (.or (.cmp .lt (.var 2) (.c (.int (1)))) (.or (.cmp .gt (.var 2) (.c (.int (12)))) (.or (.not (.call "_law_are_exchanges" (.cons (.var 2) (.cons (.var 3) .nil)))) (.cmp .gt (.bi .len (.cons (.var 3) .nil)) (.c (.int (24)))))))) (.cons (.ret (.c (.bl false))) .nil) .nil) k75_rest)) := rfl
def T0 (s : Str) (i : Int) (mk rs : List D) : D := .tup (.str s :: .int i :: .tup mk :: rs)
theorem len_t {s : Str} {i : Int} {mk rs : List D} : biD .len [T0 s i mk rs] ([] : Mem) = some (.int ((rs.length + 3 : Nat) : Int)) := rfl
theorem lThing_ok {i : Int} (h : lThing i d = true) : ∃ s w, d = .tup [.str s, w] := by
  unfold lThing at h
  split at h
  · split at h
    · exact ⟨_, _, rfl⟩
    · cases h
  · cases h
theorem l_rest {s : Str} {i : Int} {m : Nat} {mk rs : List D} (hs : SeqAt.shaped (.str s) = true) (hi : 1 ≤ i ∧ i ≤ 12) (hmk : D.vals mk = true) (h : dms m rs = true) (hl : rs.length ≤ 2) (hm : m ≤ 50) :
    fin (exSs ⟨C (k + 4), true⟩ k75_rest [some (T0 s i mk rs), some (.str s), some (.int i), some (.tup mk), none, none, none] []) = some (.ok (.bl (lRest s i mk rs)) []) := by
  have len_m : biD .len [.tup mk] ([] : Mem) = some (.int (mk.length : Int)) := rfl
  have m1 : memD (.str s) (.fl [.str "tower", .str "stuck"]) ([] : Mem) = some (decide (s ∈ (["tower", "stuck"] : List Str))) := mwl ["tower", "stuck"] hs
  have m2 : memD (.str s) (.fl [.str "same", .str "unlike", .str "normal", .str "broken"]) ([] : Mem) = some (decide (s ∈ (["same", "unlike", "normal", "broken"] : List Str))) := mwl ["same", "unlike", "normal", "broken"] hs
  have m3 : memD (.str s) (.fl [.str "in", .str "out"]) ([] : Mem) = some (decide (s ∈ (["in", "out"] : List Str))) := mwl ["in", "out"] hs
  have m4 : memD (.str s) (.fl [.str "turned", .str "apart"]) ([] : Mem) = some (decide (s ∈ (["turned", "apart"] : List Str))) := mwl ["turned", "apart"] hs
  have m5 : memD (.str s) (.fl [.str "led", .str "unled"]) ([] : Mem) = some (decide (s ∈ (["led", "unled"] : List Str))) := mwl ["led", "unled"] hs
  have m6 : memD (.str s) (.fl [.str "map", .str "nomap"]) ([] : Mem) = some (decide (s ∈ (["map", "nomap"] : List Str))) := mwl ["map", "nomap"] hs
  have sz : ∀ l : List D, l.length ≤ 7 → l.length ≤ 16777216 := fun l h => by omega
  unfold k75_rest lRest
  simp only [exSs, exS, exT, exE, exEs, bind_ok, on_ok, obind_some, List.getElem?_cons_zero, List.getElem?_cons_succ, frzs, frz_int, frz_str, frz_tup, frz_bl, if_true, Bool.false_eq_true, if_false, lift1_some, liftB_some, Option.map_some, biHot, Bool.true_or, len_t]
  rw [if_pos (sz _ (by decide))]
  simp only [bind_ok, on_ok, obind_some, List.getElem?_cons_zero, List.getElem?_cons_succ, frzs, frz_int, frz_str, frz_tup, frz_bl, if_true, Bool.false_eq_true, if_false, lift1_some, liftB_some, Option.map_some, cmpD, m1, eq_int]
  by_cases t1 : s ∈ (["tower", "stuck"] : List Str)
  · simp only [t1, decide_true, bind_ok, on_ok, obind_some, List.getElem?_cons_zero, List.getElem?_cons_succ, frzs, frz_int, frz_str, frz_tup, frz_bl, if_true, Bool.false_eq_true, if_false, lift1_some, liftB_some, Option.map_some, fin_rt]
    cases rs with
    | nil => rfl
    | cons a l =>
      simp only [len_t, eq_int, bind_ok, on_ok, obind_some, List.getElem?_cons_zero, List.getElem?_cons_succ, frzs, frz_int, frz_str, frz_tup, frz_bl, if_true, Bool.false_eq_true, if_false, lift1_some, liftB_some, Option.map_some]
      rw [show decide ((((a :: l).length + 3 : Nat) : Int) = 3) = false from decide_eq_false (by simp only [List.length_cons]; omega)]
      rfl
  · simp only [t1, decide_false, bind_ok, on_ok, obind_some, List.getElem?_cons_zero, List.getElem?_cons_succ, frzs, frz_int, frz_str, frz_tup, frz_bl, if_true, Bool.false_eq_true, if_false, lift1_some, liftB_some, Option.map_some]
    rw [if_pos (sz _ (by decide))]
    simp only [bind_ok, on_ok, obind_some, List.getElem?_cons_zero, List.getElem?_cons_succ, frzs, frz_int, frz_str, frz_tup, frz_bl, if_true, Bool.false_eq_true, if_false, lift1_some, liftB_some, Option.map_some, cmpD, m3]
    by_cases t2 : s ∈ (["in", "out"] : List Str)
    · simp only [t2, decide_true, bind_ok, on_ok, obind_some, List.getElem?_cons_zero, List.getElem?_cons_succ, frzs, frz_int, frz_str, frz_tup, frz_bl, if_true, Bool.false_eq_true, if_false, lift1_some, liftB_some, Option.map_some]
      match rs, h, hl with
      | [], _, _ => rfl
      | [a, b], _, _ => rfl
      | [a], h, _ =>
        have ha := (band (show (dm m a && dms m []) = true from h)).1
        have va := dm_val ha
        have i3 : idxD (T0 s i mk [a]) (.int 3) ([] : Mem) = some a := idx_nat (j := 3) rfl (by decide)
        have e : (decide (((([a] : List D).length + 3 : Nat) : Int) = 4)) = true := rfl
        have c := inv_val (M := []) (ds := [.int i, a]) (by simp [D.vals, va, D.val]) (l_exchange (k := k + 2) (i := i) ha (by omega)) rfl
        simp only [len_t, eq_int, e, bind_ok, on_ok, obind_some, List.getElem?_cons_zero, List.getElem?_cons_succ, frzs, frz_int, frz_str, frz_tup, frz_bl, if_true, Bool.false_eq_true, if_false, lift1_some, liftB_some, Option.map_some, i3, frz_val va, c, fin_rt]
    · simp only [t2, decide_false, bind_ok, on_ok, obind_some, List.getElem?_cons_zero, List.getElem?_cons_succ, frzs, frz_int, frz_str, frz_tup, frz_bl, if_true, Bool.false_eq_true, if_false, lift1_some, liftB_some, Option.map_some]
      rw [if_pos (sz _ (by decide))]
      simp only [bind_ok, on_ok, obind_some, List.getElem?_cons_zero, List.getElem?_cons_succ, frzs, frz_int, frz_str, frz_tup, frz_bl, if_true, Bool.false_eq_true, if_false, lift1_some, liftB_some, Option.map_some, cmpD, m2]
      by_cases t3 : s ∈ (["same", "unlike", "normal", "broken"] : List Str)
      · simp only [t3, decide_true, bind_ok, on_ok, obind_some, List.getElem?_cons_zero, List.getElem?_cons_succ, frzs, frz_int, frz_str, frz_tup, frz_bl, if_true, Bool.false_eq_true, if_false, lift1_some, liftB_some, Option.map_some]
        match rs, h, hl with
        | [], _, _ => rfl
        | [a, b], _, _ => rfl
        | [a], h, _ =>
          have ha := (band (show (dm m a && dms m []) = true from h)).1
          have va := dm_val ha
          have i3 : idxD (T0 s i mk [a]) (.int 3) ([] : Mem) = some a := idx_nat (j := 3) rfl (by decide)
          have e : (decide (((([a] : List D).length + 3 : Nat) : Int) = 4)) = true := rfl
          have c := inv_val (M := []) (ds := [.int i, a]) (by simp [D.vals, va, D.val]) (l_exchanges (k := k + 1) (i := i) ha (by omega)) rfl
          simp only [len_t, eq_int, e, bind_ok, on_ok, obind_some, List.getElem?_cons_zero, List.getElem?_cons_succ, frzs, frz_int, frz_str, frz_tup, frz_bl, if_true, Bool.false_eq_true, if_false, lift1_some, liftB_some, Option.map_some, i3, frz_val va, c]
          rcases dm_cases ha with ⟨j, rfl⟩ | ⟨s, rfl⟩ | ⟨es, q, rfl, rfl, _⟩
          · rfl
          · rfl
          · cases lExs i (.tup es) with
            | false => rfl
            | true =>
              have e2 : decide ((es.length : Int) ≤ 24) = decide (es.length ≤ 24) := decide_eq_decide.mpr (by omega)
              simp only [bind_ok, on_ok, obind_some, List.getElem?_cons_zero, List.getElem?_cons_succ, frzs, frz_int, frz_str, frz_tup, frz_bl, if_true, Bool.false_eq_true, if_false, lift1_some, liftB_some, Option.map_some, biD, lenD, seqOf, ordD, items, Bool.true_and, fin_rt, e2]
              rfl
      · simp only [t3, decide_false, bind_ok, on_ok, obind_some, List.getElem?_cons_zero, List.getElem?_cons_succ, frzs, frz_int, frz_str, frz_tup, frz_bl, if_true, Bool.false_eq_true, if_false, lift1_some, liftB_some, Option.map_some, eq_str hs (sh "order")]
        by_cases t4 : s = "order"
        · simp only [t4, decide_true, bind_ok, on_ok, obind_some, List.getElem?_cons_zero, List.getElem?_cons_succ, frzs, frz_int, frz_str, frz_tup, frz_bl, if_true, Bool.false_eq_true, if_false, lift1_some, liftB_some, Option.map_some]
          match rs, h, hl with
          | [], _, _ => rfl
          | [a, b], _, _ => rfl
          | [a], h, _ =>
            have ha := (band (show (dm m a && dms m []) = true from h)).1
            have va := dm_val ha
            have i3 : idxD (T0 "order" i mk [a]) (.int 3) ([] : Mem) = some a := idx_nat (j := 3) rfl (by decide)
            have e : (decide (((([a] : List D).length + 3 : Nat) : Int) = 4)) = true := rfl
            have c := inv_val (M := []) (ds := [a]) (by simp [D.vals, va, D.val]) (l_int (k := k + 3) ha) rfl
            simp only [len_t, eq_int, e, bind_ok, on_ok, obind_some, List.getElem?_cons_zero, List.getElem?_cons_succ, frzs, frz_int, frz_str, frz_tup, frz_bl, if_true, Bool.false_eq_true, if_false, lift1_some, liftB_some, Option.map_some, i3, frz_val va, c]
            rcases dm_cases ha with ⟨j, rfl⟩ | ⟨s, rfl⟩ | ⟨es, q, rfl, rfl, _⟩
            · simp only [isInt, ordD, isWinL, bind_ok, on_ok, obind_some, List.getElem?_cons_zero, List.getElem?_cons_succ, frzs, frz_int, frz_str, frz_tup, frz_bl, if_true, Bool.false_eq_true, if_false, lift1_some, liftB_some, Option.map_some, fin_rt]
            · rfl
            · rfl
        · simp only [t4, decide_false, bind_ok, on_ok, obind_some, List.getElem?_cons_zero, List.getElem?_cons_succ, frzs, frz_int, frz_str, frz_tup, frz_bl, if_true, Bool.false_eq_true, if_false, lift1_some, liftB_some, Option.map_some]
          match rs, h, hl with
          | [], _, _ => rfl
          | [a], _, _ => rfl
          | [a, b], h, _ =>
            have h2 := band (show (dm m a && dms m [b]) = true from h)
            have ha := h2.1
            have hb := (band (show (dm m b && dms m []) = true from h2.2)).1
            have va := dm_val ha
            have vb := dm_val hb
            have e : (decide (((([a, b] : List D).length + 3 : Nat) : Int) = 5)) = true := rfl
            have sl : sliD (T0 s i mk [a, b]) (some 3) none ([] : Mem) = some (.tup [a, b]) := rfl
            simp only [len_t, eq_int, e, Bool.not_true, bind_ok, on_ok, obind_some, List.getElem?_cons_zero, List.getElem?_cons_succ, frzs, frz_int, frz_str, frz_tup, frz_bl, if_true, Bool.false_eq_true, if_false, lift1_some, liftB_some, Option.map_some, optI, sl, tgOk, bindG, bindT, List.set]
            rw [if_pos (sz _ (by decide))]
            simp only [bind_ok, on_ok, obind_some, List.getElem?_cons_zero, List.getElem?_cons_succ, frzs, frz_int, frz_str, frz_tup, frz_bl, if_true, Bool.false_eq_true, if_false, lift1_some, liftB_some, Option.map_some, m4]
            by_cases t5 : s ∈ (["turned", "apart"] : List Str)
            · have c1 := inv_val (M := []) (ds := [.int i, a]) (by simp [D.vals, va, D.val]) (l_exchange (k := k + 2) (i := i) ha (by omega)) rfl
              have c2 := inv_val (M := []) (ds := [.int i, b]) (by simp [D.vals, vb, D.val]) (l_exchange (k := k + 2) (i := i) hb (by omega)) rfl
              simp only [t5, decide_true, bind_ok, on_ok, obind_some, List.getElem?_cons_zero, List.getElem?_cons_succ, frzs, frz_int, frz_str, frz_tup, frz_bl, if_true, Bool.false_eq_true, if_false, lift1_some, liftB_some, Option.map_some, frz_val va, frz_val vb, c1]
              cases lEx i a with
              | false => rfl
              | true => simp only [bind_ok, on_ok, obind_some, List.getElem?_cons_zero, List.getElem?_cons_succ, frzs, frz_int, frz_str, frz_tup, frz_bl, if_true, Bool.false_eq_true, if_false, lift1_some, liftB_some, Option.map_some, frz_val vb, c2, fin_rt, Bool.true_and]
            · simp only [t5, decide_false, bind_ok, on_ok, obind_some, List.getElem?_cons_zero, List.getElem?_cons_succ, frzs, frz_int, frz_str, frz_tup, frz_bl, if_true, Bool.false_eq_true, if_false, lift1_some, liftB_some, Option.map_some]
              rw [if_pos (sz _ (by decide))]
              simp only [bind_ok, on_ok, obind_some, List.getElem?_cons_zero, List.getElem?_cons_succ, frzs, frz_int, frz_str, frz_tup, frz_bl, if_true, Bool.false_eq_true, if_false, lift1_some, liftB_some, Option.map_some, m5]
              by_cases t6 : s ∈ (["led", "unled"] : List Str)
              · have c1 := inv_val (M := []) (ds := [.int i, a]) (by simp [D.vals, va, D.val]) (l_thing (k := k) (i := i) ha (by omega)) rfl
                have c2 := inv_val (M := []) (ds := [.int i, b]) (by simp [D.vals, vb, D.val]) (l_thing (k := k) (i := i) hb (by omega)) rfl
                simp only [t6, decide_true, bind_ok, on_ok, obind_some, List.getElem?_cons_zero, List.getElem?_cons_succ, frzs, frz_int, frz_str, frz_tup, frz_bl, if_true, Bool.false_eq_true, if_false, lift1_some, liftB_some, Option.map_some, frz_val va, frz_val vb, c1]
                cases hta : lThing i a with
                | false => rfl
                | true =>
                  simp only [bind_ok, on_ok, obind_some, List.getElem?_cons_zero, List.getElem?_cons_succ, frzs, frz_int, frz_str, frz_tup, frz_bl, if_true, Bool.false_eq_true, if_false, lift1_some, liftB_some, Option.map_some, frz_val vb, c2, Bool.true_and]
                  cases htb : lThing i b with
                  | false => rfl
                  | true =>
                    obtain ⟨sa, wa, rfl⟩ := lThing_ok hta
                    obtain ⟨sb, wb, rfl⟩ := lThing_ok htb
                    have j0 : idxD (.tup [.str sa, wa]) (.int 0) ([] : Mem) = some (.str sa) := idx_nat (j := 0) rfl (by decide)
                    have j1 : idxD (.tup [.str sb, wb]) (.int 0) ([] : Mem) = some (.str sb) := idx_nat (j := 0) rfl (by decide)
                    have q := m
                    have da : dm m (.str sa) = true := by
                      cases m with
                      | zero => cases ha
                      | succ q => 
                        have := dms_mem (band (show (dms q [.str sa, wa] && decide _) = true from ha)).1 (.str sa) List.mem_cons_self
                        cases q <;> exact this
                    have db : dm m (.str sb) = true := by
                      cases m with
                      | zero => cases hb
                      | succ q => 
                        have := dms_mem (band (show (dms q [.str sb, wb] && decide _) = true from hb)).1 (.str sb) List.mem_cons_self
                        cases q <;> exact this
                    simp only [bind_ok, on_ok, obind_some, List.getElem?_cons_zero, List.getElem?_cons_succ, frzs, frz_int, frz_str, frz_tup, frz_bl, if_true, Bool.false_eq_true, if_false, lift1_some, liftB_some, Option.map_some, j0, j1, eq_dm da db (by omega), fin_rt, Bool.true_and, sameK, kindOf]
              · simp only [t6, decide_false, bind_ok, on_ok, obind_some, List.getElem?_cons_zero, List.getElem?_cons_succ, frzs, frz_int, frz_str, frz_tup, frz_bl, if_true, Bool.false_eq_true, if_false, lift1_some, liftB_some, Option.map_some]
                rw [if_pos (sz _ (by decide))]
                simp only [bind_ok, on_ok, obind_some, List.getElem?_cons_zero, List.getElem?_cons_succ, frzs, frz_int, frz_str, frz_tup, frz_bl, if_true, Bool.false_eq_true, if_false, lift1_some, liftB_some, Option.map_some, m6]
                by_cases t7 : s ∈ (["map", "nomap"] : List Str)
                · have c1 := inv_val (M := []) (ds := [a]) (by simp [D.vals, va, D.val]) (l_int (k := k + 3) ha) rfl
                  simp only [t7, decide_true, bind_ok, on_ok, obind_some, List.getElem?_cons_zero, List.getElem?_cons_succ, frzs, frz_int, frz_str, frz_tup, frz_bl, if_true, Bool.false_eq_true, if_false, lift1_some, liftB_some, Option.map_some, frz_val va, frz_val vb, c1]
                  rcases dm_cases ha with ⟨j, rfl⟩ | ⟨s, rfl⟩ | ⟨es, q, rfl, rfl, _⟩
                  · by_cases q1 : 1 ≤ j
                    · by_cases q2 : j ≤ 12
                      · have c2 := inv_val (M := []) (ds := [.int j, b]) (by simp [D.vals, vb, D.val]) (l_exchanges (k := k + 1) (i := j) hb (by omega)) rfl
                        simp only [isInt, ordD, q1, q2, decide_true, Bool.true_and, bind_ok, on_ok, obind_some, List.getElem?_cons_zero, List.getElem?_cons_succ, frzs, frz_int, frz_str, frz_tup, frz_bl, if_true, Bool.false_eq_true, if_false, lift1_some, liftB_some, Option.map_some, List.set, frz_val vb, c2]
                        rcases dm_cases hb with ⟨j', rfl⟩ | ⟨s, rfl⟩ | ⟨es, q, rfl, rfl, _⟩
                        · rfl
                        · rfl
                        · cases lExs j (.tup es) with
                          | false => rfl
                          | true =>
                            have e2 : decide ((es.length : Int) = (mk.length : Int)) = decide (es.length = mk.length) := decide_eq_decide.mpr (by omega)
                            simp only [bind_ok, on_ok, obind_some, List.getElem?_cons_zero, List.getElem?_cons_succ, frzs, frz_int, frz_str, frz_tup, frz_bl, if_true, Bool.false_eq_true, if_false, lift1_some, liftB_some, Option.map_some, biD, lenD, seqOf, eq_int, items, Bool.true_and, fin_rt, e2]
                            rfl
                      · simp only [isInt, ordD, q1, q2, decide_true, decide_false, Bool.true_and, Bool.false_and, bind_ok, on_ok, obind_some, List.getElem?_cons_zero, List.getElem?_cons_succ, frzs, frz_int, frz_str, frz_tup, frz_bl, if_true, Bool.false_eq_true, if_false, lift1_some, liftB_some, Option.map_some, List.set, fin_rt]
                    · simp only [isInt, ordD, q1, decide_true, decide_false, Bool.true_and, Bool.false_and, bind_ok, on_ok, obind_some, List.getElem?_cons_zero, List.getElem?_cons_succ, frzs, frz_int, frz_str, frz_tup, frz_bl, if_true, Bool.false_eq_true, if_false, lift1_some, liftB_some, Option.map_some, List.set, fin_rt]
                  · rfl
                  · rfl
                · simp only [t7, decide_false, bind_ok, on_ok, obind_some, List.getElem?_cons_zero, List.getElem?_cons_succ, frzs, frz_int, frz_str, frz_tup, frz_bl, if_true, Bool.false_eq_true, if_false, lift1_some, liftB_some, Option.map_some, eq_str hs (sh "colourings")]
                  by_cases t8 : s = "colourings"
                  · have c1 := inv_val (M := []) (ds := [a]) (by simp [D.vals, va, D.val]) (l_int (k := k + 3) ha) rfl
                    have c2 := inv_val (M := []) (ds := [b]) (by simp [D.vals, vb, D.val]) (l_int (k := k + 3) hb) rfl
                    simp only [t8, decide_true, bind_ok, on_ok, obind_some, List.getElem?_cons_zero, List.getElem?_cons_succ, frzs, frz_int, frz_str, frz_tup, frz_bl, if_true, Bool.false_eq_true, if_false, lift1_some, liftB_some, Option.map_some, frz_val va, frz_val vb, c1]
                    rcases dm_cases ha with ⟨j, rfl⟩ | ⟨s, rfl⟩ | ⟨es, q, rfl, rfl, _⟩
                    · by_cases q1 : 1 ≤ j
                      · by_cases q2 : j ≤ 9
                        · simp only [isInt, isWin, isWinL, ordD, q1, q2, decide_true, Bool.true_and, Bool.and_self, bind_ok, on_ok, obind_some, List.getElem?_cons_zero, List.getElem?_cons_succ, frzs, frz_int, frz_str, frz_tup, frz_bl, if_true, Bool.false_eq_true, if_false, lift1_some, liftB_some, Option.map_some, frz_val vb, c2]
                          rcases dm_cases hb with ⟨j', rfl⟩ | ⟨s, rfl⟩ | ⟨es, q, rfl, rfl, _⟩
                          · simp only [isInt, ordD, bind_ok, on_ok, obind_some, List.getElem?_cons_zero, List.getElem?_cons_succ, frzs, frz_int, frz_str, frz_tup, frz_bl, if_true, Bool.false_eq_true, if_false, lift1_some, liftB_some, Option.map_some, fin_rt]
                          · rfl
                          · rfl
                        · simp only [isInt, isWin, isWinL, ordD, q1, q2, decide_true, decide_false, Bool.true_and, Bool.false_and, Bool.and_false, bind_ok, on_ok, obind_some, List.getElem?_cons_zero, List.getElem?_cons_succ, frzs, frz_int, frz_str, frz_tup, frz_bl, if_true, Bool.false_eq_true, if_false, lift1_some, liftB_some, Option.map_some, fin_rt]
                      · simp only [isInt, isWin, isWinL, ordD, q1, decide_true, decide_false, Bool.true_and, Bool.false_and, bind_ok, on_ok, obind_some, List.getElem?_cons_zero, List.getElem?_cons_succ, frzs, frz_int, frz_str, frz_tup, frz_bl, if_true, Bool.false_eq_true, if_false, lift1_some, liftB_some, Option.map_some, fin_rt]
                    · rfl
                    · rfl
                  · simp only [t8, decide_false, bind_ok, on_ok, obind_some, List.getElem?_cons_zero, List.getElem?_cons_succ, frzs, frz_int, frz_str, frz_tup, frz_bl, if_true, Bool.false_eq_true, if_false, lift1_some, liftB_some, Option.map_some, fin_rt, Bool.false_and]
end Z
end
section
set_option Elab.async false
set_option linter.all false
set_option maxRecDepth 100000
set_option maxHeartbeats 8000000
set_option autoImplicit false
namespace Z
open PySem
variable {k n : Nat} {M M1 : Mem} {d e r : D} {ds : List D}
theorem truth_bl {b : Bool} : truth (.bl b) M = some b := rfl
theorem l_claim3 {m : Nat} {a b c : D} {rs : List D} (h1 : dms m (a :: b :: c :: rs) = true) (hl : rs.length ≤ 2) (hn : m ≤ 49) : fin (exSs ⟨C (k + 4), true⟩ k75_b__law_is_claim [some (.tup (a :: b :: c :: rs)), none, none, none, none, none, none] []) = some (.ok (.bl (lClaim (.tup (a :: b :: c :: rs)))) []) := by
  rw [claim_split]
  have bl : biD .len [.tup (a :: b :: c :: rs)] ([] : Mem) = some (.int ((a :: b :: c :: rs).length : Int)) := rfl
  have e1 : (decide (((a :: b :: c :: rs).length : Int) < 3)) = false := by
    simp only [List.length_cons]
    exact decide_eq_false (by omega)
  have e2 : (decide ((5 : Int) < ((a :: b :: c :: rs).length : Int))) = false := by
    simp only [List.length_cons]
    exact decide_eq_false (by omega)
  have a1 := band (show (dm m a && dms m (b :: c :: rs)) = true from h1)
  have a2 := band (show (dm m b && dms m (c :: rs)) = true from a1.2)
  have a3 := band (show (dm m c && dms m rs) = true from a2.2)
  have vb := dm_val a2.1
  have vc := dm_val a3.1
  have i0 : idxD (.tup (a :: b :: c :: rs)) (.int 0) ([] : Mem) = some a := idx_nat (j := 0) rfl (by decide)
  have sl : sliD (.tup (a :: b :: c :: rs)) none (some 3) ([] : Mem) = some (.tup [a, b, c]) := by
    show some (D.tup (cutD (a :: b :: c :: rs) none (some ((3 : Nat) : Int)))) = _
    unfold cutD
    rw [HT.sIx_nat, HT.sIx_none, Nat.min_eq_left (by simp only [List.length_cons]; omega)]
    rfl
  have d0 : decide (rs.length ≤ 2) = true := decide_eq_true hl
  simp only [exSs, exS, exT, exE, exEs, exI, bind_ok, on_ok, obind_some, List.getElem?_cons_zero, List.getElem?_cons_succ, frzs, frz_int, frz_str, frz_tup, frz_bl, if_true, Bool.false_eq_true, if_false, lift1_some, liftB_some, Option.map_some, truth_bl, isTs, tyOf, noCls, isB, List.all_cons, List.all_nil, Bool.and_self, List.any_cons, List.any_nil, Bool.or_self, Bool.or_false, Bool.not_true, biHot, Bool.true_or, bl, cmpD, ordD, e1, e2, i0]
  rcases dm_cases a1.1 with ⟨j, rfl⟩ | ⟨s, rfl⟩ | ⟨es, q, rfl, rfl, _⟩
  · simp only [lClaim, d0]
    rfl
  · have hs := (dm_str a1.1).1
    have c1 := inv_val (M := []) (ds := [b]) (by simp [D.vals, vb, D.val]) (l_int (k := k + 3) a2.1) rfl
    simp only [bind_ok, on_ok, obind_some, List.getElem?_cons_zero, List.getElem?_cons_succ, frzs, frz_int, frz_str, frz_tup, frz_bl, if_true, Bool.false_eq_true, if_false, lift1_some, liftB_some, Option.map_some, truth_bl, isTs, tyOf, noCls, isB, List.all_cons, List.all_nil, Bool.and_self, List.any_cons, List.any_nil, Bool.or_self, Bool.or_false, Bool.not_true, optI, sl, tgOk, bindG, bindT, List.set, frz_val vb, c1, lClaim, d0, Bool.true_and]
    rcases dm_cases a2.1 with ⟨j, rfl⟩ | ⟨s', rfl⟩ | ⟨es, q, rfl, rfl, _⟩
    · simp only [isInt, bind_ok, on_ok, obind_some, List.getElem?_cons_zero, List.getElem?_cons_succ, frzs, frz_int, frz_str, frz_tup, frz_bl, if_true, Bool.false_eq_true, if_false, lift1_some, liftB_some, Option.map_some, truth_bl, Bool.not_true]
      by_cases q1 : 1 ≤ j
      · by_cases q2 : j ≤ 12
        · have c2 := inv_val (M := []) (ds := [.int j, c]) (by simp [D.vals, vc, D.val]) (l_exchanges (k := k + 1) (i := j) a3.1 (by omega)) rfl
          have f1 : decide (j < 1) = false := decide_eq_false (by omega)
          have f2 : decide ((12 : Int) < j) = false := decide_eq_false (by omega)
          simp only [f1, f2, q1, q2, decide_true, bind_ok, on_ok, obind_some, List.getElem?_cons_zero, List.getElem?_cons_succ, frzs, frz_int, frz_str, frz_tup, frz_bl, if_true, Bool.false_eq_true, if_false, lift1_some, liftB_some, Option.map_some, truth_bl, frz_val vc, c2, Bool.true_and]
          cases hx : lExs j c with
          | false => rfl
          | true =>
            rcases dm_cases a3.1 with ⟨i', rfl⟩ | ⟨s', rfl⟩ | ⟨es, q, rfl, rfl, _⟩
            · cases hx
            · cases hx
            · have bl2 : biD .len [.tup es] ([] : Mem) = some (.int (es.length : Int)) := rfl
              simp only [Bool.not_true, bind_ok, on_ok, obind_some, List.getElem?_cons_zero, List.getElem?_cons_succ, frzs, frz_int, frz_str, frz_tup, frz_bl, if_true, Bool.false_eq_true, if_false, lift1_some, liftB_some, Option.map_some, truth_bl, bl2, Bool.true_and, items]
              by_cases q3 : es.length ≤ 24
              · have f3 : decide ((24 : Int) < (es.length : Int)) = false := decide_eq_false (by omega)
                have key := l_rest (k := k) (s := s) (i := j) (mk := es) (rs := rs) hs ⟨q1, q2⟩ vc a3.2 hl (by omega)
                simp only [f3, bind_ok, on_ok, obind_some, List.getElem?_cons_zero, List.getElem?_cons_succ, frzs, frz_int, frz_str, frz_tup, frz_bl, if_true, Bool.false_eq_true, if_false, lift1_some, liftB_some, Option.map_some, truth_bl, q3, decide_true, Bool.true_and]
                exact key
              · have f3 : decide ((24 : Int) < (es.length : Int)) = true := decide_eq_true (by omega)
                simp only [f3, bind_ok, on_ok, obind_some, List.getElem?_cons_zero, List.getElem?_cons_succ, frzs, frz_int, frz_str, frz_tup, frz_bl, if_true, Bool.false_eq_true, if_false, lift1_some, liftB_some, Option.map_some, truth_bl, q3, decide_false, Bool.false_and]
                rfl
        · have f1 : decide (j < 1) = false := decide_eq_false (by omega)
          have f2 : decide ((12 : Int) < j) = true := decide_eq_true (by omega)
          simp only [f1, f2, q1, q2, decide_true, decide_false, bind_ok, on_ok, obind_some, List.getElem?_cons_zero, List.getElem?_cons_succ, frzs, frz_int, frz_str, frz_tup, frz_bl, if_true, Bool.false_eq_true, if_false, lift1_some, liftB_some, Option.map_some, truth_bl, Bool.true_and, Bool.false_and]
          rfl
      · have f1 : decide (j < 1) = true := decide_eq_true (by omega)
        simp only [f1, q1, decide_true, decide_false, bind_ok, on_ok, obind_some, List.getElem?_cons_zero, List.getElem?_cons_succ, frzs, frz_int, frz_str, frz_tup, frz_bl, if_true, Bool.false_eq_true, if_false, lift1_some, liftB_some, Option.map_some, truth_bl, Bool.true_and, Bool.false_and]
        rfl
    · rfl
    · rfl
  · simp only [lClaim, d0]
    rfl
theorem l_claim (h : dm n d = true) (hn : n ≤ 50) : C (k + 5) "_law_is_claim" [d] [] = some (.ok (.bl (lClaim d)) []) := by
  rw [C_s k75_l__law_is_claim rfl, show startE 7 [d] = [some d, none, none, none, none, none, none] from rfl]
  rcases dm_cases h with ⟨j, rfl⟩ | ⟨s, rfl⟩ | ⟨ds, m, rfl, rfl, h1, h2⟩
  · rfl
  · rfl
  · have v := dm_val h
    have hlen := dm_len h
    have bl : biD .len [.tup ds] ([] : Mem) = some (.int (ds.length : Int)) := rfl
    match ds, h, h1, v, bl, hlen with
    | [], _, _, _, _, _ => rfl
    | [z], _, _, _, _, _ => rfl
    | [z, w], _, _, _, _, _ => rfl
    | a :: b :: c :: z1 :: z2 :: z3 :: l, _, _, _, bl, _ =>
      have e1 : (decide (((a :: b :: c :: z1 :: z2 :: z3 :: l).length : Int) < 3)) = false := by
        simp only [List.length_cons]
        exact decide_eq_false (by omega)
      have e2 : (decide ((5 : Int) < ((a :: b :: c :: z1 :: z2 :: z3 :: l).length : Int))) = true := by
        simp only [List.length_cons]
        exact decide_eq_true (by omega)
      have e : lClaim (.tup (a :: b :: c :: z1 :: z2 :: z3 :: l)) = false := by
        simp only [lClaim]
        rw [show decide ((z1 :: z2 :: z3 :: l).length ≤ 2) = false from decide_eq_false (by simp only [List.length_cons]; omega)]
        rfl
      rw [e, claim_split]
      simp only [exSs, exS, exT, exE, exEs, exI, bind_ok, on_ok, obind_some, List.getElem?_cons_zero, List.getElem?_cons_succ, frzs, frz_int, frz_str, frz_tup, frz_bl, if_true, Bool.false_eq_true, if_false, lift1_some, liftB_some, Option.map_some, truth_bl, isTs, tyOf, noCls, isB, List.all_cons, List.all_nil, Bool.and_self, List.any_cons, List.any_nil, Bool.or_self, Bool.or_false, Bool.not_true, biHot, Bool.true_or, bl, cmpD, ordD, e1, e2]
      rfl
    | [a, b, c], _, h1, _, _, _ => exact l_claim3 h1 (by decide) (by omega)
    | [a, b, c, x], _, h1, _, _, _ => exact l_claim3 h1 (Nat.le_succ _) (by omega)
    | [a, b, c, x, y], _, h1, _, _, _ => exact l_claim3 h1 (Nat.le_refl _) (by omega)
end Z
end
section
set_option Elab.async false
set_option linter.all false
set_option maxRecDepth 100000
set_option maxHeartbeats 4000000
set_option autoImplicit false
/-! The program's look at a claim and the law's are the same. -/
namespace Z
open PySem
/-! ### sorted numbers, as plain lists -/
theorem le_int (a b : Int) : PySem.W.dataLe false D.py (.int a) (.int b) = decide (a ≤ b) := by
  show (!(PyProof.Rows.lexLt PyProof.Rows.itemOrd [Sum.inl b] [Sum.inl a])) = _
  rw [PyProof.Rows.lex_cons]
  show (!(decide (b < a) || (!decide (a < b) && false))) = _
  rw [Bool.and_false, Bool.or_false, ← decide_not]
  exact decide_eq_decide.mpr Int.not_lt
theorem toI_int (l : List Int) : (l.map D.int).map toI = l := by
  induction l with
  | nil => rfl
  | cons a l ih =>
    rw [List.map_cons, List.map_cons, ih]
    rfl
theorem sortI_perm (l : List Int) : (sortI l).Perm l := by
  have h := (List.mergeSort_perm (l.map D.int) (PySem.W.dataLe false D.py)).map toI
  rw [toI_int] at h
  exact h
theorem totalLe : PySem.W.TotalLe (PySem.W.dataLe false D.py) := PySem.W.sortLe_total _ _ _
theorem sortI_sorted (l : List Int) : (sortI l).Pairwise (· ≤ ·) := by
  have h := List.pairwise_mergeSort (le := PySem.W.dataLe false D.py) (fun a b c => totalLe.trans a b c) (fun a b => by rcases totalLe.total a b with h | h <;> simp [h]) (l.map D.int)
  have e : (l.map D.int).mergeSort (PySem.W.dataLe false D.py) = (sortI l).map D.int := srt_eq l
  rw [e, List.pairwise_map] at h
  exact h.imp fun {a b} hab => of_decide_eq_true (by rw [← le_int]; exact hab)
theorem sortI_eq {l s : List Int} (h : l.Perm s) (hs : s.Pairwise (· ≤ ·)) : sortI l = s :=
  List.Perm.eq_of_pairwise (le := (· ≤ ·)) (fun a b _ _ h1 h2 => Int.le_antisymm h1 h2) (sortI_sorted l) hs ((sortI_perm l).trans h)
theorem rangeI_sorted (n : Nat) : (rangeI n).Pairwise (· ≤ ·) := by
  unfold rangeI
  rw [List.pairwise_map]
  exact List.pairwise_lt_range.imp fun {a b} h => by omega
theorem rangeI_nodup (n : Nat) : (rangeI n).Nodup := by
  unfold rangeI List.Nodup
  rw [List.pairwise_map]
  exact List.pairwise_lt_range.imp fun {a b} h => by omega
theorem mem_rangeI {n : Nat} {x : Int} : x ∈ rangeI n ↔ 0 ≤ x ∧ x < (n : Int) := by
  unfold rangeI
  rw [List.mem_map]
  constructor
  · rintro ⟨j, hj, rfl⟩
    have := List.mem_range.mp hj
    omega
  · intro h
    exact ⟨x.toNat, List.mem_range.mpr (by omega), by omega⟩
theorem rangeI_len (n : Nat) : (rangeI n).length = n := by
  unfold rangeI
  rw [List.length_map, List.length_range]
/-- distinct numbers below n, as many as n -/
theorem perm_range {l : List Int} {n : Nat} (hn : l.Nodup) (hb : ∀ x ∈ l, 0 ≤ x ∧ x < (n : Int)) (hl : l.length = n) : l.Perm (rangeI n) := by
  refine (List.perm_ext_iff_of_nodup hn (rangeI_nodup n)).mpr fun a => ⟨fun ha => mem_rangeI.mpr (hb a ha), fun ha => ?_⟩
  refine Classical.byContradiction fun hc => ?_
  have h1 : (a :: l).Nodup := List.nodup_cons.mpr ⟨hc, hn⟩
  have h2 : (a :: l) ⊆ rangeI n := fun x hx => by
    rcases List.mem_cons.mp hx with rfl | hx
    · exact ha
    · exact mem_rangeI.mpr (hb x hx)
  have h3 := List.Nodup.length_le_of_subset h1 h2
  rw [rangeI_len, List.length_cons] at h3
  omega
theorem sort_range {l : List Int} {n : Nat} : sortI l = rangeI n ↔ l.Perm (rangeI n) :=
  ⟨fun h => by rw [← h]; exact (sortI_perm l).symm, fun h => sortI_eq h (rangeI_sorted n)⟩
theorem mem_dedup {x : Int} : ∀ {l : List Int}, x ∈ dedupI l ↔ x ∈ l
  | [] => Iff.rfl
  | a :: l => by
    rw [dedupI, List.mem_cons, List.mem_cons, List.mem_filter, mem_dedup]
    by_cases h : x = a
    · simp [h]
    · simp [h]
theorem dedup_len : ∀ l : List Int, (dedupI l).length ≤ l.length
  | [] => Nat.le_refl _
  | a :: l => by
    rw [dedupI, List.length_cons, List.length_cons]
    have := dedup_len l
    have := List.length_filter_le (· != a) (dedupI l)
    omega
theorem dedup_nodup : ∀ {l : List Int}, (dedupI l).length = l.length ↔ l.Nodup
  | [] => by simp [dedupI]
  | a :: l => by
    rw [dedupI, List.length_cons, List.length_cons, List.nodup_cons, ← dedup_nodup (l := l)]
    have h1 := dedup_len l
    have h2 := List.length_filter_le (· != a) (dedupI l)
    constructor
    · intro h
      have e : ((dedupI l).filter (· != a)).length = (dedupI l).length := by omega
      refine ⟨fun ha => ?_, by omega⟩
      have h3 := List.length_filter_eq_length_iff.mp e a (mem_dedup.mpr ha)
      simp at h3
    · rintro ⟨h, h'⟩
      have e : ((dedupI l).filter (· != a)).length = (dedupI l).length := by
        refine List.length_filter_eq_length_iff.mpr fun x hx => ?_
        have : x ≠ a := fun z => h (by rw [← z]; exact mem_dedup.mp hx)
        simpa using this
      omega
theorem below_iff {d : D} {i : Int} : below d i = true ↔ ∃ j, d = .int j ∧ 0 ≤ j ∧ j < i := by
  constructor
  · intro h
    cases d <;> first
      | (cases h; done)
      | skip
    rename_i j
    have h' := band (show (decide (0 ≤ j) && decide (j < i)) = true from h)
    exact ⟨j, rfl, of_decide_eq_true h'.1, of_decide_eq_true h'.2⟩
  · rintro ⟨j, rfl, h1, h2⟩
    show (decide (0 ≤ j) && decide (j < i)) = true
    rw [decide_eq_true h1, decide_eq_true h2]
    rfl
theorem all_below {ds : List D} {i : Int} (h : ds.all isInt = true) : ds.all (below · i) = true ↔ ∀ x ∈ ds.map toI, 0 ≤ x ∧ x < i := by
  rw [List.all_eq_true]
  constructor
  · intro hb x hx
    obtain ⟨d, hd, rfl⟩ := List.mem_map.mp hx
    obtain ⟨j, rfl, h1⟩ := below_iff.mp (hb d hd)
    exact h1
  · intro hb d hd
    have hi := List.all_eq_true.mp h d hd
    cases d <;> first
      | (cases hi; done)
      | skip
    rename_i j
    exact below_iff.mpr ⟨j, rfl, hb j (List.mem_map.mpr ⟨_, hd, rfl⟩)⟩
/-! ### exchanges -/
/-- an exchange of i places: an arrangement of 0 .. i - 1 -/
theorem isEx_iff {i : Int} {ds : List D} : isEx i (.tup ds) = true ↔ (ds.length : Int) = i ∧ ds.all isInt = true ∧ (ds.map toI).Perm (rangeI i.toNat) := by
  have e : isEx i (.tup ds) = (decide ((ds.length : Int) = i) && (ds.all (below · i) && decide (setLen ds = i))) := rfl
  rw [e, Bool.and_eq_true, Bool.and_eq_true, decide_eq_true_iff, decide_eq_true_iff]
  refine and_congr_right fun hl => ?_
  have hi : i.toNat = ds.length := by omega
  constructor
  · rintro ⟨h1, h2⟩
    have h3 := all_int h1
    refine ⟨h3, perm_range (dedup_nodup.mp ?_) (fun x hx => ?_) (by rw [List.length_map, hi])⟩
    · unfold setLen at h2
      rw [List.length_map]
      omega
    · have := (all_below h3).mp h1 x hx
      omega
  · rintro ⟨h1, h2⟩
    refine ⟨(all_below h1).mpr fun x hx => ?_, ?_⟩
    · have := mem_rangeI.mp (h2.mem_iff.mp hx)
      omega
    · have h3 : (ds.map toI).Nodup := h2.nodup_iff.mpr (rangeI_nodup _)
      have h4 := dedup_nodup.mpr h3
      unfold setLen
      rw [List.length_map] at h4
      omega
theorem lEx_iff {i : Int} {ds : List D} : lEx i (.tup ds) = true ↔ (ds.length : Int) = i ∧ ds.all isInt = true ∧ (ds.map toI).Perm (rangeI i.toNat) := by
  have e : lEx i (.tup ds) = (decide ((ds.length : Int) = i) && (ds.all isInt && decide (sortI (ds.map toI) = rangeI i.toNat))) := rfl
  rw [e, Bool.and_eq_true, Bool.and_eq_true, decide_eq_true_iff, decide_eq_true_iff, sort_range]
theorem ex_same (i : Int) (d : D) : isEx i d = lEx i d := by
  cases d <;> first
    | rfl
    | (rw [Bool.eq_iff_iff, isEx_iff, lEx_iff]; done)
theorem exs_same (i : Int) (d : D) : isExs i d = lExs i d := by
  cases d <;> first
    | rfl
    | skip
  rename_i ds
  show ds.all (isEx i) = ds.all (lEx i)
  congr 1
  funext x
  exact ex_same i x
/-! ### partitions -/
theorem asc_iff : ∀ {l : List Int}, asc l = true ↔ l.Pairwise (· < ·)
  | [] => by simp [asc]
  | [a] => by simp [asc]
  | a :: b :: l => by
    rw [asc, List.pairwise_cons, Bool.and_eq_true, asc_iff (l := b :: l), decide_eq_true_iff]
    constructor
    · rintro ⟨h1, h2⟩
      refine ⟨fun x hx => ?_, h2⟩
      rcases List.mem_cons.mp hx with rfl | hx
      · exact h1
      · have := (List.pairwise_cons.mp h2).1 x hx
        omega
    · rintro ⟨h1, h2⟩
      exact ⟨h1 b List.mem_cons_self, h2⟩
theorem le_rows {x y : Int} {l m : List D} : (x < y → PySem.W.dataLe false D.py (.tup (.int x :: l)) (.tup (.int y :: m)) = true) ∧ (y < x → PySem.W.dataLe false D.py (.tup (.int x :: l)) (.tup (.int y :: m)) = false) := by
  have e : PySem.W.dataLe false D.py (.tup (.int x :: l)) (.tup (.int y :: m)) = !(decide (y < x) || (!decide (x < y) && PyProof.Rows.lexLt PyProof.Rows.itemOrd (PySem.W.keyToksAll (D.pys m)) (PySem.W.keyToksAll (D.pys l)))) := by
    show (!(PyProof.Rows.lexLt PyProof.Rows.itemOrd (Sum.inl 1 :: Sum.inl y :: PySem.W.keyToksAll (D.pys m)) (Sum.inl 1 :: Sum.inl x :: PySem.W.keyToksAll (D.pys l)))) = _
    rw [PyProof.Rows.lex_self, PyProof.Rows.lex_cons]
    rfl
  rw [e]
  constructor
  · intro h
    have h' : ¬ y < x := by omega
    simp [h, h']
  · intro h
    simp [h]
theorem eqvAll_it : ∀ {a b : List D}, a.all isIT = true → b.all isIT = true → (PyData.eqvAll (D.pys a) (D.pys b) = true ↔ a = b)
  | [], [], _, _ => by simp [D.pys, PyData.eqvAll]
  | [], y :: ys, _, _ => by simp [D.pys, PyData.eqvAll]
  | x :: xs, [], _, _ => by simp [D.pys, PyData.eqvAll]
  | x :: xs, y :: ys, h, h' => by
    have h1 := band (show (isIT x && xs.all isIT) = true from h)
    have h2 := band (show (isIT y && ys.all isIT) = true from h')
    obtain ⟨is, a1, a2, _⟩ := it_py h1.1
    obtain ⟨js, b1, b2, _⟩ := it_py h2.1
    have ih := eqvAll_it h1.2 h2.2
    simp only [D.pys, PyData.eqvAll, Bool.and_eq_true, ih, a2, b2, PyData.eqv, eqv_ints, decide_eq_true_iff, List.cons.injEq]
    refine and_congr_left fun _ => ?_
    rw [a1, b1, D.tup.injEq]
    refine ⟨fun z => by rw [z], fun z => ?_⟩
    have := congrArg (List.map toI) z
    rw [toI_int, toI_int] at this
    exact this
def fstI (d : D) : Int := toI (firstD d)
theorem firsts_sub {ds : List D} (h : ds.all isIT = true) : ∀ x ∈ ds.map fstI, x ∈ flatI ds := by
  intro x hx
  obtain ⟨d, hd, rfl⟩ := List.mem_map.mp hx
  obtain ⟨y, l, rfl, _⟩ := isIT_ok (List.all_eq_true.mp h d hd)
  unfold flatI
  exact List.mem_flatMap.mpr ⟨_, hd, List.mem_cons_self⟩
theorem firsts_nodup : ∀ {ds : List D}, ds.all isIT = true → (flatI ds).Nodup → (ds.map fstI).Nodup
  | [], _, _ => List.nodup_nil
  | d :: ds, h, hn => by
    have h1 := band (show (isIT d && ds.all isIT) = true from h)
    obtain ⟨y, l, rfl, _⟩ := isIT_ok h1.1
    have e : flatI (.tup (y :: l) :: ds) = toI y :: (l.map toI ++ flatI ds) := rfl
    rw [e, List.nodup_cons] at hn
    have hn2 := (List.nodup_append.mp hn.2).2.1
    rw [List.map_cons, List.nodup_cons]
    refine ⟨fun z => hn.1 ?_, firsts_nodup h1.2 hn2⟩
    exact List.mem_append.mpr (.inr (firsts_sub h1.2 _ z))
theorem int_first {d : D} (h : isIT d = true) : ∃ l, d = .tup (.int (fstI d) :: l) := by
  obtain ⟨y, l, rfl, hl⟩ := isIT_ok h
  have hy := (band (show (isInt y && l.all isInt) = true from hl)).1
  cases y <;> first
    | (cases hy; done)
    | exact ⟨l, rfl⟩
theorem part_same (i : Int) (d : D) : isPart i d = lPart i d := by
  cases d <;> first
    | rfl
    | skip
  rename_i ds
  show (ds.all (isNP i) && (asc (ds.map fstI) && decide (sortI (flatI ds) = rangeI i.toNat))) = (ds.all (isNP i) && (PyData.eqvAll (D.pys ds) (D.pys (srtD ds)) && decide (sortI (flatI ds) = rangeI i.toNat)))
  cases hn : ds.all (isNP i) with
  | false => rfl
  | true =>
    by_cases hs : sortI (flatI ds) = rangeI i.toNat
    · rw [Bool.true_and, Bool.true_and]
      congr 1
      have hit := np_it hn
      have hf : (flatI ds).Nodup := (sort_range.mp hs).nodup_iff.mpr (rangeI_nodup _)
      have hd := firsts_nodup hit hf
      rw [Bool.eq_iff_iff, asc_iff, eqvAll_it hit (srtD_it hit), List.pairwise_map]
      constructor
      · intro h
        refine (List.mergeSort_of_pairwise (h.imp_of_mem fun {a b} ha hb hab => ?_)).symm
        obtain ⟨l, e1⟩ := int_first (List.all_eq_true.mp hit a ha)
        obtain ⟨m, e2⟩ := int_first (List.all_eq_true.mp hit b hb)
        rw [e1, e2]
        exact le_rows.1 hab
      · intro h
        have hp := List.pairwise_mergeSort (le := PySem.W.dataLe false D.py) (fun a b c => totalLe.trans a b c) (fun a b => by rcases totalLe.total a b with h | h <;> simp [h]) ds
        have e : ds.mergeSort (PySem.W.dataLe false D.py) = ds := h.symm
        rw [e] at hp
        unfold List.Nodup at hd
        rw [List.pairwise_map] at hd
        refine (List.pairwise_and_iff.mpr ⟨hp, hd⟩).imp_of_mem fun {a b} ha hb hab => ?_
        obtain ⟨l, e1⟩ := int_first (List.all_eq_true.mp hit a ha)
        obtain ⟨m, e2⟩ := int_first (List.all_eq_true.mp hit b hb)
        have h1 := hab.1
        rw [e1, e2] at h1
        have h2 := hab.2
        refine Classical.byContradiction fun hc => ?_
        have h3 : fstI b < fstI a := by omega
        rw [le_rows.2 h3] at h1
        cases h1
    · simp only [decide_eq_false hs, Bool.and_false]
/-! ### things, claims -/
theorem col_same (i : Int) (d : D) : isCol i d = lCol i d := by
  cases d <;> first
    | rfl
    | exact Bool.and_comm _ _
theorem kind_same {i : Int} {s : Str} {w : D} : (decide (s ∈ kindWs) && jKind i s w) = lKind i s w := by
  unfold jKind lKind
  by_cases k1 : s = "place"
  · subst k1
    rfl
  · by_cases k2 : s = "set"
    · subst k2
      rfl
    · by_cases k3 : s = "row"
      · subst k3
        rfl
      · by_cases k4 : s = "colours"
        · subst k4
          exact col_same i _
        · rw [if_neg k1, if_neg k2, if_neg k3, if_neg k4, if_neg k1, if_neg k2, if_neg k3, if_neg k4, part_same]
          congr 1
          refine decide_eq_decide.mpr ?_
          unfold kindWs
          simp [k1, k2, k3, k4]
theorem thing_same (i : Int) (d : D) : jThing i d = lThing i d := by
  match d with
  | .tup [.str s, w] => exact kind_same
  | .tup [.non, w] => rfl
  | .tup [.bl _, w] => rfl
  | .tup [.int _, w] => rfl
  | .tup [.tup _, w] => rfl
  | .tup [.tl _, w] => rfl
  | .tup [.sc _, w] => rfl
  | .tup [.fl _, w] => rfl
  | .tup [.dc _ _, w] => rfl
  | .tup [.st _, w] => rfl
  | .tup [.ref _, w] => rfl
  | .tup [] => rfl
  | .tup [_] => rfl
  | .tup (_ :: _ :: _ :: _) => rfl
  | .non => rfl
  | .bl _ => rfl
  | .int _ => rfl
  | .str _ => rfl
  | .tl _ => rfl
  | .sc _ => rfl
  | .fl _ => rfl
  | .dc _ _ => rfl
  | .st _ => rfl
  | .ref _ => rfl
theorem win_same {n : Nat} {a : D} (h : dm n a = true) : isWin a 0 999999999999 = isWinL a 0 := by
  cases a <;> first
    | rfl
    | skip
  rename_i j
  have hj : j.natAbs ≤ 999999999999 := by
    cases n <;> exact of_decide_eq_true h
  show (decide (0 ≤ j) && decide (j ≤ 999999999999)) = decide (0 ≤ j)
  rw [show decide (j ≤ 999999999999) = true from decide_eq_true (by omega), Bool.and_true]
theorem rest_same {s : Str} {i : Int} {n : Nat} {mk rs : List D} (hr : dms n rs = true) (hw : s ∈ wordsC) : jRest s i mk rs = lRest s i mk rs := by
  have key : ∀ (l : List Str) (t : Str), s = t → t ∉ l → s ∉ l := fun l t e h => by
    rw [e]
    exact h
  unfold jRest lRest
  by_cases t1 : s ∈ (["tower", "stuck"] : List Str)
  · rw [if_pos t1, if_pos t1]
  · rw [if_neg t1, if_neg t1]
    by_cases t2 : s ∈ (["in", "out"] : List Str)
    · have t2' : s ∈ (["in", "out", "order", "same", "unlike", "normal", "broken"] : List Str) := by
        simp only [List.mem_cons, List.not_mem_nil, or_false] at t2 ⊢
        rcases t2 with t2 | t2 <;> simp [t2]
      rw [if_pos t2', if_pos t2]
      match rs with
      | [] => rfl
      | [a] => exact (if_pos t2).trans (ex_same i a)
      | _ :: _ :: _ => rfl
    · rw [if_neg t2]
      by_cases t3 : s ∈ (["same", "unlike", "normal", "broken"] : List Str)
      · have t3' : s ∈ (["in", "out", "order", "same", "unlike", "normal", "broken"] : List Str) ∧ s ≠ "order" := by
          simp only [List.mem_cons, List.not_mem_nil, or_false] at t3
          rcases t3 with t3 | t3 | t3 | t3 <;> subst t3 <;> decide +kernel
        rw [if_pos t3'.1, if_pos t3]
        match rs with
        | [] => rfl
        | _ :: _ :: _ => rfl
        | [a] =>
          refine (if_neg t2).trans ((if_neg t3'.2).trans ?_)
          cases a <;> first
            | rfl
            | skip
          rename_i ds
          show (ds.all (isEx i) && decide ((ds.length : Int) ≤ 24)) = (lExs i (.tup ds) && decide (ds.length ≤ 24))
          rw [← exs_same]
          show (ds.all (isEx i) && decide ((ds.length : Int) ≤ 24)) = (ds.all (isEx i) && decide (ds.length ≤ 24))
          congr 1
          exact decide_eq_decide.mpr (by omega)
      · rw [if_neg t3]
        by_cases t4 : s = "order"
        · subst t4
          rw [if_pos (show ("order" : Str) ∈ (["in", "out", "order", "same", "unlike", "normal", "broken"] : List Str) by decide +kernel), if_pos rfl]
          match rs, hr with
          | [], _ => rfl
          | _ :: _ :: _, _ => rfl
          | [a], hr =>
            refine (if_neg t2).trans ((if_pos rfl).trans ?_)
            exact win_same (band (show (dm n a && dms n []) = true from hr)).1
        · have t5 : s ∉ (["in", "out", "order", "same", "unlike", "normal", "broken"] : List Str) := by
            simp only [List.mem_cons, List.not_mem_nil, or_false, not_or] at t2 t3 ⊢
            exact ⟨t2.1, t2.2, t4, t3.1, t3.2.1, t3.2.2.1, t3.2.2.2⟩
          rw [if_neg t5, if_neg t4]
          match rs, hr with
          | [], _ => rfl
          | [_], _ => rfl
          | _ :: _ :: _ :: _, _ => rfl
          | [a, b], hr =>
            have hb := (band (show (dm n b && dms n []) = true from (band (show (dm n a && dms n [b]) = true from hr)).2)).1
            show (if s ∈ (["turned", "apart"] : List Str) then isEx i a && isEx i b else _) = (if s ∈ (["turned", "apart"] : List Str) then lEx i a && lEx i b else _)
            by_cases t6 : s ∈ (["turned", "apart"] : List Str)
            · rw [if_pos t6, if_pos t6, ex_same, ex_same]
            · rw [if_neg t6, if_neg t6]
              by_cases t7 : s ∈ (["led", "unled"] : List Str)
              · rw [if_pos t7, if_pos t7, thing_same, thing_same]
              · rw [if_neg t7, if_neg t7]
                by_cases t8 : s = "colourings"
                · subst t8
                  rw [if_pos rfl, if_neg (show ("colourings" : Str) ∉ (["map", "nomap"] : List Str) by decide +kernel), win_same hb]
                  rfl
                · have t9 : s ∈ (["map", "nomap"] : List Str) := by
                    unfold wordsC at hw
                    simp only [List.mem_cons, List.not_mem_nil, or_false, not_or] at t1 t5 t6 t7 hw ⊢
                    rcases hw with h | h | h | h | h | h | h | h | h | h | h | h | h | h | h | h <;> first
                      | exact .inl h
                      | exact .inr h
                      | exact absurd h t8
                      | exact absurd h t1.1
                      | exact absurd h t1.2
                      | exact absurd h t6.1
                      | exact absurd h t6.2
                      | exact absurd h t7.1
                      | exact absurd h t7.2
                      | exact absurd h t5.1
                      | exact absurd h t5.2.1
                      | exact absurd h t5.2.2.1
                      | exact absurd h t5.2.2.2.1
                      | exact absurd h t5.2.2.2.2.1
                      | exact absurd h t5.2.2.2.2.2.1
                      | exact absurd h t5.2.2.2.2.2.2
                  rw [if_neg t8, if_pos t9]
                  cases a <;> first
                    | rfl
                    | skip
                  rename_i j
                  show (decide (1 ≤ j) && (decide (j ≤ 12) && (isExs j b && _))) = (decide (1 ≤ j) && (decide (j ≤ 12) && (lExs j b && _)))
                  rw [exs_same]
theorem rest_no {s : Str} {i : Int} {mk rs : List D} (hw : s ∉ wordsC) : lRest s i mk rs = false := by
  unfold wordsC at hw
  simp only [List.mem_cons, List.not_mem_nil, or_false, not_or] at hw
  obtain ⟨h1, h2, h3, h4, h5, h6, h7, h8, h9, h10, h11, h12, h13, h14, h15, h16⟩ := hw
  unfold lRest
  rw [if_neg (by simp [h8, h9]), if_neg (by simp [h1, h2]), if_neg (by simp [h3, h4, h6, h7]), if_neg h5]
  match rs with
  | [] => rfl
  | [_] => rfl
  | _ :: _ :: _ :: _ => rfl
  | [a, b] =>
    show (if s ∈ (["turned", "apart"] : List Str) then _ else _) = false
    rw [if_neg (by simp [h10, h11]), if_neg (by simp [h12, h13]), if_neg (by simp [h14, h15]), decide_eq_false h16]
    rfl
theorem rest_len {s : Str} {i : Int} {mk rs : List D} (h : jRest s i mk rs = true) : rs.length ≤ 2 := by
  unfold jRest at h
  split at h
  · rw [of_decide_eq_true h]
    exact Nat.zero_le _
  · match rs, h with
    | [], _ => exact Nat.zero_le _
    | [_], _ => exact Nat.le_succ 1
    | [_, _], _ => exact Nat.le_refl 2
    | _ :: _ :: _ :: _, h =>
      split at h <;> cases h
theorem claim_same2 {n : Nat} {a b c : D} {rs : List D} (h : dm n (.tup (a :: b :: c :: rs)) = true) : jClaim (.tup (a :: b :: c :: rs)) = lClaim (.tup (a :: b :: c :: rs)) := by
  by_cases ha : ∃ s, a = .str s
  · obtain ⟨s, rfl⟩ := ha
    by_cases hb : ∃ i, b = .int i
    · obtain ⟨i, rfl⟩ := hb
      show (decide (s ∈ wordsC) && ((decide (1 ≤ i) && decide (i ≤ 12)) && (isMk i c && jRest s i (items c) rs))) = (decide (rs.length ≤ 2) && (decide (1 ≤ i) && (decide (i ≤ 12) && (lExs i c && (decide ((items c).length ≤ 24) && lRest s i (items c) rs)))))
      have hrs : ∃ m, dms m rs = true := by
        cases n with
        | zero => cases h
        | succ n =>
          have h1 := (band (show (dms n (.str s :: .int i :: c :: rs) && _) = true from h)).1
          exact ⟨n, (band (show (dm n c && dms n rs) = true from (band (show (dm n (.int i) && dms n (c :: rs)) = true from (band (show (dm n (.str s) && dms n (.int i :: c :: rs)) = true from h1)).2)).2)).2⟩
      obtain ⟨m, hrs⟩ := hrs
      have hmk : isMk i c = (lExs i c && decide ((items c).length ≤ 24)) := by
        cases c <;> first
          | rfl
          | skip
        rename_i ds
        show (ds.all (isEx i) && decide ((ds.length : Int) ≤ 24)) = (lExs i (.tup ds) && decide (ds.length ≤ 24))
        rw [← exs_same]
        show (ds.all (isEx i) && decide ((ds.length : Int) ≤ 24)) = (ds.all (isEx i) && decide (ds.length ≤ 24))
        congr 1
        exact decide_eq_decide.mpr (by omega)
      by_cases hw : s ∈ wordsC
      · rw [decide_eq_true hw, Bool.true_and, hmk]
        have e := rest_same (i := i) (mk := items c) hrs hw
        by_cases hl : rs.length ≤ 2
        · rw [decide_eq_true hl, e]
          cases decide (1 ≤ i) <;> cases decide (i ≤ 12) <;> cases lExs i c <;> cases decide ((items c).length ≤ 24) <;> rfl
        · have e2 : jRest s i (items c) rs = false := by
            cases hj : jRest s i (items c) rs with
            | false => rfl
            | true => exact absurd (rest_len hj) hl
          rw [decide_eq_false hl, e2, Bool.and_false, Bool.and_false]
          rfl
      · rw [decide_eq_false hw, rest_no hw]
        cases decide (rs.length ≤ 2) <;> cases decide (1 ≤ i) <;> cases decide (i ≤ 12) <;> cases lExs i c <;> cases decide ((items c).length ≤ 24) <;> rfl
    · have e1 : jClaim (.tup (.str s :: b :: c :: rs)) = false := by
        cases b <;> first
          | rfl
          | exact absurd ⟨_, rfl⟩ hb
      have e2 : lClaim (.tup (.str s :: b :: c :: rs)) = false := by
        cases b <;> first
          | exact Bool.and_false _
          | exact absurd ⟨_, rfl⟩ hb
      rw [e1, e2]
  · have e1 : jClaim (.tup (a :: b :: c :: rs)) = false := by
      cases a <;> first
        | rfl
        | exact absurd ⟨_, rfl⟩ ha
    have e2 : lClaim (.tup (a :: b :: c :: rs)) = false := by
      cases a <;> first
        | exact Bool.and_false _
        | exact absurd ⟨_, rfl⟩ ha
    rw [e1, e2]
theorem claim_same {n : Nat} {d : D} (h : dm n d = true) : jClaim d = lClaim d := by
  match d, h with
  | .tup [], _ => rfl
  | .tup [_], _ => rfl
  | .tup [_, _], _ => rfl
  | .non, _ => rfl
  | .bl _, _ => rfl
  | .int _, _ => rfl
  | .str _, _ => rfl
  | .tl _, _ => rfl
  | .sc _, _ => rfl
  | .fl _, _ => rfl
  | .dc _ _, _ => rfl
  | .st _, _ => rfl
  | .ref _, _ => rfl
  | .tup (a :: b :: c :: rs), h =>
    refine claim_same2 h
end Z
end
section
set_option Elab.async false
set_option linter.all false
set_option maxRecDepth 100000
set_option maxHeartbeats 1000000
set_option autoImplicit false
/-! What a run ends in, backwards: rules for each kind of expression and statement. E: what holds where it raises. -/
namespace Z.W0
open PySem
abbrev Ex := Str → List (Str × D) → Mem → Prop
abbrev noE : Ex := fun _ _ _ => False
/-- how a run over the memory ends -/
def wR {α : Type} (x : R α) (Q : α → Mem → Prop) (E : Ex) : Prop := match x with
  | none => False
  | some (.ok a M) => Q a M
  | some (.exc c p M) => E c p M
def wO (x : Option Fl) (Q : Fl → Prop) : Prop := match x with
  | none => False
  | some fl => Q fl
theorem wR.mono {α : Type} {x : R α} {Q Q' : α → Mem → Prop} {E E' : Ex} (h : wR x Q E) (hq : ∀ a M, Q a M → Q' a M) (he : ∀ c p M, E c p M → E' c p M) : wR x Q' E' := by
  match x, h with
  | some (.ok a M), h => exact hq a M h
  | some (.exc c p M), h => exact he c p M h
theorem wR.ok {α : Type} {x : R α} {Q : α → Mem → Prop} (h : wR x Q noE) : ∃ a M, x = some (.ok a M) ∧ Q a M := by
  match x, h with
  | some (.ok a M), h => exact ⟨a, M, rfl, h⟩
theorem wR.of {α : Type} {x : R α} {a : α} {M : Mem} {Q : α → Mem → Prop} {E : Ex} (e : x = some (.ok a M)) (h : Q a M) : wR x Q E := by
  rw [e]
  exact h
theorem wO.of {x : Option Fl} {fl : Fl} {Q : Fl → Prop} (e : x = some fl) (h : Q fl) : wO x Q := by
  rw [e]
  exact h
theorem wO.get {x : Option Fl} {Q : Fl → Prop} (h : wO x Q) : ∃ fl, x = some fl ∧ Q fl := by
  match x, h with
  | some fl, h => exact ⟨fl, rfl, h⟩
theorem wO.mono {x : Option Fl} {Q Q' : Fl → Prop} (h : wO x Q) (hq : ∀ fl, Q fl → Q' fl) : wO x Q' := by
  match x, h with
  | some fl, h => exact hq fl h
theorem wR_bind {α β : Type} {x : R α} {f : α → Mem → R β} {Q : β → Mem → Prop} {E : Ex} (h : wR x (fun a M => wR (f a M) Q E) E) : wR (x.bind f) Q E := by
  match x, h with
  | some (.ok a M), h => exact h
  | some (.exc c p M), h => exact h
theorem wO_onR {α : Type} {env : Env} {x : R α} {f : α → Mem → Option Fl} {Q : Fl → Prop} (h : wR x (fun a M => wO (f a M) Q) fun c p M => Q (.ex env c p M)) : wO (onR env x f) Q := by
  match x, h with
  | some (.ok a M), h => exact h
  | some (.exc c p M), h => exact h
def wE (g : G) (e : E) (env : Env) (M : Mem) (Q : D → Mem → Prop) (X : Ex) : Prop := wR (exE g e env M) Q X
def wT (g : G) (e : E) (env : Env) (M : Mem) (Q : Bool → Mem → Prop) (X : Ex) : Prop := wR (exT g e env M) Q X
def wEs (g : G) (e : Es) (env : Env) (M : Mem) (Q : List D → Mem → Prop) (X : Ex) : Prop := wR (exEs g e env M) Q X
def wI (g : G) (e : It) (env : Env) (M : Mem) (Q : Wk → Mem → Prop) (X : Ex) : Prop := wR (exI g e env M) Q X
def wS (g : G) (s : S) (env : Env) (M : Mem) (Q : Fl → Prop) : Prop := wO (exS g s env M) Q
def wSs (g : G) (s : Ss) (env : Env) (M : Mem) (Q : Fl → Prop) : Prop := wO (exSs g s env M) Q
variable {g : G} {env : Env} {M : Mem} {X : Ex}
section
variable {Q : D → Mem → Prop} {T : Bool → Mem → Prop}
theorem vE_c {d : D} (h : Q d M) : wE g (.c d) env M Q X := h
theorem vE_nope (h : Q .non M) : wE g .nope env M Q X := h
theorem vE_var {i : Nat} {d : D} (e : env[i]? = some (some d)) (h : Q d M) : wE g (.var i) env M Q X := by
  unfold wE
  rw [exE, e]
  exact h
theorem vE_bin {op : BOp} {a b : E} (h : wE g a env M (fun x M => wE g b env M (fun y M => ∃ r, binD op x y M = some r ∧ Q r M) X) X) : wE g (.bin op a b) env M Q X := by
  unfold wE
  rw [exE]
  refine wR_bind (wR.mono h (fun x M h => wR_bind (wR.mono h (fun y M h => ?_) fun _ _ _ h => h)) fun _ _ _ h => h)
  obtain ⟨r, e, h⟩ := h
  rw [e]
  exact h
theorem vE_neg {a : E} (h : wE g a env M (fun x M => ∃ i, x = .int i ∧ Q (.int (-i)) M) X) : wE g (.neg a) env M Q X := by
  unfold wE
  rw [exE]
  refine wR_bind (wR.mono h (fun x M h => ?_) fun _ _ _ h => h)
  obtain ⟨i, rfl, h⟩ := h
  exact h
theorem vE_cmp {op : COp} {a b : E} (h : wE g a env M (fun x M => wE g b env M (fun y M => ∃ r, cmpD op x y M = some r ∧ Q (.bl r) M) X) X) : wE g (.cmp op a b) env M Q X := by
  unfold wE
  rw [exE]
  refine wR_bind (wR.mono h (fun x M h => wR_bind (wR.mono h (fun y M h => ?_) fun _ _ _ h => h)) fun _ _ _ h => h)
  obtain ⟨r, e, h⟩ := h
  rw [e]
  exact h
theorem vT_cmp {op : COp} {a b : E} (h : wE g a env M (fun x M => wE g b env M (fun y M => ∃ r, cmpD op x y M = some r ∧ T r M) X) X) : wT g (.cmp op a b) env M T X := by
  unfold wT
  rw [exT]
  refine wR_bind (wR.mono h (fun x M h => wR_bind (wR.mono h (fun y M h => ?_) fun _ _ _ h => h)) fun _ _ _ h => h)
  obtain ⟨r, e, h⟩ := h
  rw [e]
  exact h
theorem vE_not {a : E} (h : wE g a env M (fun x M => ∃ t, truth x M = some t ∧ Q (.bl (!t)) M) X) : wE g (.not a) env M Q X := by
  unfold wE
  rw [exE]
  refine wR_bind (wR.mono h (fun x M h => ?_) fun _ _ _ h => h)
  obtain ⟨i, e, h⟩ := h
  rw [e]
  exact h
theorem vT_not {a : E} (h : wT g a env M (fun x M => T (!x) M) X) : wT g (.not a) env M T X := by
  unfold wT
  rw [exT]
  exact wR_bind h
theorem vE_and {a b : E} (h : wE g a env M (fun x M => ∃ t, x = .bl t ∧ if t then wE g b env M Q X else Q (.bl false) M) X) : wE g (.and a b) env M Q X := by
  unfold wE
  rw [exE]
  refine wR_bind (wR.mono h (fun x M h => ?_) fun _ _ _ h => h)
  obtain ⟨t, rfl, h⟩ := h
  cases t <;> exact h
theorem vE_or {a b : E} (h : wE g a env M (fun x M => ∃ t, x = .bl t ∧ if t then Q (.bl true) M else wE g b env M Q X) X) : wE g (.or a b) env M Q X := by
  unfold wE
  rw [exE]
  refine wR_bind (wR.mono h (fun x M h => ?_) fun _ _ _ h => h)
  obtain ⟨t, rfl, h⟩ := h
  cases t <;> exact h
theorem vT_and {a b : E} (h : wT g a env M (fun x M => if x then wT g b env M T X else T false M) X) : wT g (.and a b) env M T X := by
  unfold wT
  rw [exT]
  refine wR_bind (wR.mono h (fun x M h => ?_) fun _ _ _ h => h)
  cases x <;> exact h
theorem vT_or {a b : E} (h : wT g a env M (fun x M => if x then T true M else wT g b env M T X) X) : wT g (.or a b) env M T X := by
  unfold wT
  rw [exT]
  refine wR_bind (wR.mono h (fun x M h => ?_) fun _ _ _ h => h)
  cases x <;> exact h
theorem vE_ite {t a b : E} (h : wT g t env M (fun x M => if x then wE g a env M Q X else wE g b env M Q X) X) : wE g (.ite t a b) env M Q X := by
  unfold wE
  rw [exE]
  refine wR_bind (wR.mono h (fun x M h => ?_) fun _ _ _ h => h)
  cases x <;> exact h
theorem vE_tup {es : Es} (h : wEs g es env M (fun ds M => ∃ ds', frzs ds = some ds' ∧ ds'.length ≤ 16777216 ∧ Q (.tup ds') M) X) : wE g (.tup es) env M Q X := by
  unfold wE
  rw [exE]
  refine wR_bind (wR.mono h (fun x M h => ?_) fun _ _ _ h => h)
  obtain ⟨ds', e, hl, h⟩ := h
  rw [e]
  show wR (if _ then _ else _) Q X
  rw [if_pos hl]
  exact h
theorem vE_lst {es : Es} (h : wEs g es env M (fun ds M => ∃ ds', frzs ds = some ds' ∧ ds'.length ≤ 16777216 ∧ Q (.fl ds') M) X) : wE g (.lst es) env M Q X := by
  unfold wE
  rw [exE]
  refine wR_bind (wR.mono h (fun x M h => ?_) fun _ _ _ h => h)
  obtain ⟨ds', e, hl, h⟩ := h
  rw [e]
  show wR (if _ then _ else _) Q X
  rw [if_pos hl]
  exact h
theorem vE_nil {L : List D → Mem → Prop} (h : L [] M) : wEs g .nil env M L X := h
theorem vE_cons {e : E} {es : Es} {L : List D → Mem → Prop} (h : wE g e env M (fun x M => wEs g es env M (fun ds M => L (x :: ds) M) X) X) : wEs g (.cons e es) env M L X := by
  unfold wEs
  rw [exEs]
  exact wR_bind (wR.mono h (fun x M h => wR_bind (wR.mono h (fun y M h => h) fun _ _ _ h => h)) fun _ _ _ h => h)
theorem vE_idx {a i : E} (h : wE g a env M (fun x M => wE g i env M (fun y M => ∃ r, idxD x y M = some r ∧ Q r M) X) X) : wE g (.idx a i) env M Q X := by
  unfold wE
  rw [exE]
  refine wR_bind (wR.mono h (fun x M h => wR_bind (wR.mono h (fun y M h => ?_) fun _ _ _ h => h)) fun _ _ _ h => h)
  obtain ⟨r, e, h⟩ := h
  rw [e]
  exact h
theorem vE_sli {a lo hi : E} (h : wE g a env M (fun x M => wE g lo env M (fun l M => ∃ l', optI l = some l' ∧ wE g hi env M (fun u M => ∃ u', optI u = some u' ∧ ∃ r, sliD x l' u' M = some r ∧ Q r M) X) X) X) : wE g (.sli a lo hi) env M Q X := by
  unfold wE
  rw [exE]
  refine wR_bind (wR.mono h (fun x M h => wR_bind (wR.mono h (fun y M h => ?_) fun _ _ _ h => h)) fun _ _ _ h => h)
  obtain ⟨l', e, h⟩ := h
  rw [e]
  refine wR_bind (wR.mono h (fun u M h => ?_) fun _ _ _ h => h)
  obtain ⟨u', e, r, e', h⟩ := h
  rw [e]
  show wR (lift1 (sliD x l' u' M) M) Q X
  rw [e']
  exact h
theorem vE_mat {a : E} (h : wE g a env M (fun x M => ∃ ds, x = .fl ds ∧ Q (.ref M.length) (M ++ [.lst ds])) X) : wE g (.mat a) env M Q X := by
  unfold wE
  rw [exE]
  refine wR_bind (wR.mono h (fun x M h => ?_) fun _ _ _ h => h)
  obtain ⟨ds, rfl, h⟩ := h
  exact h
theorem vE_call {f : Str} {as : Es} (h : wEs g as env M (fun ds M => ∃ ds', frzs ds = some ds' ∧ wR (inv g.call f ds' M) Q X) X) : wE g (.call f as) env M Q X := by
  unfold wE
  rw [exE]
  refine wR_bind (wR.mono h (fun x M h => ?_) fun _ _ _ h => h)
  obtain ⟨ds', e, h⟩ := h
  rw [e]
  exact h
theorem vT_call {f : Str} {as : Es} (h : wEs g as env M (fun ds M => ∃ ds', frzs ds = some ds' ∧ wR (inv g.call f ds' M) (fun d M => ∃ t, truth d M = some t ∧ T t M) X) X) : wT g (.call f as) env M T X := by
  unfold wT
  rw [exT]
  refine wR_bind (wR.mono h (fun x M h => ?_) fun _ _ _ h => h)
  obtain ⟨ds', e, h⟩ := h
  rw [e]
  refine wR_bind (wR.mono h (fun x M h => ?_) fun _ _ _ h => h)
  obtain ⟨t, e, h⟩ := h
  rw [e]
  exact h
theorem vE_bi {b : Bi} {as : Es} (hc : (biHot b || g.calm) = true) (h : wEs g as env M (fun ds M => ∃ r, biD b ds M = some r ∧ Q r M) X) : wE g (.bi b as) env M Q X := by
  unfold wE
  rw [exE, if_pos hc]
  refine wR_bind (wR.mono h (fun x M h => ?_) fun _ _ _ h => h)
  obtain ⟨r, e, h⟩ := h
  rw [e]
  exact h
theorem vT_bi {b : Bi} {as : Es} (hc : (biHot b || g.calm) = true) (h : wEs g as env M (fun ds M => ∃ r, biD b ds M = some r ∧ ∃ t, truth r M = some t ∧ T t M) X) : wT g (.bi b as) env M T X := by
  unfold wT
  rw [exT, if_pos hc]
  refine wR_bind (wR.mono h (fun x M h => ?_) fun _ _ _ h => h)
  obtain ⟨r, e, t, e', h⟩ := h
  rw [e]
  show wR ((truth r M).bind _) T X
  rw [e']
  exact h
theorem vE_mth {m : Mt} {o : E} {as : Es} (h : wE g o env M (fun x M => mthOk m x = true ∧ wEs g as env M (fun ds M => ∃ ds', frzs ds = some ds' ∧ ds'.all argOk = true ∧ ∃ r M', mthD m x ds' M = some (r, M') ∧ Q r M') X) X) : wE g (.mth m o as) env M Q X := by
  unfold wE
  rw [exE]
  refine wR_bind (wR.mono h (fun x M h => ?_) fun _ _ _ h => h)
  obtain ⟨h1, h⟩ := h
  rw [if_pos h1]
  refine wR_bind (wR.mono h (fun ds M h => ?_) fun _ _ _ h => h)
  obtain ⟨ds', e, h2, r, M', e', h⟩ := h
  rw [e]
  show wR (if _ then _ else _) Q X
  rw [if_pos h2, e']
  exact h
theorem vE_isi {a : E} {ts : List Ty} (h : wE g a env M (fun x M => ∃ t, isTs x M ts = some t ∧ Q (.bl t) M) X) : wE g (.isi a ts) env M Q X := by
  unfold wE
  rw [exE]
  refine wR_bind (wR.mono h (fun x M h => ?_) fun _ _ _ h => h)
  obtain ⟨r, e, h⟩ := h
  rw [e]
  exact h
theorem vT_isi {a : E} {ts : List Ty} (h : wE g a env M (fun x M => ∃ t, isTs x M ts = some t ∧ T t M) X) : wT g (.isi a ts) env M T X := by
  unfold wT
  rw [exT]
  refine wR_bind (wR.mono h (fun x M h => ?_) fun _ _ _ h => h)
  obtain ⟨r, e, h⟩ := h
  rw [e]
  exact h
theorem vT_nope (h : T true M) : wT g .nope env M T X := h
theorem vT_var {i : Nat} {d : D} (e : env[i]? = some (some d)) (h : ∃ t, truth d M = some t ∧ T t M) : wT g (.var i) env M T X := by
  obtain ⟨t, e', h⟩ := h
  unfold wT
  rw [exT, e]
  show wR ((truth d M).bind _) T X
  rw [e']
  exact h
theorem vT_idx {a i : E} (h : wE g a env M (fun x M => wE g i env M (fun y M => ∃ r, idxD x y M = some r ∧ ∃ t, truth r M = some t ∧ T t M) X) X) : wT g (.idx a i) env M T X := by
  unfold wT
  rw [exT]
  refine wR_bind (wR.mono h (fun x M h => wR_bind (wR.mono h (fun y M h => ?_) fun _ _ _ h => h)) fun _ _ _ h => h)
  obtain ⟨r, e, t, e', h⟩ := h
  rw [e]
  show wR ((truth r M).bind _) T X
  rw [e']
  exact h
/-! walks -/
theorem vE_compL {watch : Mem → Bool} {body : D → Mem → R (Option D)} (I : List D → List D → Mem → Prop) (hw : ∀ l acc M, I l acc M → watch M = true)
    (step : ∀ x l acc M, I (x :: l) acc M → ∃ y M', body x M = some (.ok y M') ∧ I l (acc ++ y.toList) M') :
    ∀ (items acc : List D) (M : Mem), I items acc M → ∃ ys M', compL watch body items M = some (.ok ys M') ∧ I [] (acc ++ ys) M'
  | [], acc, M, h => ⟨[], M, by rw [compL, if_pos (hw _ _ _ h)], by rw [List.append_nil]; exact h⟩
  | x :: l, acc, M, h => by
    obtain ⟨y, M1, e1, h1⟩ := step x l acc M h
    obtain ⟨ys, M2, e2, h2⟩ := vE_compL I hw step l _ M1 h1
    refine ⟨y.toList ++ ys, M2, ?_, by rw [← List.append_assoc]; exact h2⟩
    rw [compL, if_pos (hw _ _ _ h), e1]
    dsimp only
    rw [e2]
    cases y <;> rfl
/-- a comprehension of one clause; I: what is left, what is made -/
theorem vE_comp {F : Fn} {gt : List Nat} {it : It} {cond elt : E} {own : List Nat} (h : wI ⟨F, true⟩ it env M (fun w M => ∃ I : List D → List D → Mem → Prop, (∀ l acc M, I l acc M → w.watch M = true) ∧ I w.items [] M ∧
      (∀ x l acc M, I (x :: l) acc M → ∃ env1, bindG gt x M (wipeE env own) = some env1 ∧ wT ⟨F, true⟩ cond env1 M (fun t M => if t then wE ⟨F, true⟩ elt env1 M (fun y M => ∃ y', frz y = some y' ∧ I l (acc ++ [y']) M) noE else I l acc M) noE) ∧
      ∀ ys M, I [] ys M → ys.length ≤ 16777216 ∧ Q (.fl ys) M) X) : wE ⟨F, true⟩ (.comp gt it cond elt own) env M Q X := by
  unfold wE
  rw [exE, if_pos rfl]
  refine wR_bind (wR.mono h (fun w M h => ?_) fun _ _ _ h => h)
  obtain ⟨I, hw, h0, step, done⟩ := h
  refine wR_bind ?_
  have key := vE_compL (watch := w.watch) (body := (fun d M => match bindG gt d M (wipeE env own) with
        | some env1 => (exT ⟨F, true⟩ cond env1 M).bind fun t M => if t then (exE ⟨F, true⟩ elt env1 M).bind fun y M => (match frz y with
          | some y => some (.ok (some y) M)
          | none => none) else some (.ok none M)
        | none => none)) I hw (by
    intro x l acc M hI
    obtain ⟨env1, e1, h1⟩ := step x l acc M hI
    obtain ⟨t, M1, e2, h2⟩ := wR.ok (show wR (exT _ cond env1 M) _ noE from h1)
    rw [e1]
    show ∃ y M', R.bind (exT _ cond env1 M) _ = _ ∧ _
    rw [e2]
    cases t with
    | false =>
      refine ⟨none, M1, rfl, ?_⟩
      rw [show acc ++ (none : Option D).toList = acc from List.append_nil _]
      exact h2
    | true =>
      obtain ⟨y, M2, e3, y', e4, h3⟩ := wR.ok (show wR (exE _ elt env1 M1) _ noE from h2)
      refine ⟨some y', M2, ?_, h3⟩
      show (R.bind (exE _ elt env1 M1) _) = _
      rw [e3]
      show (match frz y with
          | some y => some (Rs.ok (some y) M2)
          | none => none) = _
      rw [e4])
  obtain ⟨ys, M', e, h1⟩ := key w.items [] M h0
  obtain ⟨h2, h3⟩ := done ys M' h1
  refine wR.of e ?_
  show wR (if _ then _ else _) Q X
  rw [if_pos h2]
  exact h3
theorem vI_seq {e : E} {W : Wk → Mem → Prop} (h : wE g e env M (fun x M => ∃ ds, seqOf x M = some ds ∧ W ⟨ds, watchOf x ds⟩ M) X) : wI g (.seq e) env M W X := by
  unfold wI
  rw [exI]
  refine wR_bind (wR.mono h (fun x M h => ?_) fun _ _ _ h => h)
  obtain ⟨ds, e, h⟩ := h
  unfold wkSeq
  rw [e]
  exact h
theorem vI_rng {a b : E} {W : Wk → Mem → Prop} (h : wE g a env M (fun x M => wE g b env M (fun y M => ∃ lo hi, x = .int lo ∧ y = .int hi ∧ rngOk lo hi = true ∧ W ⟨rangeL lo (hi - lo).toNat, still⟩ M) X) X) : wI g (.rng a b) env M W X := by
  unfold wI
  rw [exI]
  refine wR_bind (wR.mono h (fun x M h => wR_bind (wR.mono h (fun y M h => ?_) fun _ _ _ h => h)) fun _ _ _ h => h)
  obtain ⟨lo, hi, rfl, rfl, e, h⟩ := h
  unfold wkRng
  dsimp only
  rw [if_pos e]
  exact h
end
/-! ### statements -/
variable {Q : Fl → Prop} {r : Ss}
theorem vS_nil (h : Q (.nx env M)) : wSs g .nil env M Q := h
theorem vS_cons {s : S} (h : wS g s env M (fun fl => match fl with
    | .nx env1 M1 => wSs g r env1 M1 Q
    | x => Q x)) : wSs g (.cons s r) env M Q := by
  unfold wSs
  rw [exSs]
  obtain ⟨fl, e, h⟩ := wO.get h
  rw [e]
  cases fl <;> exact h
theorem vS_skip (h : wSs g r env M Q) : wSs g (.cons .skip r) env M Q := vS_cons h
theorem vS_expr {e : E} (h : wE g e env M (fun _ M => wSs g r env M Q) fun c p M => Q (.ex env c p M)) : wSs g (.cons (.expr e) r) env M Q := by
  refine vS_cons ?_
  unfold wS
  rw [exS]
  exact wO_onR h
theorem vS_asg {i : Nat} {e : E} (h : wE g e env M (fun x M => ∃ x', frz x = some x' ∧ wSs g r (env.set i (some x')) M Q) fun c p M => Q (.ex env c p M)) : wSs g (.cons (.asg (.name i) e) r) env M Q := by
  refine vS_cons ?_
  unfold wS
  rw [exS, if_pos (show tgOk g.calm (.name i) = true from rfl)]
  refine wO_onR (wR.mono h (fun x M h => ?_) fun _ _ _ h => h)
  obtain ⟨x', e, h⟩ := h
  rw [e]
  exact h
theorem vS_asgT {F : Fn} {is : List Nat} {e : E} (h : wE ⟨F, true⟩ e env M (fun x M => ∃ x', frz x = some x' ∧ ∃ env1, bindG is x' M env = some env1 ∧ wSs ⟨F, true⟩ r env1 M Q) fun c p M => Q (.ex env c p M)) : wSs ⟨F, true⟩ (.cons (.asg (.tup is) e) r) env M Q := by
  refine vS_cons ?_
  unfold wS
  rw [exS, if_pos (show tgOk true (.tup is) = true from rfl)]
  refine wO_onR (wR.mono h (fun x M h => ?_) fun _ _ _ h => h)
  obtain ⟨x', e, env1, e1, h⟩ := h
  rw [e]
  dsimp only
  rw [e1]
  exact h
theorem vS_sub {o i e : E} (h : wE g e env M (fun x M => ∃ x', frz x = some x' ∧ wE g o env M (fun od M => wE g i env M (fun id M => ∃ M1, setSub od id x' M = some M1 ∧ wSs g r env M1 Q) fun c p M => Q (.ex env c p M)) fun c p M => Q (.ex env c p M)) fun c p M => Q (.ex env c p M)) : wSs g (.cons (.asg (.sub o i) e) r) env M Q := by
  refine vS_cons ?_
  unfold wS
  rw [exS, if_pos (show tgOk g.calm (.sub o i) = true from rfl)]
  refine wO_onR (wR.mono h (fun x M h => ?_) fun _ _ _ h => h)
  obtain ⟨x', e, h⟩ := h
  rw [e]
  refine wO_onR (wR.mono h (fun x M h => wO_onR (wR.mono h (fun x M h => ?_) fun _ _ _ h => h)) fun _ _ _ h => h)
  obtain ⟨M1, e, h⟩ := h
  rw [e]
  exact h
theorem vS_ret {e : E} (h : wE g e env M (fun x M => Q (.rt x M)) fun c p M => Q (.ex env c p M)) : wSs g (.cons (.ret e) r) env M Q := by
  refine vS_cons ?_
  unfold wS
  rw [exS]
  exact wO_onR h
theorem vS_brk (h : Q (.bk env M)) : wSs g (.cons .brk r) env M Q := vS_cons h
theorem vS_cont (h : Q (.ct env M)) : wSs g (.cons .cont r) env M Q := vS_cons h
/-- what follows a block -/
def aft (g : G) (r : Ss) (Q : Fl → Prop) : Fl → Prop := fun fl => match fl with
  | .nx env1 M1 => wSs g r env1 M1 Q
  | x => Q x
theorem vaft_nx (h : wSs g r env M Q) : aft g r Q (.nx env M) := h
theorem vaft_rt {d : D} (h : Q (.rt d M)) : aft g r Q (.rt d M) := h
theorem vaft_bk (h : Q (.bk env M)) : aft g r Q (.bk env M) := h
theorem vaft_ct (h : Q (.ct env M)) : aft g r Q (.ct env M) := h
theorem vaft_ex {c : Str} {p : List (Str × D)} (h : Q (.ex env c p M)) : aft g r Q (.ex env c p M) := h
theorem vS_ife {t : E} {a b : Ss} (h : wT g t env M (fun x M => if x then wSs g a env M (aft g r Q) else wSs g b env M (aft g r Q)) fun c p M => Q (.ex env c p M)) : wSs g (.cons (.ife t a b) r) env M Q := by
  refine vS_cons ?_
  unfold wS
  rw [exS]
  refine wO_onR (wR.mono h (fun x M h => ?_) fun _ _ _ h => h)
  cases x <;> exact h
theorem vE_forM {watch : Mem → Bool} {body : D → Env → Mem → Option Fl} (I : List D → Env → Mem → Prop) (hw : ∀ l env M, I l env M → watch M = true)
    (step : ∀ x l env M, I (x :: l) env M → wO (body x env M) fun fl => match fl with
      | .nx env M => I l env M
      | .ct env M => I l env M
      | .bk env M => Q (.nx env M)
      | x => Q x) (done : ∀ env M, I [] env M → Q (.nx env M)) : ∀ (items : List D) (env : Env) (M : Mem), I items env M → wO (forM watch body items env M) Q
  | [], env, M, h => by
    rw [forM, if_pos (hw _ _ _ h)]
    exact done env M h
  | x :: l, env, M, h => by
    rw [forM, if_pos (hw _ _ _ h)]
    obtain ⟨fl, e, h1⟩ := wO.get (step x l env M h)
    rw [e]
    cases fl with
    | nx env1 M1 => exact vE_forM I hw step done l env1 M1 h1
    | ct env1 M1 => exact vE_forM I hw step done l env1 M1 h1
    | bk env1 M1 => exact h1
    | rt d M1 => exact h1
    | ex env1 c p M1 => exact h1
/-- what a turn of a loop must give -/
def turnQ (I : Env → Mem → Prop) (Q : Fl → Prop) : Fl → Prop := fun fl => match fl with
  | .nx env M => I env M
  | .ct env M => I env M
  | .bk env M => Q (.nx env M)
  | x => Q x
theorem vturn_nx {I : Env → Mem → Prop} (h : I env M) : turnQ I Q (.nx env M) := h
theorem vturn_ct {I : Env → Mem → Prop} (h : I env M) : turnQ I Q (.ct env M) := h
theorem vturn_bk {I : Env → Mem → Prop} (h : Q (.nx env M)) : turnQ I Q (.bk env M) := h
theorem vturn_rt {I : Env → Mem → Prop} {d : D} (h : Q (.rt d M)) : turnQ I Q (.rt d M) := h
theorem vturn_ex {I : Env → Mem → Prop} {c : Str} {p : List (Str × D)} (h : Q (.ex env c p M)) : turnQ I Q (.ex env c p M) := h
theorem vS_for {F : Fn} {gt : List Nat} {it : It} {b : Ss} (h : wI ⟨F, true⟩ it env M (fun w M => ∃ I : List D → Env → Mem → Prop, (∀ l env M, I l env M → w.watch M = true) ∧ I w.items env M ∧
      (∀ x l env M, I (x :: l) env M → ∃ env1, bindG gt x M env = some env1 ∧ wSs ⟨F, true⟩ b env1 M (turnQ (I l) (aft ⟨F, true⟩ r Q))) ∧
      ∀ env M, I [] env M → wSs ⟨F, true⟩ r env M Q) fun c p M => Q (.ex env c p M)) : wSs ⟨F, true⟩ (.cons (.for_ gt it b) r) env M Q := by
  refine vS_cons ?_
  unfold wS
  rw [exS, if_pos rfl]
  refine wO_onR (wR.mono h (fun w M h => ?_) fun _ _ _ h => h)
  obtain ⟨I, hw, h0, step, done⟩ := h
  refine vE_forM I hw (fun x l env M hI => ?_) done _ _ _ h0
  obtain ⟨env1, e, h1⟩ := step x l env M hI
  unfold forB
  rw [e]
  refine wO.mono h1 fun fl h => ?_
  cases fl <;> exact h
/-- a def's run -/
theorem vE_fin {x : Option Fl} {Q : D → Mem → Prop} {X : Ex} (h : wO x fun fl => match fl with
    | .rt d M => Q d M
    | .nx _ M => Q .non M
    | .ex _ c p M => X c p M
    | _ => False) : wR (fin x) Q X := by
  obtain ⟨fl, e, h⟩ := wO.get h
  rw [e]
  cases fl <;> first
    | exact h
    | exact h.elim
def finQ (Q : D → Mem → Prop) (X : Ex) : Fl → Prop := fun fl => match fl with
  | .rt d M => Q d M
  | .nx _ M => Q .non M
  | .ex _ c p M => X c p M
  | _ => False
theorem vfin_rtQ {Q : D → Mem → Prop} {d : D} (h : Q d M) : finQ Q X (.rt d M) := h
theorem vfin_nxQ {Q : D → Mem → Prop} (h : Q .non M) : finQ Q X (.nx env M) := h
theorem vfin_exQ {Q : D → Mem → Prop} {c : Str} {p : List (Str × D)} (h : X c p M) : finQ Q X (.ex env c p M) := h
theorem vE_def {P : Prg} {k : Nat} {f : Str} {ds : List D} {ps n : Nat} {b : Ss} {Q : D → Mem → Prop} (e : P.lookup f = some ⟨ps, n, b⟩) (hl : ds.length = ps) (h : wSs ⟨callK P true k, true⟩ b (startE n ds) M (finQ Q X)) : wR (callK P true (k + 1) f ds M) Q X := by
  rw [callK, e]
  dsimp only
  rw [if_pos hl]
  exact vE_fin h
end Z.W0
end
section
set_option Elab.async false
set_option linter.all false
set_option maxRecDepth 100000
set_option maxHeartbeats 1000000
set_option autoImplicit false
/-! The rules of ZW0 about names that never unfold by themselves (printed by mkW.py). -/
namespace Z
open PySem
abbrev Ex := W0.Ex
abbrev noE : Ex := W0.noE
@[irreducible] def wR {α : Type} (x : R α) (Q : α → Mem → Prop) (E : Ex) : Prop := W0.wR x Q E
theorem wR_eq {α : Type} (x : R α) (Q : α → Mem → Prop) (E : Ex) : wR x Q E = W0.wR x Q E := by
  unfold wR
  rfl
@[irreducible] def wO (x : Option Fl) (Q : Fl → Prop) : Prop := W0.wO x Q
theorem wO_eq (x : Option Fl) (Q : Fl → Prop) : wO x Q = W0.wO x Q := by
  unfold wO
  rfl
@[irreducible] def wE (g : G) (e : E) (env : Env) (M : Mem) (Q : D → Mem → Prop) (X : Ex) : Prop := W0.wE g e env M Q X
theorem wE_eq (g : G) (e : E) (env : Env) (M : Mem) (Q : D → Mem → Prop) (X : Ex) : wE g e env M Q X = W0.wE g e env M Q X := by
  unfold wE
  rfl
@[irreducible] def wT (g : G) (e : E) (env : Env) (M : Mem) (Q : Bool → Mem → Prop) (X : Ex) : Prop := W0.wT g e env M Q X
theorem wT_eq (g : G) (e : E) (env : Env) (M : Mem) (Q : Bool → Mem → Prop) (X : Ex) : wT g e env M Q X = W0.wT g e env M Q X := by
  unfold wT
  rfl
@[irreducible] def wEs (g : G) (e : Es) (env : Env) (M : Mem) (Q : List D → Mem → Prop) (X : Ex) : Prop := W0.wEs g e env M Q X
theorem wEs_eq (g : G) (e : Es) (env : Env) (M : Mem) (Q : List D → Mem → Prop) (X : Ex) : wEs g e env M Q X = W0.wEs g e env M Q X := by
  unfold wEs
  rfl
@[irreducible] def wI (g : G) (e : It) (env : Env) (M : Mem) (Q : Wk → Mem → Prop) (X : Ex) : Prop := W0.wI g e env M Q X
theorem wI_eq (g : G) (e : It) (env : Env) (M : Mem) (Q : Wk → Mem → Prop) (X : Ex) : wI g e env M Q X = W0.wI g e env M Q X := by
  unfold wI
  rfl
@[irreducible] def wS (g : G) (s : S) (env : Env) (M : Mem) (Q : Fl → Prop) : Prop := W0.wS g s env M Q
theorem wS_eq (g : G) (s : S) (env : Env) (M : Mem) (Q : Fl → Prop) : wS g s env M Q = W0.wS g s env M Q := by
  unfold wS
  rfl
@[irreducible] def wSs (g : G) (s : Ss) (env : Env) (M : Mem) (Q : Fl → Prop) : Prop := W0.wSs g s env M Q
theorem wSs_eq (g : G) (s : Ss) (env : Env) (M : Mem) (Q : Fl → Prop) : wSs g s env M Q = W0.wSs g s env M Q := by
  unfold wSs
  rfl
@[irreducible] def aft (g : G) (r : Ss) (Q : Fl → Prop) : Fl → Prop := W0.aft g r Q
theorem aft_eq (g : G) (r : Ss) (Q : Fl → Prop) : aft g r Q = W0.aft g r Q := by
  unfold aft
  rfl
@[irreducible] def turnQ (I : Env → Mem → Prop) (Q : Fl → Prop) : Fl → Prop := W0.turnQ I Q
theorem turnQ_eq (I : Env → Mem → Prop) (Q : Fl → Prop) : turnQ I Q = W0.turnQ I Q := by
  unfold turnQ
  rfl
@[irreducible] def finQ (Q : D → Mem → Prop) (X : Ex) : Fl → Prop := W0.finQ Q X
theorem finQ_eq (Q : D → Mem → Prop) (X : Ex) : finQ Q X = W0.finQ Q X := by
  unfold finQ
  rfl
theorem wR.mono {α : Type} {x : R α} {Q Q' : α → Mem → Prop} {E E' : Ex} (h : wR x Q E) (hq : ∀ a M, Q a M → Q' a M) (he : ∀ c p M, E c p M → E' c p M) : wR x Q' E' := by
  try simp only [wR_eq, wO_eq, wE_eq, wT_eq, wEs_eq, wI_eq, wS_eq, wSs_eq, aft_eq, turnQ_eq, finQ_eq] at *
  exact W0.wR.mono h hq he
theorem wR.ok {α : Type} {x : R α} {Q : α → Mem → Prop} (h : wR x Q noE) : ∃ a M, x = some (.ok a M) ∧ Q a M := by
  try simp only [wR_eq, wO_eq, wE_eq, wT_eq, wEs_eq, wI_eq, wS_eq, wSs_eq, aft_eq, turnQ_eq, finQ_eq] at *
  exact W0.wR.ok h
theorem wR.of {α : Type} {x : R α} {a : α} {M : Mem} {Q : α → Mem → Prop} {E : Ex} (e : x = some (.ok a M)) (h : Q a M) : wR x Q E := by
  try simp only [wR_eq, wO_eq, wE_eq, wT_eq, wEs_eq, wI_eq, wS_eq, wSs_eq, aft_eq, turnQ_eq, finQ_eq] at *
  exact W0.wR.of e h
theorem wO.of {x : Option Fl} {fl : Fl} {Q : Fl → Prop} (e : x = some fl) (h : Q fl) : wO x Q := by
  try simp only [wR_eq, wO_eq, wE_eq, wT_eq, wEs_eq, wI_eq, wS_eq, wSs_eq, aft_eq, turnQ_eq, finQ_eq] at *
  exact W0.wO.of e h
theorem wO.get {x : Option Fl} {Q : Fl → Prop} (h : wO x Q) : ∃ fl, x = some fl ∧ Q fl := by
  try simp only [wR_eq, wO_eq, wE_eq, wT_eq, wEs_eq, wI_eq, wS_eq, wSs_eq, aft_eq, turnQ_eq, finQ_eq] at *
  exact W0.wO.get h
theorem wO.mono {x : Option Fl} {Q Q' : Fl → Prop} (h : wO x Q) (hq : ∀ fl, Q fl → Q' fl) : wO x Q' := by
  try simp only [wR_eq, wO_eq, wE_eq, wT_eq, wEs_eq, wI_eq, wS_eq, wSs_eq, aft_eq, turnQ_eq, finQ_eq] at *
  exact W0.wO.mono h hq
theorem wR_bind {α β : Type} {x : R α} {f : α → Mem → R β} {Q : β → Mem → Prop} {E : Ex} (h : wR x (fun a M => wR (f a M) Q E) E) : wR (x.bind f) Q E := by
  try simp only [wR_eq, wO_eq, wE_eq, wT_eq, wEs_eq, wI_eq, wS_eq, wSs_eq, aft_eq, turnQ_eq, finQ_eq] at *
  exact W0.wR_bind h
theorem wO_onR {α : Type} {env : Env} {x : R α} {f : α → Mem → Option Fl} {Q : Fl → Prop} (h : wR x (fun a M => wO (f a M) Q) fun c p M => Q (.ex env c p M)) : wO (onR env x f) Q := by
  try simp only [wR_eq, wO_eq, wE_eq, wT_eq, wEs_eq, wI_eq, wS_eq, wSs_eq, aft_eq, turnQ_eq, finQ_eq] at *
  exact W0.wO_onR h
variable {g : G} {env : Env} {M : Mem} {X : Ex}
section
variable {Q : D → Mem → Prop} {T : Bool → Mem → Prop}
theorem vE_c {d : D} (h : Q d M) : wE g (.c d) env M Q X := by
  try simp only [wR_eq, wO_eq, wE_eq, wT_eq, wEs_eq, wI_eq, wS_eq, wSs_eq, aft_eq, turnQ_eq, finQ_eq] at *
  exact W0.vE_c h
theorem vE_nope (h : Q .non M) : wE g .nope env M Q X := by
  try simp only [wR_eq, wO_eq, wE_eq, wT_eq, wEs_eq, wI_eq, wS_eq, wSs_eq, aft_eq, turnQ_eq, finQ_eq] at *
  exact W0.vE_nope h
theorem vE_var {i : Nat} {d : D} (e : env[i]? = some (some d)) (h : Q d M) : wE g (.var i) env M Q X := by
  try simp only [wR_eq, wO_eq, wE_eq, wT_eq, wEs_eq, wI_eq, wS_eq, wSs_eq, aft_eq, turnQ_eq, finQ_eq] at *
  exact W0.vE_var e h
theorem vE_bin {op : BOp} {a b : E} (h : wE g a env M (fun x M => wE g b env M (fun y M => ∃ r, binD op x y M = some r ∧ Q r M) X) X) : wE g (.bin op a b) env M Q X := by
  try simp only [wR_eq, wO_eq, wE_eq, wT_eq, wEs_eq, wI_eq, wS_eq, wSs_eq, aft_eq, turnQ_eq, finQ_eq] at *
  exact W0.vE_bin h
theorem vE_neg {a : E} (h : wE g a env M (fun x M => ∃ i, x = .int i ∧ Q (.int (-i)) M) X) : wE g (.neg a) env M Q X := by
  try simp only [wR_eq, wO_eq, wE_eq, wT_eq, wEs_eq, wI_eq, wS_eq, wSs_eq, aft_eq, turnQ_eq, finQ_eq] at *
  exact W0.vE_neg h
theorem vE_cmp {op : COp} {a b : E} (h : wE g a env M (fun x M => wE g b env M (fun y M => ∃ r, cmpD op x y M = some r ∧ Q (.bl r) M) X) X) : wE g (.cmp op a b) env M Q X := by
  try simp only [wR_eq, wO_eq, wE_eq, wT_eq, wEs_eq, wI_eq, wS_eq, wSs_eq, aft_eq, turnQ_eq, finQ_eq] at *
  exact W0.vE_cmp h
theorem vT_cmp {op : COp} {a b : E} (h : wE g a env M (fun x M => wE g b env M (fun y M => ∃ r, cmpD op x y M = some r ∧ T r M) X) X) : wT g (.cmp op a b) env M T X := by
  try simp only [wR_eq, wO_eq, wE_eq, wT_eq, wEs_eq, wI_eq, wS_eq, wSs_eq, aft_eq, turnQ_eq, finQ_eq] at *
  exact W0.vT_cmp h
theorem vE_not {a : E} (h : wE g a env M (fun x M => ∃ t, truth x M = some t ∧ Q (.bl (!t)) M) X) : wE g (.not a) env M Q X := by
  try simp only [wR_eq, wO_eq, wE_eq, wT_eq, wEs_eq, wI_eq, wS_eq, wSs_eq, aft_eq, turnQ_eq, finQ_eq] at *
  exact W0.vE_not h
theorem vT_not {a : E} (h : wT g a env M (fun x M => T (!x) M) X) : wT g (.not a) env M T X := by
  try simp only [wR_eq, wO_eq, wE_eq, wT_eq, wEs_eq, wI_eq, wS_eq, wSs_eq, aft_eq, turnQ_eq, finQ_eq] at *
  exact W0.vT_not h
theorem vE_and {a b : E} (h : wE g a env M (fun x M => ∃ t, x = .bl t ∧ if t then wE g b env M Q X else Q (.bl false) M) X) : wE g (.and a b) env M Q X := by
  try simp only [wR_eq, wO_eq, wE_eq, wT_eq, wEs_eq, wI_eq, wS_eq, wSs_eq, aft_eq, turnQ_eq, finQ_eq] at *
  exact W0.vE_and h
theorem vE_or {a b : E} (h : wE g a env M (fun x M => ∃ t, x = .bl t ∧ if t then Q (.bl true) M else wE g b env M Q X) X) : wE g (.or a b) env M Q X := by
  try simp only [wR_eq, wO_eq, wE_eq, wT_eq, wEs_eq, wI_eq, wS_eq, wSs_eq, aft_eq, turnQ_eq, finQ_eq] at *
  exact W0.vE_or h
theorem vT_and {a b : E} (h : wT g a env M (fun x M => if x then wT g b env M T X else T false M) X) : wT g (.and a b) env M T X := by
  try simp only [wR_eq, wO_eq, wE_eq, wT_eq, wEs_eq, wI_eq, wS_eq, wSs_eq, aft_eq, turnQ_eq, finQ_eq] at *
  exact W0.vT_and h
theorem vT_or {a b : E} (h : wT g a env M (fun x M => if x then T true M else wT g b env M T X) X) : wT g (.or a b) env M T X := by
  try simp only [wR_eq, wO_eq, wE_eq, wT_eq, wEs_eq, wI_eq, wS_eq, wSs_eq, aft_eq, turnQ_eq, finQ_eq] at *
  exact W0.vT_or h
theorem vE_ite {t a b : E} (h : wT g t env M (fun x M => if x then wE g a env M Q X else wE g b env M Q X) X) : wE g (.ite t a b) env M Q X := by
  try simp only [wR_eq, wO_eq, wE_eq, wT_eq, wEs_eq, wI_eq, wS_eq, wSs_eq, aft_eq, turnQ_eq, finQ_eq] at *
  exact W0.vE_ite h
theorem vE_tup {es : Es} (h : wEs g es env M (fun ds M => ∃ ds', frzs ds = some ds' ∧ ds'.length ≤ 16777216 ∧ Q (.tup ds') M) X) : wE g (.tup es) env M Q X := by
  try simp only [wR_eq, wO_eq, wE_eq, wT_eq, wEs_eq, wI_eq, wS_eq, wSs_eq, aft_eq, turnQ_eq, finQ_eq] at *
  exact W0.vE_tup h
theorem vE_lst {es : Es} (h : wEs g es env M (fun ds M => ∃ ds', frzs ds = some ds' ∧ ds'.length ≤ 16777216 ∧ Q (.fl ds') M) X) : wE g (.lst es) env M Q X := by
  try simp only [wR_eq, wO_eq, wE_eq, wT_eq, wEs_eq, wI_eq, wS_eq, wSs_eq, aft_eq, turnQ_eq, finQ_eq] at *
  exact W0.vE_lst h
theorem vE_nil {L : List D → Mem → Prop} (h : L [] M) : wEs g .nil env M L X := by
  try simp only [wR_eq, wO_eq, wE_eq, wT_eq, wEs_eq, wI_eq, wS_eq, wSs_eq, aft_eq, turnQ_eq, finQ_eq] at *
  exact W0.vE_nil h
theorem vE_cons {e : E} {es : Es} {L : List D → Mem → Prop} (h : wE g e env M (fun x M => wEs g es env M (fun ds M => L (x :: ds) M) X) X) : wEs g (.cons e es) env M L X := by
  try simp only [wR_eq, wO_eq, wE_eq, wT_eq, wEs_eq, wI_eq, wS_eq, wSs_eq, aft_eq, turnQ_eq, finQ_eq] at *
  exact W0.vE_cons h
theorem vE_idx {a i : E} (h : wE g a env M (fun x M => wE g i env M (fun y M => ∃ r, idxD x y M = some r ∧ Q r M) X) X) : wE g (.idx a i) env M Q X := by
  try simp only [wR_eq, wO_eq, wE_eq, wT_eq, wEs_eq, wI_eq, wS_eq, wSs_eq, aft_eq, turnQ_eq, finQ_eq] at *
  exact W0.vE_idx h
theorem vE_sli {a lo hi : E} (h : wE g a env M (fun x M => wE g lo env M (fun l M => ∃ l', optI l = some l' ∧ wE g hi env M (fun u M => ∃ u', optI u = some u' ∧ ∃ r, sliD x l' u' M = some r ∧ Q r M) X) X) X) : wE g (.sli a lo hi) env M Q X := by
  try simp only [wR_eq, wO_eq, wE_eq, wT_eq, wEs_eq, wI_eq, wS_eq, wSs_eq, aft_eq, turnQ_eq, finQ_eq] at *
  exact W0.vE_sli h
theorem vE_mat {a : E} (h : wE g a env M (fun x M => ∃ ds, x = .fl ds ∧ Q (.ref M.length) (M ++ [.lst ds])) X) : wE g (.mat a) env M Q X := by
  try simp only [wR_eq, wO_eq, wE_eq, wT_eq, wEs_eq, wI_eq, wS_eq, wSs_eq, aft_eq, turnQ_eq, finQ_eq] at *
  exact W0.vE_mat h
theorem vE_call {f : Str} {as : Es} (h : wEs g as env M (fun ds M => ∃ ds', frzs ds = some ds' ∧ wR (inv g.call f ds' M) Q X) X) : wE g (.call f as) env M Q X := by
  try simp only [wR_eq, wO_eq, wE_eq, wT_eq, wEs_eq, wI_eq, wS_eq, wSs_eq, aft_eq, turnQ_eq, finQ_eq] at *
  exact W0.vE_call h
theorem vT_call {f : Str} {as : Es} (h : wEs g as env M (fun ds M => ∃ ds', frzs ds = some ds' ∧ wR (inv g.call f ds' M) (fun d M => ∃ t, truth d M = some t ∧ T t M) X) X) : wT g (.call f as) env M T X := by
  try simp only [wR_eq, wO_eq, wE_eq, wT_eq, wEs_eq, wI_eq, wS_eq, wSs_eq, aft_eq, turnQ_eq, finQ_eq] at *
  exact W0.vT_call h
theorem vE_bi {b : Bi} {as : Es} (hc : (biHot b || g.calm) = true) (h : wEs g as env M (fun ds M => ∃ r, biD b ds M = some r ∧ Q r M) X) : wE g (.bi b as) env M Q X := by
  try simp only [wR_eq, wO_eq, wE_eq, wT_eq, wEs_eq, wI_eq, wS_eq, wSs_eq, aft_eq, turnQ_eq, finQ_eq] at *
  exact W0.vE_bi hc h
theorem vT_bi {b : Bi} {as : Es} (hc : (biHot b || g.calm) = true) (h : wEs g as env M (fun ds M => ∃ r, biD b ds M = some r ∧ ∃ t, truth r M = some t ∧ T t M) X) : wT g (.bi b as) env M T X := by
  try simp only [wR_eq, wO_eq, wE_eq, wT_eq, wEs_eq, wI_eq, wS_eq, wSs_eq, aft_eq, turnQ_eq, finQ_eq] at *
  exact W0.vT_bi hc h
theorem vE_mth {m : Mt} {o : E} {as : Es} (h : wE g o env M (fun x M => mthOk m x = true ∧ wEs g as env M (fun ds M => ∃ ds', frzs ds = some ds' ∧ ds'.all argOk = true ∧ ∃ r M', mthD m x ds' M = some (r, M') ∧ Q r M') X) X) : wE g (.mth m o as) env M Q X := by
  try simp only [wR_eq, wO_eq, wE_eq, wT_eq, wEs_eq, wI_eq, wS_eq, wSs_eq, aft_eq, turnQ_eq, finQ_eq] at *
  exact W0.vE_mth h
theorem vE_isi {a : E} {ts : List Ty} (h : wE g a env M (fun x M => ∃ t, isTs x M ts = some t ∧ Q (.bl t) M) X) : wE g (.isi a ts) env M Q X := by
  try simp only [wR_eq, wO_eq, wE_eq, wT_eq, wEs_eq, wI_eq, wS_eq, wSs_eq, aft_eq, turnQ_eq, finQ_eq] at *
  exact W0.vE_isi h
theorem vT_isi {a : E} {ts : List Ty} (h : wE g a env M (fun x M => ∃ t, isTs x M ts = some t ∧ T t M) X) : wT g (.isi a ts) env M T X := by
  try simp only [wR_eq, wO_eq, wE_eq, wT_eq, wEs_eq, wI_eq, wS_eq, wSs_eq, aft_eq, turnQ_eq, finQ_eq] at *
  exact W0.vT_isi h
theorem vT_nope (h : T true M) : wT g .nope env M T X := by
  try simp only [wR_eq, wO_eq, wE_eq, wT_eq, wEs_eq, wI_eq, wS_eq, wSs_eq, aft_eq, turnQ_eq, finQ_eq] at *
  exact W0.vT_nope h
theorem vT_var {i : Nat} {d : D} (e : env[i]? = some (some d)) (h : ∃ t, truth d M = some t ∧ T t M) : wT g (.var i) env M T X := by
  try simp only [wR_eq, wO_eq, wE_eq, wT_eq, wEs_eq, wI_eq, wS_eq, wSs_eq, aft_eq, turnQ_eq, finQ_eq] at *
  exact W0.vT_var e h
theorem vT_idx {a i : E} (h : wE g a env M (fun x M => wE g i env M (fun y M => ∃ r, idxD x y M = some r ∧ ∃ t, truth r M = some t ∧ T t M) X) X) : wT g (.idx a i) env M T X := by
  try simp only [wR_eq, wO_eq, wE_eq, wT_eq, wEs_eq, wI_eq, wS_eq, wSs_eq, aft_eq, turnQ_eq, finQ_eq] at *
  exact W0.vT_idx h
theorem vE_comp {F : Fn} {gt : List Nat} {it : It} {cond elt : E} {own : List Nat} (h : wI ⟨F, true⟩ it env M (fun w M => ∃ I : List D → List D → Mem → Prop, (∀ l acc M, I l acc M → w.watch M = true) ∧ I w.items [] M ∧
      (∀ x l acc M, I (x :: l) acc M → ∃ env1, bindG gt x M (wipeE env own) = some env1 ∧ wT ⟨F, true⟩ cond env1 M (fun t M => if t then wE ⟨F, true⟩ elt env1 M (fun y M => ∃ y', frz y = some y' ∧ I l (acc ++ [y']) M) noE else I l acc M) noE) ∧
      ∀ ys M, I [] ys M → ys.length ≤ 16777216 ∧ Q (.fl ys) M) X) : wE ⟨F, true⟩ (.comp gt it cond elt own) env M Q X := by
  try simp only [wR_eq, wO_eq, wE_eq, wT_eq, wEs_eq, wI_eq, wS_eq, wSs_eq, aft_eq, turnQ_eq, finQ_eq] at *
  exact W0.vE_comp h
theorem vI_seq {e : E} {W : Wk → Mem → Prop} (h : wE g e env M (fun x M => ∃ ds, seqOf x M = some ds ∧ W ⟨ds, watchOf x ds⟩ M) X) : wI g (.seq e) env M W X := by
  try simp only [wR_eq, wO_eq, wE_eq, wT_eq, wEs_eq, wI_eq, wS_eq, wSs_eq, aft_eq, turnQ_eq, finQ_eq] at *
  exact W0.vI_seq h
theorem vI_rng {a b : E} {W : Wk → Mem → Prop} (h : wE g a env M (fun x M => wE g b env M (fun y M => ∃ lo hi, x = .int lo ∧ y = .int hi ∧ rngOk lo hi = true ∧ W ⟨rangeL lo (hi - lo).toNat, still⟩ M) X) X) : wI g (.rng a b) env M W X := by
  try simp only [wR_eq, wO_eq, wE_eq, wT_eq, wEs_eq, wI_eq, wS_eq, wSs_eq, aft_eq, turnQ_eq, finQ_eq] at *
  exact W0.vI_rng h
end
variable {Q : Fl → Prop} {r : Ss}
theorem vS_nil (h : Q (.nx env M)) : wSs g .nil env M Q := by
  try simp only [wR_eq, wO_eq, wE_eq, wT_eq, wEs_eq, wI_eq, wS_eq, wSs_eq, aft_eq, turnQ_eq, finQ_eq] at *
  exact W0.vS_nil h
theorem vS_cons {s : S} (h : wS g s env M (fun fl => match fl with
    | .nx env1 M1 => wSs g r env1 M1 Q
    | x => Q x)) : wSs g (.cons s r) env M Q := by
  try simp only [wR_eq, wO_eq, wE_eq, wT_eq, wEs_eq, wI_eq, wS_eq, wSs_eq, aft_eq, turnQ_eq, finQ_eq] at *
  exact W0.vS_cons h
theorem vS_skip (h : wSs g r env M Q) : wSs g (.cons .skip r) env M Q := by
  try simp only [wR_eq, wO_eq, wE_eq, wT_eq, wEs_eq, wI_eq, wS_eq, wSs_eq, aft_eq, turnQ_eq, finQ_eq] at *
  exact W0.vS_skip h
theorem vS_expr {e : E} (h : wE g e env M (fun _ M => wSs g r env M Q) fun c p M => Q (.ex env c p M)) : wSs g (.cons (.expr e) r) env M Q := by
  try simp only [wR_eq, wO_eq, wE_eq, wT_eq, wEs_eq, wI_eq, wS_eq, wSs_eq, aft_eq, turnQ_eq, finQ_eq] at *
  exact W0.vS_expr h
theorem vS_asg {i : Nat} {e : E} (h : wE g e env M (fun x M => ∃ x', frz x = some x' ∧ wSs g r (env.set i (some x')) M Q) fun c p M => Q (.ex env c p M)) : wSs g (.cons (.asg (.name i) e) r) env M Q := by
  try simp only [wR_eq, wO_eq, wE_eq, wT_eq, wEs_eq, wI_eq, wS_eq, wSs_eq, aft_eq, turnQ_eq, finQ_eq] at *
  exact W0.vS_asg h
theorem vS_asgT {F : Fn} {is : List Nat} {e : E} (h : wE ⟨F, true⟩ e env M (fun x M => ∃ x', frz x = some x' ∧ ∃ env1, bindG is x' M env = some env1 ∧ wSs ⟨F, true⟩ r env1 M Q) fun c p M => Q (.ex env c p M)) : wSs ⟨F, true⟩ (.cons (.asg (.tup is) e) r) env M Q := by
  try simp only [wR_eq, wO_eq, wE_eq, wT_eq, wEs_eq, wI_eq, wS_eq, wSs_eq, aft_eq, turnQ_eq, finQ_eq] at *
  exact W0.vS_asgT h
theorem vS_sub {o i e : E} (h : wE g e env M (fun x M => ∃ x', frz x = some x' ∧ wE g o env M (fun od M => wE g i env M (fun id M => ∃ M1, setSub od id x' M = some M1 ∧ wSs g r env M1 Q) fun c p M => Q (.ex env c p M)) fun c p M => Q (.ex env c p M)) fun c p M => Q (.ex env c p M)) : wSs g (.cons (.asg (.sub o i) e) r) env M Q := by
  try simp only [wR_eq, wO_eq, wE_eq, wT_eq, wEs_eq, wI_eq, wS_eq, wSs_eq, aft_eq, turnQ_eq, finQ_eq] at *
  exact W0.vS_sub h
theorem vS_ret {e : E} (h : wE g e env M (fun x M => Q (.rt x M)) fun c p M => Q (.ex env c p M)) : wSs g (.cons (.ret e) r) env M Q := by
  try simp only [wR_eq, wO_eq, wE_eq, wT_eq, wEs_eq, wI_eq, wS_eq, wSs_eq, aft_eq, turnQ_eq, finQ_eq] at *
  exact W0.vS_ret h
theorem vS_brk (h : Q (.bk env M)) : wSs g (.cons .brk r) env M Q := by
  try simp only [wR_eq, wO_eq, wE_eq, wT_eq, wEs_eq, wI_eq, wS_eq, wSs_eq, aft_eq, turnQ_eq, finQ_eq] at *
  exact W0.vS_brk h
theorem vS_cont (h : Q (.ct env M)) : wSs g (.cons .cont r) env M Q := by
  try simp only [wR_eq, wO_eq, wE_eq, wT_eq, wEs_eq, wI_eq, wS_eq, wSs_eq, aft_eq, turnQ_eq, finQ_eq] at *
  exact W0.vS_cont h
theorem vaft_nx (h : wSs g r env M Q) : aft g r Q (.nx env M) := by
  try simp only [wR_eq, wO_eq, wE_eq, wT_eq, wEs_eq, wI_eq, wS_eq, wSs_eq, aft_eq, turnQ_eq, finQ_eq] at *
  exact W0.vaft_nx h
theorem vaft_rt {d : D} (h : Q (.rt d M)) : aft g r Q (.rt d M) := by
  try simp only [wR_eq, wO_eq, wE_eq, wT_eq, wEs_eq, wI_eq, wS_eq, wSs_eq, aft_eq, turnQ_eq, finQ_eq] at *
  exact W0.vaft_rt h
theorem vaft_bk (h : Q (.bk env M)) : aft g r Q (.bk env M) := by
  try simp only [wR_eq, wO_eq, wE_eq, wT_eq, wEs_eq, wI_eq, wS_eq, wSs_eq, aft_eq, turnQ_eq, finQ_eq] at *
  exact W0.vaft_bk h
theorem vaft_ct (h : Q (.ct env M)) : aft g r Q (.ct env M) := by
  try simp only [wR_eq, wO_eq, wE_eq, wT_eq, wEs_eq, wI_eq, wS_eq, wSs_eq, aft_eq, turnQ_eq, finQ_eq] at *
  exact W0.vaft_ct h
theorem vaft_ex {c : Str} {p : List (Str × D)} (h : Q (.ex env c p M)) : aft g r Q (.ex env c p M) := by
  try simp only [wR_eq, wO_eq, wE_eq, wT_eq, wEs_eq, wI_eq, wS_eq, wSs_eq, aft_eq, turnQ_eq, finQ_eq] at *
  exact W0.vaft_ex h
theorem vS_ife {t : E} {a b : Ss} (h : wT g t env M (fun x M => if x then wSs g a env M (aft g r Q) else wSs g b env M (aft g r Q)) fun c p M => Q (.ex env c p M)) : wSs g (.cons (.ife t a b) r) env M Q := by
  try simp only [wR_eq, wO_eq, wE_eq, wT_eq, wEs_eq, wI_eq, wS_eq, wSs_eq, aft_eq, turnQ_eq, finQ_eq] at *
  exact W0.vS_ife h
theorem vturn_nx {I : Env → Mem → Prop} (h : I env M) : turnQ I Q (.nx env M) := by
  try simp only [wR_eq, wO_eq, wE_eq, wT_eq, wEs_eq, wI_eq, wS_eq, wSs_eq, aft_eq, turnQ_eq, finQ_eq] at *
  exact W0.vturn_nx h
theorem vturn_ct {I : Env → Mem → Prop} (h : I env M) : turnQ I Q (.ct env M) := by
  try simp only [wR_eq, wO_eq, wE_eq, wT_eq, wEs_eq, wI_eq, wS_eq, wSs_eq, aft_eq, turnQ_eq, finQ_eq] at *
  exact W0.vturn_ct h
theorem vturn_bk {I : Env → Mem → Prop} (h : Q (.nx env M)) : turnQ I Q (.bk env M) := by
  try simp only [wR_eq, wO_eq, wE_eq, wT_eq, wEs_eq, wI_eq, wS_eq, wSs_eq, aft_eq, turnQ_eq, finQ_eq] at *
  exact W0.vturn_bk h
theorem vturn_rt {I : Env → Mem → Prop} {d : D} (h : Q (.rt d M)) : turnQ I Q (.rt d M) := by
  try simp only [wR_eq, wO_eq, wE_eq, wT_eq, wEs_eq, wI_eq, wS_eq, wSs_eq, aft_eq, turnQ_eq, finQ_eq] at *
  exact W0.vturn_rt h
theorem vturn_ex {I : Env → Mem → Prop} {c : Str} {p : List (Str × D)} (h : Q (.ex env c p M)) : turnQ I Q (.ex env c p M) := by
  try simp only [wR_eq, wO_eq, wE_eq, wT_eq, wEs_eq, wI_eq, wS_eq, wSs_eq, aft_eq, turnQ_eq, finQ_eq] at *
  exact W0.vturn_ex h
theorem vS_for {F : Fn} {gt : List Nat} {it : It} {b : Ss} (h : wI ⟨F, true⟩ it env M (fun w M => ∃ I : List D → Env → Mem → Prop, (∀ l env M, I l env M → w.watch M = true) ∧ I w.items env M ∧
      (∀ x l env M, I (x :: l) env M → ∃ env1, bindG gt x M env = some env1 ∧ wSs ⟨F, true⟩ b env1 M (turnQ (I l) (aft ⟨F, true⟩ r Q))) ∧
      ∀ env M, I [] env M → wSs ⟨F, true⟩ r env M Q) fun c p M => Q (.ex env c p M)) : wSs ⟨F, true⟩ (.cons (.for_ gt it b) r) env M Q := by
  try simp only [wR_eq, wO_eq, wE_eq, wT_eq, wEs_eq, wI_eq, wS_eq, wSs_eq, aft_eq, turnQ_eq, finQ_eq] at *
  exact W0.vS_for h
theorem vE_fin {x : Option Fl} {Q : D → Mem → Prop} {X : Ex} (h : wO x fun fl => match fl with
    | .rt d M => Q d M
    | .nx _ M => Q .non M
    | .ex _ c p M => X c p M
    | _ => False) : wR (fin x) Q X := by
  try simp only [wR_eq, wO_eq, wE_eq, wT_eq, wEs_eq, wI_eq, wS_eq, wSs_eq, aft_eq, turnQ_eq, finQ_eq] at *
  exact W0.vE_fin h
theorem vfin_rtQ {Q : D → Mem → Prop} {d : D} (h : Q d M) : finQ Q X (.rt d M) := by
  try simp only [wR_eq, wO_eq, wE_eq, wT_eq, wEs_eq, wI_eq, wS_eq, wSs_eq, aft_eq, turnQ_eq, finQ_eq] at *
  exact W0.vfin_rtQ h
theorem vfin_nxQ {Q : D → Mem → Prop} (h : Q .non M) : finQ Q X (.nx env M) := by
  try simp only [wR_eq, wO_eq, wE_eq, wT_eq, wEs_eq, wI_eq, wS_eq, wSs_eq, aft_eq, turnQ_eq, finQ_eq] at *
  exact W0.vfin_nxQ h
theorem vfin_exQ {Q : D → Mem → Prop} {c : Str} {p : List (Str × D)} (h : X c p M) : finQ Q X (.ex env c p M) := by
  try simp only [wR_eq, wO_eq, wE_eq, wT_eq, wEs_eq, wI_eq, wS_eq, wSs_eq, aft_eq, turnQ_eq, finQ_eq] at *
  exact W0.vfin_exQ h
theorem vE_def {P : Prg} {k : Nat} {f : Str} {ds : List D} {ps n : Nat} {b : Ss} {Q : D → Mem → Prop} (e : P.lookup f = some ⟨ps, n, b⟩) (hl : ds.length = ps) (h : wSs ⟨callK P true k, true⟩ b (startE n ds) M (finQ Q X)) : wR (callK P true (k + 1) f ds M) Q X := by
  try simp only [wR_eq, wO_eq, wE_eq, wT_eq, wEs_eq, wI_eq, wS_eq, wSs_eq, aft_eq, turnQ_eq, finQ_eq] at *
  exact W0.vE_def e hl h
end Z
end
section
set_option Elab.async false
set_option linter.all false
set_option maxRecDepth 100000
set_option maxHeartbeats 1000000
set_option autoImplicit false
/-! Calls, a list of draws, small rules. -/
namespace Z
open PySem
variable {M : Mem} {X : Ex} {F : Fn} {f : Str} {ds : List D} {r : Nat} {Q : D → Mem → Prop} {P : D → Prop}
variable {g : G} {env : Env}
theorem wE.mono {e : E} {Q Q' : D → Mem → Prop} {X X' : Ex} (h : wE g e env M Q X) (hq : ∀ a M, Q a M → Q' a M) (he : ∀ c p M, X c p M → X' c p M) : wE g e env M Q' X' := by
  simp only [wE_eq] at *
  exact W0.wR.mono h hq he
theorem wT.mono {e : E} {Q Q' : Bool → Mem → Prop} {X X' : Ex} (h : wT g e env M Q X) (hq : ∀ a M, Q a M → Q' a M) (he : ∀ c p M, X c p M → X' c p M) : wT g e env M Q' X' := by
  simp only [wT_eq] at *
  exact W0.wR.mono h hq he
theorem wI.mono {e : It} {Q Q' : Wk → Mem → Prop} {X X' : Ex} (h : wI g e env M Q X) (hq : ∀ a M, Q a M → Q' a M) (he : ∀ c p M, X c p M → X' c p M) : wI g e env M Q' X' := by
  simp only [wI_eq] at *
  exact W0.wR.mono h hq he
theorem wEs.mono {e : Es} {Q Q' : List D → Mem → Prop} {X X' : Ex} (h : wEs g e env M Q X) (hq : ∀ a M, Q a M → Q' a M) (he : ∀ c p M, X c p M → X' c p M) : wEs g e env M Q' X' := by
  simp only [wEs_eq] at *
  exact W0.wR.mono h hq he
theorem wSs.mono {s : Ss} {Q Q' : Fl → Prop} (h : wSs g s env M Q) (hq : ∀ fl, Q fl → Q' fl) : wSs g s env M Q' := by
  simp only [wSs_eq] at *
  exact W0.wO.mono h hq
theorem inv_vW (h : D.vals ds = true) (e : wR (F f ds []) (fun v M1 => ∃ v', outD 0 M1 v = some v' ∧ Q v' M) noE) : wR (inv F f ds M) Q X := by
  obtain ⟨v, M1, e1, v', e2, h2⟩ := wR.ok e
  exact wR.of (inv_vals h e1 e2) h2
/-- the draws -/
def Dr (ns : List Int) : MO := .lst (ns.map .int)
theorem vals_ints : ∀ ns : List Int, D.vals (ns.map .int) = true
  | [] => rfl
  | n :: ns => vals_ints ns
/-- what a def that takes draws gives -/
def SpD (F : Fn) (f : Str) (ds : List D) (P : D → Prop) : Prop := ∀ ns : List Int, wR (F f (.ref 0 :: ds) [Dr ns]) (fun v M1 => ∃ ns' Mx v', M1 = Dr ns' :: Mx ∧ outD 1 M1 v = some v' ∧ P v') noE
theorem objs_dr {ns : List Int} (hM : M[r]? = some (Dr ns)) : objs M [r] = some [Dr ns] := by
  rw [objs, hM]
  rfl
theorem inv_dr {ns : List Int} (h : SpD F f ds P) (hv : D.vals ds = true) (hM : M[r]? = some (Dr ns)) (hQ : ∀ v ns', P v → Q v (M.set r (Dr ns'))) : wR (inv F f (.ref r :: ds) M) Q X := by
  obtain ⟨v, M1, e1, ns', Mx, v', rfl, e2, h2⟩ := wR.ok (h ns)
  obtain ⟨a1, a2, a3⟩ := refs_vals hv
  have hr : refsOf (.ref r :: ds) = [r] := by
    unfold refsOf
    rw [List.flatMap_cons, a1]
    rfl
  refine wR.of ?_ (hQ v' ns' h2)
  unfold inv
  rw [if_pos (by rw [List.all_cons, a2]; rfl), hr, objs_dr hM]
  dsimp only
  have fl : flats [Dr ns] = true := by
    show (D.vals (ns.map .int) && true) = true
    rw [vals_ints]
    rfl
  rw [if_pos fl]
  have er : ren [r] (.ref r) = .ref 0 := by
    show D.ref ([r].idxOf r) = _
    simp
  rw [List.map_cons, er, a3, e1]
  have fl2 : flats ((Dr ns' :: Mx).take [r].length) = true := by
    show (D.vals (ns'.map .int) && true) = true
    rw [vals_ints]
    rfl
  unfold backR
  dsimp only
  rw [if_pos fl2]
  have e3 : outD [r].length (Dr ns' :: Mx) v = some v' := e2
  rw [e3]
  rfl
/-! ### methods, places -/
theorem dec63 {j : Nat} (h : j < 100000000) : (decide (-(2 ^ 63) ≤ (j : Int)) && decide ((j : Int) < 2 ^ 63)) = true := by
  simp
  omega
theorem erase_perm' {α : Type} : ∀ (l : List α) (i : Nat) (h : i < l.length), (l[i] :: l.eraseIdx i).Perm l
  | a :: l, 0, _ => List.Perm.refl _
  | a :: l, i + 1, h => by
    have h' : i < l.length := by simpa using h
    have ih := erase_perm' l i h'
    show (l[i] :: a :: l.eraseIdx i).Perm (a :: l)
    exact (List.Perm.swap a _ _).trans (ih.cons a)
theorem erase_map {α β : Type} (f : α → β) : ∀ (l : List α) (i : Nat), (l.map f).eraseIdx i = (l.eraseIdx i).map f
  | [], _ => rfl
  | _ :: _, 0 => rfl
  | a :: l, i + 1 => by
    show f a :: (l.map f).eraseIdx i = f a :: (l.eraseIdx i).map f
    rw [erase_map]
theorem set_map {α β : Type} (f : α → β) : ∀ (l : List α) (i : Nat) (x : α), (l.map f).set i (f x) = (l.set i x).map f
  | [], _, _ => rfl
  | _ :: _, 0, _ => rfl
  | a :: l, i + 1, x => by
    show f a :: (l.map f).set i (f x) = f a :: (l.set i x).map f
    rw [set_map]
theorem seqIx_n {j n : Nat} (h : j < n) : seqIndex? (j : Int) n = some j := by
  unfold seqIndex?
  simp
  omega
theorem pop_at {es : List D} {j : Nat} {x : D} (hM : M[r]? = some (.lst es)) (hj : es[j]? = some x) (h6 : j < 100000000) : mthD .pop (.ref r) [.int (j : Int)] M = some (x, M.set r (.lst (es.eraseIdx j))) := by
  have hl := (List.getElem?_eq_some_iff.mp hj).1
  simp only [mthD, hM, dec63 h6, if_true, seqIx_n hl, hj]
theorem pop_last {es : List D} {x : D} (hM : M[r]? = some (.lst (es ++ [x]))) : mthD .pop (.ref r) [] M = some (x, M.set r (.lst es)) := by
  have e1 : (es ++ [x])[(es ++ [x]).length - 1]? = some x := by simp
  simp only [mthD, hM, e1, List.dropLast_concat]
theorem app_end {es : List D} {x : D} (hM : M[r]? = some (.lst es)) (hl : es.length < 16777216) : mthD .append (.ref r) [x] M = some (.non, M.set r (.lst (es ++ [x]))) := by
  simp only [mthD, hM, decide_eq_true hl, if_true]
theorem set_at {es : List D} {j : Nat} {v : D} (hM : M[r]? = some (.lst es)) (hj : j < es.length) (h6 : j < 100000000) : setSub (.ref r) (.int (j : Int)) v M = some (M.set r (.lst (es.set j v))) := by
  simp only [setSub, hM, seqIx_n hj, dec63 h6, if_true]
/-- calls, never opened by themselves -/
@[irreducible] def CK (P : Prg) (k : Nat) : Fn := callK P true k
theorem CK_eq (P : Prg) (k : Nat) : CK P k = callK P true k := by
  unfold CK
  rfl
theorem CK_w {P : Prg} {k : Nat} {f : Str} {ds : List D} {ps n : Nat} {b : Ss} {Q : D → Mem → Prop} (e : P.lookup f = some ⟨ps, n, b⟩) (hl : ds.length = ps) (h : wSs ⟨CK P k, true⟩ b (startE n ds) M (finQ Q X)) : wR (CK P (k + 1) f ds M) Q X := by
  rw [CK_eq]
  rw [CK_eq] at h
  exact vE_def e hl h
theorem frz_w {d : D} (h : d.val = true) {R : D → Prop} (h' : R d) : ∃ x', frz d = some x' ∧ R x' := ⟨d, frz_val h, h'⟩
end Z
end
section
set_option Elab.async false
set_option linter.all false
set_option maxRecDepth 100000
set_option maxHeartbeats 1000000
set_option autoImplicit false
/-! The law's makers: draws. -/
namespace Z
open PySem
local macro_rules | `(tactic| array_mem_dec) => `(tactic| first
  | with_reducible refine vE_c ?_ | with_reducible refine vE_nope ?_ | with_reducible refine vE_var (by with_unfolding_all rfl) ?_ | with_reducible refine vE_bin ?_ | with_reducible refine vE_neg ?_ | with_reducible refine vE_cmp ?_ | with_reducible refine vE_not ?_ | with_reducible refine vE_and ?_ | with_reducible refine vE_or ?_ | with_reducible refine vE_ite ?_
  | with_reducible refine vE_tup ?_ | with_reducible refine vE_lst ?_ | with_reducible refine vE_nil ?_ | with_reducible refine vE_cons ?_ | with_reducible refine vE_idx ?_ | with_reducible refine vE_sli ?_ | with_reducible refine vE_mat ?_ | with_reducible refine vE_call ?_ | with_reducible refine vE_bi (by with_unfolding_all rfl) ?_ | with_reducible refine vE_mth ?_ | with_reducible refine vE_isi ?_
  | with_reducible refine vT_nope ?_ | with_reducible refine vT_var (by with_unfolding_all rfl) ?_ | with_reducible refine vT_cmp ?_ | with_reducible refine vT_not ?_ | with_reducible refine vT_and ?_ | with_reducible refine vT_or ?_ | with_reducible refine vT_call ?_ | with_reducible refine vT_bi (by with_unfolding_all rfl) ?_ | with_reducible refine vT_isi ?_ | with_reducible refine vT_idx ?_
  | with_reducible refine vI_seq ?_ | with_reducible refine vI_rng ?_
  | with_reducible refine vS_nil ?_ | with_reducible refine vS_skip ?_ | with_reducible refine vS_expr ?_ | with_reducible refine vS_asg ?_ | with_reducible refine vS_asgT ?_ | with_reducible refine vS_sub ?_ | with_reducible refine vS_ret ?_ | with_reducible refine vS_brk ?_ | with_reducible refine vS_cont ?_ | with_reducible refine vS_ife ?_ | with_reducible refine vS_for ?_
  | with_reducible refine vaft_nx ?_ | with_reducible refine vaft_rt ?_ | with_reducible refine vaft_bk ?_ | with_reducible refine vaft_ct ?_ | with_reducible refine vturn_nx ?_ | with_reducible refine vturn_ct ?_ | with_reducible refine vturn_bk ?_ | with_reducible refine vturn_rt ?_ | with_reducible refine vfin_rtQ ?_ | with_reducible refine vfin_nxQ ?_)
local macro_rules | `(tactic| array_get_dec) => `(tactic| repeat (first
  | with_reducible refine vE_c ?_ | with_reducible refine vE_nope ?_ | with_reducible refine vE_var (by with_unfolding_all rfl) ?_ | with_reducible refine vE_bin ?_ | with_reducible refine vE_neg ?_ | with_reducible refine vE_cmp ?_ | with_reducible refine vE_not ?_ | with_reducible refine vE_and ?_ | with_reducible refine vE_or ?_ | with_reducible refine vE_ite ?_
  | with_reducible refine vE_tup ?_ | with_reducible refine vE_lst ?_ | with_reducible refine vE_nil ?_ | with_reducible refine vE_cons ?_ | with_reducible refine vE_idx ?_ | with_reducible refine vE_sli ?_ | with_reducible refine vE_mat ?_ | with_reducible refine vE_call ?_ | with_reducible refine vE_bi (by with_unfolding_all rfl) ?_ | with_reducible refine vE_mth ?_ | with_reducible refine vE_isi ?_
  | with_reducible refine vT_nope ?_ | with_reducible refine vT_var (by with_unfolding_all rfl) ?_ | with_reducible refine vT_cmp ?_ | with_reducible refine vT_not ?_ | with_reducible refine vT_and ?_ | with_reducible refine vT_or ?_ | with_reducible refine vT_call ?_ | with_reducible refine vT_bi (by with_unfolding_all rfl) ?_ | with_reducible refine vT_isi ?_ | with_reducible refine vT_idx ?_
  | with_reducible refine vI_seq ?_ | with_reducible refine vI_rng ?_
  | with_reducible refine vS_nil ?_ | with_reducible refine vS_skip ?_ | with_reducible refine vS_expr ?_ | with_reducible refine vS_asg ?_ | with_reducible refine vS_asgT ?_ | with_reducible refine vS_sub ?_ | with_reducible refine vS_ret ?_ | with_reducible refine vS_brk ?_ | with_reducible refine vS_cont ?_ | with_reducible refine vS_ife ?_ | with_reducible refine vS_for ?_
  | with_reducible refine vaft_nx ?_ | with_reducible refine vaft_rt ?_ | with_reducible refine vaft_bk ?_ | with_reducible refine vaft_ct ?_ | with_reducible refine vturn_nx ?_ | with_reducible refine vturn_ct ?_ | with_reducible refine vturn_bk ?_ | with_reducible refine vturn_rt ?_ | with_reducible refine vfin_rtQ ?_ | with_reducible refine vfin_nxQ ?_))
variable {M : Mem} {X : Ex} {k : Nat}
def CC : Nat → Fn := CK k75_P
theorem CC_eq (k : Nat) : CC k = C k := CK_eq _ _
theorem C_w {f : Str} {ds : List D} {ps n : Nat} {b : Ss} {Q : D → Mem → Prop} (e : k75_P.lookup f = some ⟨ps, n, b⟩) (hl : ds.length = ps) (h : wSs ⟨CC k, true⟩ b (startE n ds) M (finQ Q X)) : wR (CC (k + 1) f ds M) Q X := CK_w e hl h
theorem len_ref {r : Nat} {ds : List D} (h : M[r]? = some (.lst ds)) : biD .len [.ref r] M = some (.int (ds.length : Int)) := by
  simp only [biD, lenD, seqOf, h, Option.map_some]
theorem mod_int {j m : Int} (hm : 0 < m) : binD .mod (.int j) (.int m) M = some (.int (j % m)) := by
  show (binI .mod j m).map D.int = _
  unfold binI
  rw [if_pos hm]
  rfl
theorem idx_of {a : D} {l : List D} {j : Nat} {x : D} (ha : a = .tl l ∨ a = .tup l ∨ a = .fl l ∨ ∃ r, a = .ref r ∧ M[r]? = some (.lst l)) (h : l[j]? = some x) (hj : j < 100000000) : idxD a (.int (j : Int)) M = some x := by
  have hl := (List.getElem?_eq_some_iff.mp h).1
  have e : seqIndex? (j : Int) l.length = some j := seqIx_nat hl
  have c : (decide (-(2 ^ 63) ≤ (j : Int)) && decide ((j : Int) < 2 ^ 63)) = true := by
    simp
    omega
  rcases ha with rfl | rfl | rfl | ⟨r, rfl, hr⟩
  · simp only [idxD, seqOf, e, c, if_true, h]
  · simp only [idxD, seqOf, e, c, if_true, h]
  · simp only [idxD, seqOf, e, c, if_true, h]
  · simp only [idxD, seqOf, hr, e, c, if_true, h]
theorem eq_intC (i j : Int) : cmpD .eq (.int i) (.int j) M = some (decide (i = j)) := eq_int (M := M) i j
def isBel (m : Int) (d : D) : Prop := ∃ j : Nat, d = .int (j : Int) ∧ (j : Int) < m
theorem m_take {m : Int} (hm : 0 < m) : SpD (CC (k + 1)) "_law_take" [.int m] (isBel m) := by
  intro ns
  refine C_w k75_l__law_take rfl ?_
  show wSs _ k75_b__law_take [some (.ref 0), some (.int m)] _ _
  unfold k75_b__law_take
  array_get_dec
  refine ⟨.int (ns.length : Int), by simp [biD, lenD, seqOf, Dr], ?_⟩
  array_get_dec
  refine ⟨_, eq_intC _ _, ?_⟩
  rcases List.eq_nil_or_concat ns with rfl | ⟨l, j, rfl⟩
  · rw [if_pos (by simp)]
    array_get_dec
    exact ⟨[], [], .int 0, rfl, rfl, 0, rfl, hm⟩
  · rw [List.concat_eq_append, if_neg (by rw [List.length_append]; simp; omega)]
    array_get_dec
    refine ⟨rfl, ?_⟩
    array_get_dec
    refine ⟨_, rfl, rfl, .int j, [Dr l], ?_, ?_⟩
    · have e1 : ((l ++ [j]).map D.int)[((l ++ [j]).map D.int).length - 1]? = some (.int j) := by
        simp
      have e2 : ((l ++ [j]).map D.int).dropLast = l.map D.int := by simp
      show (match ((l ++ [j]).map D.int)[((l ++ [j]).map D.int).length - 1]? with
        | some d => some (d, List.set [Dr (l ++ [j])] 0 (.lst ((l ++ [j]).map D.int).dropLast))
        | none => none) = _
      rw [e1, e2]
      rfl
    · array_get_dec
      refine ⟨_, rfl, ?_⟩
      array_get_dec
      refine ⟨.int (j % m), mod_int hm, ?_⟩
      array_get_dec
      have h0 := Int.emod_nonneg j (show m ≠ 0 by omega)
      have h1 := Int.emod_lt_of_pos j hm
      exact ⟨l, [], .int (j % m), rfl, rfl, (j % m).toNat, by rw [Int.toNat_of_nonneg h0], by omega⟩
theorem m_pick {ds : List D} (hd : D.vals ds = true) (hn : ds ≠ []) (hl : ds.length < 100000000) : SpD (CC (k + 2)) "_law_pick" [.tl ds] (· ∈ ds) := by
  intro ns
  refine C_w k75_l__law_pick rfl ?_
  show wSs _ k75_b__law_pick [some (.ref 0), some (.tl ds)] _ _
  unfold k75_b__law_pick
  array_get_dec
  refine ⟨.int (ds.length : Int), rfl, ?_⟩
  array_get_dec
  refine ⟨_, rfl, ?_⟩
  have hp : 0 < ds.length := List.length_pos_iff.mpr hn
  refine inv_dr (m_take (by omega)) rfl rfl fun v ns' hv => ?_
  obtain ⟨j, rfl, h1⟩ := hv
  have hj : j < ds.length := by omega
  refine ⟨ds[j], idx_of (.inl rfl) (by simp) (by omega), ?_⟩
  · array_get_dec
    have hx : D.val ds[j] = true := by
      have key : ∀ (l : List D), D.vals l = true → ∀ x ∈ l, x.val = true := fun l => by
        induction l with
        | nil => exact fun _ x hx => by cases hx
        | cons a l ih =>
          intro h x hx
          have h' := band (show (a.val && D.vals l) = true from h)
          rcases List.mem_cons.mp hx with rfl | hx
          · exact h'.1
          · exact ih h'.2 x hx
      exact key ds hd _ (List.getElem_mem hj)
    exact ⟨ns', [], ds[j], rfl, out_val hx, List.getElem_mem hj⟩
/-! ### an arrangement -/
theorem vals_tl1 (l : List Int) : D.vals [.tl (l.map D.int)] = true := vals_tl l
theorem m_shuffled {is : List Int} (hz : is.length < 16777216) : SpD (CC (k + 2)) "_law_shuffled" [.tl (is.map .int)] (fun v => ∃ ts : List Int, v = .fl (ts.map .int) ∧ ts.Perm is) := by
  intro ns
  refine C_w k75_l__law_shuffled rfl ?_
  show wSs _ k75_b__law_shuffled [some (.ref 0), some (.tl (is.map .int)), none, none, none] _ _
  unfold k75_b__law_shuffled
  array_get_dec
  refine ⟨_, rfl, ?_⟩
  refine ⟨_, rfl, ?_⟩
  refine ⟨_, rfl, ?_⟩
  array_get_dec
  refine ⟨_, rfl, Nat.zero_le _, ?_⟩
  refine ⟨_, rfl, ?_⟩
  refine ⟨_, rfl, ?_⟩
  array_get_dec
  refine ⟨.int ((is.map D.int).length : Int), rfl, ?_⟩
  refine ⟨0, _, rfl, rfl, ?_, ?_⟩
  · rw [List.length_map]
    unfold rngOk
    simp
    omega
  refine ⟨fun l env M => ∃ (ns' left told : List Int) (z : Option D), env = [some (.ref 0), some (.tl (is.map .int)), some (.ref 1), some (.ref 2), z] ∧ M = [Dr ns', .lst (left.map .int), .lst (told.map .int)] ∧ left.length = l.length ∧ (told ++ left).Perm is, fun _ _ _ _ => rfl, ⟨ns, is, [], none, rfl, rfl, ?_, List.Perm.refl _⟩, ?_, ?_⟩
  · rw [rangeL_len, List.length_map]
    omega
  · rintro x l env M ⟨ns', left, told, z, rfl, rfl, hl, hp⟩
    refine ⟨_, rfl, ?_⟩
    array_get_dec
    refine ⟨rfl, ?_⟩
    array_get_dec
    refine ⟨rfl, ?_⟩
    array_get_dec
    refine ⟨.int ((left.map D.int).length : Int), rfl, ?_⟩
    array_get_dec
    refine ⟨_, rfl, ?_⟩
    rw [List.length_cons] at hl
    refine inv_dr (m_take (by rw [List.length_map]; omega)) rfl rfl fun v ns2 hv => ?_
    obtain ⟨j, rfl, h1⟩ := hv
    rw [List.length_map] at h1
    have hj : j < left.length := by omega
    array_get_dec
    have hlen := hp.length_eq
    rw [List.length_append] at hlen
    refine ⟨_, rfl, rfl, .int left[j], [Dr ns2, .lst ((left.eraseIdx j).map .int), .lst (told.map .int)], ?_, ?_⟩
    · have h := pop_at (r := 1) (M := [Dr ns2, .lst (left.map .int), .lst (told.map .int)]) (es := left.map .int) (j := j) (x := .int left[j]) rfl (by rw [List.getElem?_map, List.getElem?_eq_getElem hj]; rfl) (by omega)
      rw [erase_map] at h
      exact h
    · array_get_dec
      refine ⟨_, rfl, rfl, .non, [Dr ns2, .lst ((left.eraseIdx j).map .int), .lst ((told ++ [left[j]]).map .int)], ?_, ?_⟩
      · have h := app_end (r := 2) (M := [Dr ns2, .lst ((left.eraseIdx j).map .int), .lst (told.map .int)]) (es := told.map .int) (x := .int left[j]) rfl (by rw [List.length_map]; omega)
        rw [List.map_append]
        exact h
      · array_get_dec
        refine ⟨ns2, left.eraseIdx j, told ++ [left[j]], _, rfl, rfl, ?_, ?_⟩
        · rw [List.length_eraseIdx]
          split <;> omega
        · rw [List.append_assoc]
          exact (List.Perm.append_left told (erase_perm' left j hj)).trans hp
  · rintro env M ⟨ns', left, told, z, rfl, rfl, hl, hp⟩
    array_get_dec
    have e : left = [] := List.length_eq_zero_iff.mp hl
    subst e
    rw [List.append_nil] at hp
    refine ⟨ns', _, _, rfl, ?_, told, rfl, hp⟩
    show (if D.vals (told.map .int) then some (D.fl (told.map .int)) else _) = _
    rw [if_pos (vals_ints told)]
theorem int_at {l : List Int} {j : Nat} (h : j < l.length) : (l.map D.int)[j]? = some (.int l[j]) := by
  rw [List.getElem?_map, List.getElem?_eq_getElem h]
  rfl
theorem m_identity {n : Int} (hn : 0 ≤ n ∧ n ≤ 1000) {Q : D → Mem → Prop} (h : Q (.tup ((rangeI n.toNat).map .int)) M) : wR (inv (CC (k + 1)) "_law_identity" [.int n] M) Q X := by
  refine inv_vW rfl ?_
  refine C_w k75_l__law_identity rfl ?_
  show wSs _ k75_b__law_identity [some (.int n)] _ _
  unfold k75_b__law_identity
  array_get_dec
  refine ⟨.fl (rangeL 0 n.toNat), ?_, ?_⟩
  · show (if decide (-(2 ^ 62) ≤ n) && decide (n ≤ 16777216) then some (D.fl (rangeL 0 n.toNat)) else none) = _
    rw [if_pos (by simp; omega)]
  · array_get_dec
    refine ⟨_, rfl, ?_⟩
    array_get_dec
    rw [range_ints]
    refine ⟨_, out_val ?_, h⟩
    exact vals_ints (rangeI n.toNat)
/-! ### one ring -/
/-- the row behind j turns -/
def ringStep (ring : List Int) (row : List Int) (j : Nat) : List Int := row.set (ring.getD j 0).toNat (ring.getD ((j + 1) % ring.length) 0)
structure RingIs (n : Nat) (ring : List Int) (j : Nat) (row : List Int) : Prop where
  len : row.length = n
  on : ∀ t, t < j → t < ring.length → row[(ring.getD t 0).toNat]? = some (ring.getD ((t + 1) % ring.length) 0)
  off : ∀ i : Nat, i < n → (∀ t, t < j → t < ring.length → (ring.getD t 0).toNat ≠ i) → row[i]? = some (i : Int)
theorem getD_lt {l : List Int} {j : Nat} (h : j < l.length) : l.getD j 0 = l[j] := by
  rw [List.getD_eq_getElem?_getD, List.getElem?_eq_getElem h]
  rfl
theorem ring_in {n : Nat} {ring : List Int} (hr : ∀ x ∈ ring, 0 ≤ x ∧ x < (n : Int)) {j : Nat} (h : j < ring.length) : (ring.getD j 0).toNat < n ∧ 0 ≤ ring.getD j 0 ∧ ring.getD j 0 < (n : Int) := by
  rw [getD_lt h]
  have := hr _ (List.getElem_mem h)
  omega
theorem ring_inj {ring : List Int} (hn : ring.Nodup) (hr : ∀ x ∈ ring, 0 ≤ x) {i j : Nat} (hi : i < ring.length) (hj : j < ring.length) (e : (ring.getD i 0).toNat = (ring.getD j 0).toNat) : i = j := by
  rw [getD_lt hi, getD_lt hj] at e
  have h1 := hr _ (List.getElem_mem hi)
  have h2 := hr _ (List.getElem_mem hj)
  have e' : ring[i] = ring[j] := by omega
  have hp := List.pairwise_iff_getElem.mp hn
  rcases Nat.lt_trichotomy i j with h | h | h
  · exact absurd e' (hp i j hi hj h)
  · exact h
  · exact absurd e'.symm (hp j i hj hi h)
theorem ring_next {n : Nat} {ring : List Int} (hn : ring.Nodup) (hr : ∀ x ∈ ring, 0 ≤ x ∧ x < (n : Int)) {j : Nat} {row : List Int} (hj : j < ring.length) (h : RingIs n ring j row) : RingIs n ring (j + 1) (ringStep ring row j) := by
  have hin := ring_in hr hj
  refine ⟨by unfold ringStep; rw [List.length_set]; exact h.len, fun t ht htl => ?_, fun i hi ho => ?_⟩
  · unfold ringStep
    by_cases e : t = j
    · subst e
      rw [List.getElem?_set_self (by rw [h.len]; exact hin.1)]
    · have hne : (ring.getD j 0).toNat ≠ (ring.getD t 0).toNat := fun z => e (ring_inj hn (fun x hx => (hr x hx).1) hj htl z).symm
      rw [List.getElem?_set_ne hne]
      exact h.on t (by omega) htl
  · unfold ringStep
    rw [List.getElem?_set_ne (ho j (by omega) hj)]
    exact h.off i hi fun t ht htl => ho t (by omega) htl
theorem ring_start (n : Nat) (ring : List Int) : RingIs n ring 0 (rangeI n) :=
  ⟨rangeI_len n, fun t ht => by omega, fun i hi _ => by
    unfold rangeI
    rw [List.getElem?_map, List.getElem?_range hi]
    rfl⟩
theorem ring_end {n : Nat} {ring : List Int} (hn : ring.Nodup) (hr : ∀ x ∈ ring, 0 ≤ x ∧ x < (n : Int)) {row : List Int} (h : RingIs n ring ring.length row) : row.Perm (rangeI n) := by
  have val : ∀ i : Nat, i < n → (∃ t, t < ring.length ∧ (ring.getD t 0).toNat = i ∧ row[i]? = some (ring.getD ((t + 1) % ring.length) 0)) ∨ ((∀ t, t < ring.length → (ring.getD t 0).toNat ≠ i) ∧ row[i]? = some (i : Int)) := fun i hi => by
    by_cases e : ∃ t, t < ring.length ∧ (ring.getD t 0).toNat = i
    · obtain ⟨t, h1, h2⟩ := e
      refine .inl ⟨t, h1, h2, ?_⟩
      rw [← h2]
      exact h.on t h1 h1
    · have e' : ∀ t, t < ring.length → (ring.getD t 0).toNat ≠ i := fun t ht z => e ⟨t, ht, z⟩
      exact .inr ⟨e', h.off i hi fun t ht _ => e' t ht⟩
  have md : ∀ t, t < ring.length → (t + 1) % ring.length < ring.length := fun t ht => Nat.mod_lt _ (by omega)
  have mi : ∀ s t, s < ring.length → t < ring.length → (s + 1) % ring.length = (t + 1) % ring.length → s = t := fun s t hs ht e => by
    have key : ∀ s, s < ring.length → (s + 1) % ring.length = if s + 1 = ring.length then 0 else s + 1 := fun s hs => by
      split
      · rename_i e
        rw [e, Nat.mod_self]
      · exact Nat.mod_eq_of_lt (by omega)
    rw [key s hs, key t ht] at e
    split at e <;> split at e <;> omega
  refine perm_range ?_ (fun x hx => ?_) h.len
  · refine List.pairwise_iff_getElem.mpr fun i j hi hj hij e => ?_
    have e1 : row[i]? = row[j]? := by
      rw [List.getElem?_eq_getElem hi, List.getElem?_eq_getElem hj, e]
    rw [h.len] at hi hj
    rcases val i hi with ⟨s, s1, s2, s3⟩ | ⟨s1, s2⟩
    · rcases val j hj with ⟨t, t1, t2, t3⟩ | ⟨t1, t2⟩
      · rw [s3, t3] at e1
        have e2 := Option.some.inj e1
        have e3 := ring_inj hn (fun x hx => (hr x hx).1) (md s s1) (md t t1) (by rw [e2])
        have := mi s t s1 t1 e3
        subst this
        omega
      · rw [s3, t2] at e1
        have e2 := Option.some.inj e1
        exact t1 _ (md s s1) (by rw [e2]; rfl)
    · rcases val j hj with ⟨t, t1, t2, t3⟩ | ⟨t1, t2⟩
      · rw [s2, t3] at e1
        have e2 := Option.some.inj e1
        exact s1 _ (md t t1) (by rw [← e2]; rfl)
      · rw [s2, t2] at e1
        have e2 := Option.some.inj e1
        omega
  · obtain ⟨i, hi, rfl⟩ := List.getElem_of_mem hx
    have hi' := hi
    rw [h.len] at hi'
    rcases val i hi' with ⟨s, s1, s2, s3⟩ | ⟨s1, s2⟩
    · rw [List.getElem?_eq_getElem hi] at s3
      rw [Option.some.inj s3]
      exact (ring_in hr (md s s1)).2
    · rw [List.getElem?_eq_getElem hi] at s2
      rw [Option.some.inj s2]
      omega
theorem m_of_rings {n : Int} {ring : List Int} (hn : 0 ≤ n ∧ n ≤ 1000) (hnd : ring.Nodup) (hr : ∀ x ∈ ring, 0 ≤ x ∧ x < n) (hl : ring.length ≤ 1000) {Q : D → Mem → Prop} (h : ∀ ps : List Int, ps.Perm (rangeI n.toNat) → Q (.tup (ps.map .int)) M) :
    wR (inv (CC (k + 1)) "_law_of_rings" [.int n, .tup [.tup (ring.map .int)]] M) Q X := by
  have hr' : ∀ x ∈ ring, 0 ≤ x ∧ x < ((n.toNat : Nat) : Int) := fun x hx => by
    have := hr x hx
    omega
  refine inv_vW (by show (D.vals [.tup (ring.map .int)] && true) = true; rw [show D.vals [.tup (ring.map .int)] = (D.vals (ring.map .int) && true) from rfl, vals_ints]; rfl) ?_
  refine C_w k75_l__law_of_rings rfl ?_
  show wSs _ k75_b__law_of_rings [some (.int n), some (.tup [.tup (ring.map .int)]), none, none, none] _ _
  unfold k75_b__law_of_rings
  array_get_dec
  refine ⟨.fl (rangeL 0 n.toNat), ?_, ?_⟩
  · show (if decide (-(2 ^ 62) ≤ n) && decide (n ≤ 16777216) then some (D.fl (rangeL 0 n.toNat)) else none) = _
    rw [if_pos (by simp; omega)]
  refine ⟨_, rfl, ?_⟩
  refine ⟨_, rfl, ?_⟩
  rw [range_ints]
  array_get_dec
  refine ⟨_, rfl, ?_⟩
  refine ⟨fun l env M => ∃ (row : List Int) (z1 z2 : Option D), env = [some (.int n), some (.tup [.tup (ring.map .int)]), some (.ref 0), z1, z2] ∧ M = [.lst (row.map .int)] ∧ ((l = [.tup (ring.map .int)] ∧ row = rangeI n.toNat) ∨ (l = [] ∧ row.Perm (rangeI n.toNat))), fun _ _ _ _ => rfl, ⟨_, _, _, rfl, rfl, .inl ⟨rfl, rfl⟩⟩, ?_, ?_⟩
  · rintro x l env M ⟨row, z1, z2, rfl, rfl, ⟨e, rfl⟩ | ⟨e, _⟩⟩
    · cases e
      refine ⟨_, rfl, ?_⟩
      array_get_dec
      refine ⟨_, rfl, ?_⟩
      refine ⟨0, _, rfl, rfl, ?_, ?_⟩
      · rw [List.length_map]
        unfold rngOk
        simp
        omega
      refine ⟨fun l env M => ∃ (row : List Int) (z : Option D) (j : Nat), env = [some (.int n), some (.tup [.tup (ring.map .int)]), some (.ref 0), some (.tup (ring.map .int)), z] ∧ M = [.lst (row.map .int)] ∧ j ≤ ring.length ∧ l = rangeL (j : Int) (ring.length - j) ∧ RingIs n.toNat ring j row, fun _ _ _ _ => rfl, ⟨_, z2, 0, rfl, rfl, Nat.zero_le _, ?_, ring_start _ _⟩, ?_, ?_⟩
      · rw [List.length_map]
        congr 1
      · rintro x l env M ⟨row, z, j, rfl, rfl, hj, e, hi⟩
        cases hm : ring.length - j with
        | zero =>
          rw [hm] at e
          cases e
        | succ m =>
          rw [hm] at e
          have hj' : j < ring.length := by omega
          obtain ⟨e1, e2⟩ := List.cons.inj e
          subst e1
          have hm2 : (j + 1) % ring.length < ring.length := Nat.mod_lt _ (by omega)
          refine ⟨_, rfl, ?_⟩
          array_get_dec
          refine ⟨.int ((j : Int) + 1), rfl, ?_⟩
          array_get_dec
          refine ⟨_, rfl, ?_⟩
          array_get_dec
          refine ⟨_, rfl, ?_⟩
          rw [List.length_map]
          refine ⟨_, mod_int (by omega), ?_⟩
          have em : ((j : Int) + 1) % (ring.length : Int) = (((j + 1) % ring.length : Nat) : Int) := by
            rw [Int.natCast_emod]
            rfl
          rw [em]
          refine ⟨_, idx_of (.inr (.inl rfl)) (int_at hm2) (by omega), ?_⟩
          refine ⟨_, rfl, ?_⟩
          array_get_dec
          refine ⟨_, idx_of (.inr (.inl rfl)) (int_at hj') (by omega), ?_⟩
          have hin := ring_in hr' hj'
          rw [getD_lt hj'] at hin
          have ex : ring[j] = ((ring[j].toNat : Nat) : Int) := by omega
          have hs := set_at (M := [MO.lst (row.map .int)]) (r := 0) (es := row.map .int) (j := ring[j].toNat) (v := .int ring[(j + 1) % ring.length]) rfl (by rw [List.length_map, hi.len]; exact hin.1) (by omega)
          rw [← ex, set_map] at hs
          refine ⟨_, hs, ?_⟩
          array_get_dec
          have hn := ring_next hnd hr' hj' hi
          refine ⟨_, _, j + 1, rfl, rfl, by omega, ?_, ?_⟩
          · rw [e2]
            congr 1
            omega
          · unfold ringStep at hn
            rw [getD_lt hj', getD_lt hm2] at hn
            exact hn
      · rintro env M ⟨row, z, j, rfl, rfl, hj, e, hi⟩
        have ej : j = ring.length := by
          cases hm : ring.length - j with
          | zero => omega
          | succ m =>
            rw [hm] at e
            cases e
        subst ej
        array_get_dec
        exact ⟨_, _, _, rfl, rfl, .inr ⟨rfl, ring_end hnd hr' hi⟩⟩
    · cases e
  · rintro env M ⟨row, z1, z2, rfl, rfl, ⟨e, _⟩ | ⟨_, hp⟩⟩
    · cases e
    · array_get_dec
      refine ⟨_, rfl, ?_⟩
      array_get_dec
      exact ⟨_, out_val (vals_ints row), h row hp⟩
theorem cut_to {l : List D} {j : Nat} : cutD l none (some (j : Int)) = l.take j := by
  unfold cutD
  rw [HT.sIx_nat, HT.sIx_none, List.drop_zero, Nat.sub_zero]
  rcases Nat.le_total j l.length with h | h
  · rw [Nat.min_eq_left h]
  · rw [Nat.min_eq_right h, List.take_of_length_le (Nat.le_refl _), List.take_of_length_le h]
def IsX (n : Int) (v : D) : Prop := ∃ ps : List Int, v = .tup (ps.map .int) ∧ ps.Perm (rangeI n.toNat)
theorem range_fl {n : Int} (hn : 0 ≤ n ∧ n ≤ 1000) : biD .range [.int n] M = some (.fl ((rangeI n.toNat).map .int)) := by
  rw [← range_ints]
  show (if decide (-(2 ^ 62) ≤ n) && decide (n ≤ 16777216) then some (D.fl (rangeL 0 n.toNat)) else none) = _
  rw [if_pos (by simp; omega)]
theorem m_exchange {n : Int} (hn : 1 ≤ n ∧ n ≤ 1000) : SpD (CC (k + 3)) "_law_exchange" [.int n] (IsX n) := by
  intro ns
  refine C_w k75_l__law_exchange rfl ?_
  show wSs _ k75_b__law_exchange [some (.ref 0), some (.int n), none, none] _ _
  unfold k75_b__law_exchange
  array_get_dec
  refine ⟨_, rfl, ?_⟩
  refine inv_dr (m_take (by decide)) rfl rfl fun v ns' hv => ?_
  obtain ⟨j, rfl, h1⟩ := hv
  refine ⟨_, rfl, ?_⟩
  array_get_dec
  refine ⟨_, range_fl (by omega), ?_⟩
  array_get_dec
  refine ⟨_, rfl, ?_⟩
  refine inv_dr (m_shuffled (by rw [rangeI_len]; omega)) (vals_tl _) rfl fun v ns' hv => ?_
  obtain ⟨ts, rfl, hp⟩ := hv
  have hlen := hp.length_eq
  rw [rangeI_len] at hlen
  refine ⟨_, rfl, ?_⟩
  array_get_dec
  refine ⟨_, rfl, ?_⟩
  split
  · array_get_dec
    refine ⟨_, rfl, ?_⟩
    array_get_dec
    exact ⟨ns', [], _, rfl, out_val (vals_ints ts), ts, rfl, hp⟩
  · array_get_dec
    refine ⟨_, rfl, ?_⟩
    array_get_dec
    refine ⟨_, rfl, ?_⟩
    refine inv_dr (m_take (by omega)) rfl rfl fun v ns2 hv => ?_
    obtain ⟨i, rfl, h2⟩ := hv
    refine ⟨_, rfl, ?_⟩
    refine ⟨_, rfl, ?_⟩
    refine ⟨_, rfl, ?_⟩
    array_get_dec
    refine ⟨_, rfl, ?_⟩
    array_get_dec
    refine ⟨_, rfl, Nat.le_of_ble_eq_true rfl, ?_⟩
    array_get_dec
    refine ⟨_, rfl, ?_⟩
    have e : cutD (ts.map D.int) none (some (1 + (i : Int))) = (ts.take (1 + i)).map D.int := by
      rw [List.map_take, ← cut_to]
      rfl
    rw [e]
    have hsub : ∀ x ∈ ts.take (1 + i), x ∈ ts := fun x hx => List.mem_of_mem_take hx
    refine m_of_rings (by omega) ?_ (fun x hx => ?_) ?_ fun ps hps => ?_
    · exact (List.take_sublist _ _).nodup (hp.nodup_iff.mpr (rangeI_nodup _))
    · have := mem_rangeI.mp (hp.mem_iff.mp (hsub x hx))
      omega
    · rw [List.length_take]
      omega
    · array_get_dec
      exact ⟨ns2, [], _, rfl, out_val (vals_ints ps), ps, rfl, hps⟩
end Z
end
section
set_option Elab.async false
set_option linter.all false
set_option maxRecDepth 100000
set_option maxHeartbeats 1000000
set_option autoImplicit false
/-! The law's makers: things. -/
namespace Z
open PySem
variable {M : Mem} {X : Ex} {k : Nat}
/-! ### how large a value is -/
mutual
def dq (L B : Nat) : Nat → D → Bool
  | _, .int i => decide (i.natAbs ≤ B)
  | _, .str s => SeqAt.shaped (.str s) && decide (s.length ≤ 100)
  | n + 1, .tup ds => dqs L B n ds && decide (ds.length ≤ L)
  | _, _ => false
def dqs (L B : Nat) : Nat → List D → Bool
  | _, [] => true
  | n, d :: ds => dq L B n d && dqs L B n ds
end
theorem dqs_iff {L B n : Nat} : ∀ {ds : List D}, dqs L B n ds = true ↔ ∀ d ∈ ds, dq L B n d = true
  | [] => by simp [dqs]
  | d :: ds => by simp [dqs, dqs_iff]
theorem dms_iff {n : Nat} : ∀ {ds : List D}, dms n ds = true ↔ ∀ d ∈ ds, dm n d = true
  | [] => by simp [dms]
  | d :: ds => by simp [dms, dms_iff]
theorem dq_tup {L B n : Nat} {ds : List D} : dq L B (n + 1) (.tup ds) = true ↔ (∀ d ∈ ds, dq L B n d = true) ∧ ds.length ≤ L := by
  rw [dq, Bool.and_eq_true, dqs_iff, decide_eq_true_iff]
theorem dm_tup {n : Nat} {ds : List D} : dm (n + 1) (.tup ds) = true ↔ (∀ d ∈ ds, dm n d = true) ∧ ds.length ≤ 1000 := by
  rw [dm, Bool.and_eq_true, dms_iff, decide_eq_true_iff]
theorem dq_int {L B n : Nat} {i : Int} : dq L B n (.int i) = true ↔ i.natAbs ≤ B := by
  cases n <;> exact decide_eq_true_iff
theorem dq_str {L B n : Nat} {s : Str} : dq L B n (.str s) = true ↔ SeqAt.shaped (.str s) = true ∧ s.length ≤ 100 := by
  cases n <;> rw [dq, Bool.and_eq_true, decide_eq_true_iff]
theorem dq_cases {L B n : Nat} {d : D} (h : dq L B n d = true) : (∃ i, d = .int i) ∨ (∃ s, d = .str s) ∨ ∃ ds m, d = .tup ds ∧ n = m + 1 := by
  unfold dq at h
  split at h
  · exact .inl ⟨_, rfl⟩
  · exact .inr (.inl ⟨_, rfl⟩)
  · exact .inr (.inr ⟨_, _, rfl, rfl⟩)
  · cases h
theorem dq_mono {L B L' B' : Nat} (hL : L ≤ L') (hB : B ≤ B') : ∀ {n n' : Nat}, n ≤ n' → ∀ {d : D}, dq L B n d = true → dq L' B' n' d = true
  | n, n', hn, d, h => by
    rcases dq_cases h with ⟨i, rfl⟩ | ⟨s, rfl⟩ | ⟨ds, m, rfl, rfl⟩
    · exact dq_int.mpr (Nat.le_trans (dq_int.mp h) hB)
    · exact dq_str.mpr (dq_str.mp h)
    · have h' := dq_tup.mp h
      obtain ⟨m', rfl⟩ : ∃ m', n' = m' + 1 := ⟨n' - 1, by omega⟩
      exact dq_tup.mpr ⟨fun d hd => dq_mono hL hB (by omega) (h'.1 d hd), Nat.le_trans h'.2 hL⟩
theorem dq_dm {L B : Nat} (hL : L ≤ 1000) (hB : B ≤ 999999999999) : ∀ {n : Nat} {d : D}, dq L B n d = true → dm n d = true
  | n, d, h => by
    rcases dq_cases h with ⟨i, rfl⟩ | ⟨s, rfl⟩ | ⟨ds, m, rfl, rfl⟩
    · have := dq_int.mp h
      cases n <;> exact decide_eq_true (by omega)
    · have h' := dq_str.mp h
      cases n <;>
        · show (SeqAt.shaped (.str s) && decide (s.length ≤ 100)) = true
          rw [h'.1, decide_eq_true h'.2]
          rfl
    · have h' := dq_tup.mp h
      exact dm_tup.mpr ⟨fun d hd => dq_dm hL hB (h'.1 d hd), Nat.le_trans h'.2 hL⟩
theorem dq_ints {L B n : Nat} {is : List Int} (h : ∀ x ∈ is, x.natAbs ≤ B) (hl : is.length ≤ L) : dq L B (n + 1) (.tup (is.map .int)) = true := by
  refine dq_tup.mpr ⟨fun d hd => ?_, by rw [List.length_map]; exact hl⟩
  obtain ⟨x, hx, rfl⟩ := List.mem_map.mp hd
  exact dq_int.mpr (h x hx)
/-! ### what is known of a thing -/
theorem len_le {is : List Int} {n : Int} (hn : is.Nodup) (h : ∀ x ∈ is, 0 ≤ x ∧ x < n) : (is.length : Int) ≤ n ∨ is = [] := by
  cases is with
  | nil => exact .inr rfl
  | cons a l =>
    left
    have h1 := List.Nodup.length_le_of_subset (l₂ := rangeI n.toNat) hn fun x hx => mem_rangeI.mpr (by
      have := h x hx
      omega)
    rw [rangeI_len] at h1
    have := h a List.mem_cons_self
    omega
theorem all_below_ints {is : List Int} {n : Int} : (is.map D.int).all (below · n) = true ↔ ∀ x ∈ is, 0 ≤ x ∧ x < n := by
  have := all_below (ds := is.map .int) (i := n) (all_isInt is)
  rw [toI_int] at this
  exact this
theorem isPS_iff {n : Int} {is : List Int} : isPS n (.tup (is.map .int)) = true ↔ (∀ x ∈ is, 0 ≤ x ∧ x < n) ∧ is.Pairwise (· < ·) := by
  show ((is.map D.int).all (below · n) && asc ((is.map D.int).map toI)) = true ↔ _
  rw [Bool.and_eq_true, all_below_ints, toI_int, asc_iff]
theorem isPS_ints {n : Int} {d : D} (h : isPS n d = true) : ∃ is : List Int, d = .tup (is.map .int) := by
  cases d <;> first
    | (cases h; done)
    | skip
  rename_i ds
  have h' := band (show (ds.all (below · n) && asc (ds.map toI)) = true from h)
  exact ⟨ds.map toI, by rw [← ints_eq (all_int h'.1)]⟩
theorem isRowS_iff {n : Int} {is : List Int} : isRowS n (.tup (is.map .int)) = true ↔ (∀ x ∈ is, 0 ≤ x ∧ x < n) ∧ is.Nodup := by
  show ((is.map D.int).all (below · n) && decide (setLen (is.map D.int) = ((is.map D.int).length : Int))) = true ↔ _
  rw [Bool.and_eq_true, all_below_ints, decide_eq_true_iff]
  unfold setLen
  rw [toI_int, List.length_map, ← dedup_nodup]
  exact and_congr_right fun _ => by omega
theorem isRowS_ints {n : Int} {d : D} (h : isRowS n d = true) : ∃ is : List Int, d = .tup (is.map .int) := by
  cases d <;> first
    | (cases h; done)
    | skip
  rename_i ds
  have h' := band (show (ds.all (below · n) && decide (setLen ds = (ds.length : Int))) = true from h)
  exact ⟨ds.map toI, by rw [← ints_eq (all_int h'.1)]⟩
theorem isCol_iff {n : Int} {is : List Int} : isCol n (.tup (is.map .int)) = true ↔ (∀ x ∈ is, 0 ≤ x ∧ x < 10) ∧ (is.length : Int) = n := by
  show ((is.map D.int).all (below · 10) && decide (((is.map D.int).length : Int) = n)) = true ↔ _
  rw [Bool.and_eq_true, all_below_ints, decide_eq_true_iff, List.length_map]
theorem isCol_ints {n : Int} {d : D} (h : isCol n d = true) : ∃ is : List Int, d = .tup (is.map .int) := by
  cases d <;> first
    | (cases h; done)
    | skip
  rename_i ds
  have h' := band (show (ds.all (below · 10) && decide ((ds.length : Int) = n)) = true from h)
  exact ⟨ds.map toI, by rw [← ints_eq (all_int h'.1)]⟩
/-- rows of numbers as tuples -/
def tRow (is : List Int) : D := .tup (is.map .int)
theorem isNP_iff {n : Int} {is : List Int} : isNP n (tRow is) = true ↔ is ≠ [] ∧ (∀ x ∈ is, 0 ≤ x ∧ x < n) ∧ is.Pairwise (· < ·) := by
  cases is with
  | nil => exact ⟨fun h => (by cases h), fun h => absurd rfl h.1⟩
  | cons a l =>
    show isPS n (.tup ((a :: l).map .int)) = true ↔ _
    rw [isPS_iff]
    exact ⟨fun h => ⟨by simp, h⟩, fun h => h.2⟩
theorem isNP_ints {n : Int} {d : D} (h : isNP n d = true) : ∃ is : List Int, d = tRow is := by
  obtain ⟨x, l, rfl, h1, _⟩ := isNP_ok h
  exact ⟨(x :: l).map toI, by unfold tRow; rw [← ints_eq h1]⟩
theorem flatI_t (rows : List (List Int)) : flatI (rows.map tRow) = rows.flatten := by
  induction rows with
  | nil => rfl
  | cons a l ih =>
    unfold flatI at ih ⊢
    rw [List.map_cons, List.flatMap_cons, ih]
    show (a.map D.int).map toI ++ _ = _
    rw [toI_int]
    rfl
/-- a partition, told in its order -/
theorem isPart_srt {n : Int} {rows : List (List Int)} (h : ∀ r ∈ rows, r ≠ [] ∧ (∀ x ∈ r, 0 ≤ x ∧ x < n) ∧ r.Pairwise (· < ·)) (hp : rows.flatten.Perm (rangeI n.toNat)) : isPart n (.tup (srtD (rows.map tRow))) = true := by
  have pm : (srtD (rows.map tRow)).Perm (rows.map tRow) := List.mergeSort_perm _ _
  have np : (srtD (rows.map tRow)).all (isNP n) = true := List.all_eq_true.mpr fun d hd => by
    obtain ⟨r, hr, rfl⟩ := List.mem_map.mp (pm.mem_iff.mp hd)
    exact isNP_iff.mpr (h r hr)
  rw [part_same]
  show ((srtD (rows.map tRow)).all (isNP n) && (PyData.eqvAll (D.pys (srtD (rows.map tRow))) (D.pys (srtD (srtD (rows.map tRow)))) && decide (sortI (flatI (srtD (rows.map tRow))) = rangeI n.toNat))) = true
  have it := np_it np
  have hp2 := List.pairwise_mergeSort (le := PySem.W.dataLe false D.py) (fun a b c => totalLe.trans a b c) (fun a b => by rcases totalLe.total a b with h | h <;> simp [h]) (rows.map tRow)
  have e : srtD (srtD (rows.map tRow)) = srtD (rows.map tRow) := List.mergeSort_of_pairwise hp2
  rw [np, e, (eqvAll_it it it).mpr rfl, Bool.true_and, Bool.true_and]
  refine decide_eq_true (sort_range.mpr ?_)
  have : (flatI (srtD (rows.map tRow))).Perm (flatI (rows.map tRow)) := pm.flatMap_right _
  rw [flatI_t] at this
  exact this.trans hp
theorem isPart_out {n : Int} {d : D} (h : isPart n d = true) : ∃ rows : List (List Int), d = .tup (rows.map tRow) ∧ (∀ r ∈ rows, r ≠ [] ∧ (∀ x ∈ r, 0 ≤ x ∧ x < n) ∧ r.Pairwise (· < ·)) ∧ rows.flatten.Perm (rangeI n.toNat) := by
  cases d <;> first
    | (cases h; done)
    | skip
  rename_i ds
  have h1 := band (show (ds.all (isNP n) && (asc (ds.map fun p => toI (firstD p)) && decide (sortI (flatI ds) = rangeI n.toNat))) = true from h)
  have h2 := sort_range.mp (of_decide_eq_true (band h1.2).2)
  have e : ds = (ds.map fun d => (items d).map toI).map tRow := by
    rw [List.map_map]
    refine (List.map_id ds).symm.trans (List.map_congr_left fun d hd => ?_)
    obtain ⟨is, rfl⟩ := isNP_ints (List.all_eq_true.mp h1.1 d hd)
    show tRow is = tRow ((is.map D.int).map toI)
    rw [toI_int]
  refine ⟨_, by rw [← e], fun r hr => ?_, ?_⟩
  · have hm : tRow r ∈ ds := by
      rw [e]
      exact List.mem_map_of_mem hr
    exact isNP_iff.mp (List.all_eq_true.mp h1.1 _ hm)
  · rw [e, flatI_t] at h2
    exact h2
theorem nodup_lt {l : List Int} (h : l.Pairwise (· < ·)) : l.Nodup := h.imp fun {a b} h => by omega
theorem rows_small {rows : List (List Int)} (h : ∀ r ∈ rows, r ≠ []) : rows.length ≤ rows.flatten.length ∧ ∀ r ∈ rows, r.length ≤ rows.flatten.length := by
  induction rows with
  | nil => exact ⟨Nat.le_refl _, fun r hr => by cases hr⟩
  | cons a l ih =>
    obtain ⟨h1, h2⟩ := ih fun r hr => h r (List.mem_cons_of_mem _ hr)
    have ha := List.length_pos_iff.mpr (h a List.mem_cons_self)
    rw [List.flatten_cons, List.length_append, List.length_cons]
    refine ⟨by omega, fun r hr => ?_⟩
    rcases List.mem_cons.mp hr with rfl | hr
    · omega
    · have := h2 r hr
      omega
theorem thing_dq {n : Int} {d : D} (hn : 1 ≤ n ∧ n ≤ 12) (h : jThing n d = true) : dq 24 1000001 3 d = true := by
  obtain ⟨s, w, rfl⟩ := jThing_ok h
  have h' := band (show (decide (s ∈ kindWs) && jKind n s w) = true from h)
  have hs := of_decide_eq_true h'.1
  have hS : dq 24 1000001 2 (.str s) = true := by
    unfold kindWs at hs
    simp only [List.mem_cons, List.not_mem_nil, or_false] at hs
    rcases hs with rfl | rfl | rfl | rfl | rfl <;> decide +kernel
  have small : ∀ is : List Int, is.Nodup → (∀ x ∈ is, 0 ≤ x ∧ x < n) → is.length ≤ 24 := fun is h1 h2 => by
    rcases len_le h1 h2 with h | rfl
    · omega
    · decide
  have key : dq 24 1000001 2 w = true := by
    have h2 := h'.2
    unfold jKind at h2
    split at h2
    · obtain ⟨j, rfl, h3, h4⟩ := below_iff.mp h2
      exact dq_int.mpr (by omega)
    · split at h2
      · obtain ⟨is, rfl⟩ := isPS_ints h2
        obtain ⟨h3, h4⟩ := isPS_iff.mp h2
        exact dq_ints (fun x hx => by have := h3 x hx; omega) (small is (nodup_lt h4) h3)
      · split at h2
        · obtain ⟨is, rfl⟩ := isRowS_ints h2
          obtain ⟨h3, h4⟩ := isRowS_iff.mp h2
          exact dq_ints (fun x hx => by have := h3 x hx; omega) (small is h4 h3)
        · split at h2
          · obtain ⟨is, rfl⟩ := isCol_ints h2
            obtain ⟨h3, h4⟩ := isCol_iff.mp h2
            exact dq_ints (fun x hx => by have := h3 x hx; omega) (by omega)
          · obtain ⟨rows, rfl, h3, h4⟩ := isPart_out h2
            have h5 := rows_small fun r hr => (h3 r hr).1
            have h6 := h4.length_eq
            rw [rangeI_len] at h6
            refine dq_tup.mpr ⟨fun d hd => ?_, by rw [List.length_map]; omega⟩
            obtain ⟨r, hr, rfl⟩ := List.mem_map.mp hd
            have h7 := h3 r hr
            have h8 := h5.2 r hr
            exact dq_ints (fun x hx => by have := h7.2.1 x hx; omega) (by omega)
  refine dq_tup.mpr ⟨fun d hd => ?_, by show 2 ≤ 24; decide⟩
  rcases List.mem_cons.mp hd with rfl | hd
  · exact hS
  · rcases List.mem_cons.mp hd with rfl | hd
    · exact key
    · cases hd
theorem dq_val {L B n : Nat} {d : D} (hL : L ≤ 1000) (hB : B ≤ 999999999999) (h : dq L B n d = true) : d.val = true := dm_val (dq_dm hL hB h)
/-! ### any thing -/
local macro_rules | `(tactic| array_mem_dec) => `(tactic| first
  | with_reducible refine vE_c ?_ | with_reducible refine vE_nope ?_ | with_reducible refine vE_var (by with_unfolding_all rfl) ?_ | with_reducible refine vE_bin ?_ | with_reducible refine vE_neg ?_ | with_reducible refine vE_cmp ?_ | with_reducible refine vE_not ?_ | with_reducible refine vE_and ?_ | with_reducible refine vE_or ?_ | with_reducible refine vE_ite ?_
  | with_reducible refine vE_tup ?_ | with_reducible refine vE_lst ?_ | with_reducible refine vE_nil ?_ | with_reducible refine vE_cons ?_ | with_reducible refine vE_idx ?_ | with_reducible refine vE_sli ?_ | with_reducible refine vE_mat ?_ | with_reducible refine vE_call ?_ | with_reducible refine vE_bi (by with_unfolding_all rfl) ?_ | with_reducible refine vE_mth ?_ | with_reducible refine vE_isi ?_
  | with_reducible refine vT_nope ?_ | with_reducible refine vT_var (by with_unfolding_all rfl) ?_ | with_reducible refine vT_cmp ?_ | with_reducible refine vT_not ?_ | with_reducible refine vT_and ?_ | with_reducible refine vT_or ?_ | with_reducible refine vT_call ?_ | with_reducible refine vT_bi (by with_unfolding_all rfl) ?_ | with_reducible refine vT_isi ?_ | with_reducible refine vT_idx ?_
  | with_reducible refine vI_seq ?_ | with_reducible refine vI_rng ?_
  | with_reducible refine vS_nil ?_ | with_reducible refine vS_skip ?_ | with_reducible refine vS_expr ?_ | with_reducible refine vS_asg ?_ | with_reducible refine vS_asgT ?_ | with_reducible refine vS_sub ?_ | with_reducible refine vS_ret ?_ | with_reducible refine vS_brk ?_ | with_reducible refine vS_cont ?_ | with_reducible refine vS_ife ?_ | with_reducible refine vS_for ?_
  | with_reducible refine vaft_nx ?_ | with_reducible refine vaft_rt ?_ | with_reducible refine vaft_bk ?_ | with_reducible refine vaft_ct ?_ | with_reducible refine vturn_nx ?_ | with_reducible refine vturn_ct ?_ | with_reducible refine vturn_bk ?_ | with_reducible refine vturn_rt ?_ | with_reducible refine vfin_rtQ ?_ | with_reducible refine vfin_nxQ ?_)
local macro_rules | `(tactic| array_get_dec) => `(tactic| repeat (first
  | with_reducible refine vE_c ?_ | with_reducible refine vE_nope ?_ | with_reducible refine vE_var (by with_unfolding_all rfl) ?_ | with_reducible refine vE_bin ?_ | with_reducible refine vE_neg ?_ | with_reducible refine vE_cmp ?_ | with_reducible refine vE_not ?_ | with_reducible refine vE_and ?_ | with_reducible refine vE_or ?_ | with_reducible refine vE_ite ?_
  | with_reducible refine vE_tup ?_ | with_reducible refine vE_lst ?_ | with_reducible refine vE_nil ?_ | with_reducible refine vE_cons ?_ | with_reducible refine vE_idx ?_ | with_reducible refine vE_sli ?_ | with_reducible refine vE_mat ?_ | with_reducible refine vE_call ?_ | with_reducible refine vE_bi (by with_unfolding_all rfl) ?_ | with_reducible refine vE_mth ?_ | with_reducible refine vE_isi ?_
  | with_reducible refine vT_nope ?_ | with_reducible refine vT_var (by with_unfolding_all rfl) ?_ | with_reducible refine vT_cmp ?_ | with_reducible refine vT_not ?_ | with_reducible refine vT_and ?_ | with_reducible refine vT_or ?_ | with_reducible refine vT_call ?_ | with_reducible refine vT_bi (by with_unfolding_all rfl) ?_ | with_reducible refine vT_isi ?_ | with_reducible refine vT_idx ?_
  | with_reducible refine vI_seq ?_ | with_reducible refine vI_rng ?_
  | with_reducible refine vS_nil ?_ | with_reducible refine vS_skip ?_ | with_reducible refine vS_expr ?_ | with_reducible refine vS_asg ?_ | with_reducible refine vS_asgT ?_ | with_reducible refine vS_sub ?_ | with_reducible refine vS_ret ?_ | with_reducible refine vS_brk ?_ | with_reducible refine vS_cont ?_ | with_reducible refine vS_ife ?_ | with_reducible refine vS_for ?_
  | with_reducible refine vaft_nx ?_ | with_reducible refine vaft_rt ?_ | with_reducible refine vaft_bk ?_ | with_reducible refine vaft_ct ?_ | with_reducible refine vturn_nx ?_ | with_reducible refine vturn_ct ?_ | with_reducible refine vturn_bk ?_ | with_reducible refine vturn_rt ?_ | with_reducible refine vfin_rtQ ?_ | with_reducible refine vfin_nxQ ?_))
theorem eq_strC {s t : Str} (h : SeqAt.shaped (.str s) = true) (h' : SeqAt.shaped (.str t) = true) : cmpD .eq (.str s) (.str t) M = some (decide (s = t)) := eq_str (M := M) h h'
theorem sorted_tl (is : List Int) : biD .sorted [.tl (is.map .int)] M = some (.fl ((sortI is).map .int)) := by
  show Option.bind (some (is.map D.int)) (fun ds => (sortD false ds).map D.fl) = _
  rw [Option.bind_some, sort_ints, srt_eq]
  rfl
theorem sorted_fl (is : List Int) : biD .sorted [.fl (is.map .int)] M = some (.fl ((sortI is).map .int)) := by
  show Option.bind (some (is.map D.int)) (fun ds => (sortD false ds).map D.fl) = _
  rw [Option.bind_some, sort_ints, srt_eq]
  rfl
theorem sorted_ref {r : Nat} {is : List Int} (h : M[r]? = some (.lst (is.map .int))) : biD .sorted [.ref r] M = some (.fl ((sortI is).map .int)) := by
  have e : seqOf (.ref r) M = some (is.map .int) := by
    simp only [seqOf, h]
  simp only [biD, e]
  rw [Option.bind_some, sort_ints, srt_eq]
  rfl
theorem sort_lt {is : List Int} (h : is.Nodup) : (sortI is).Pairwise (· < ·) := by
  have h1 := sortI_sorted is
  have h2 : (sortI is).Nodup := (sortI_perm is).nodup_iff.mpr h
  exact (List.pairwise_and_iff.mpr ⟨h1, h2⟩).imp fun {a b} h => by
    have := h.1
    have := h.2
    omega
theorem isPS_sort {n : Int} {is : List Int} (h : is.Nodup) (hb : ∀ x ∈ is, 0 ≤ x ∧ x < n) : isPS n (.tup ((sortI is).map .int)) = true :=
  isPS_iff.mpr ⟨fun x hx => hb x ((sortI_perm is).mem_iff.mp hx), sort_lt h⟩
def IsTh (n : Int) (v : D) : Prop := jThing n v = true
theorem th_of {n : Int} {s : Str} {w : D} (hs : s ∈ kindWs) (h : jKind n s w = true) : IsTh n (.tup [.str s, w]) := by
  show (decide (s ∈ kindWs) && jKind n s w) = true
  rw [decide_eq_true hs, h]
  rfl
def kind9 : List Str := ["place", "set", "row", "parts", "colours", "set", "row", "parts", "colours"]
theorem th_val {n : Int} {v : D} (hn : 1 ≤ n ∧ n ≤ 12) (h : IsTh n v) : v.val = true := dq_val (by decide) (by decide) (thing_dq hn h)
theorem refs_beq : ∀ ds : List Nat, D.beqs (ds.map .ref) (ds.map .ref) = true
  | [] => rfl
  | d :: ds => by
    show (decide (d = d) && D.beqs (ds.map .ref) (ds.map .ref)) = true
    rw [decide_eq_true rfl, refs_beq ds]
    rfl
theorem rng_ok {n : Int} (h : 0 ≤ n ∧ n ≤ 1000) : rngOk 0 n = true := by
  unfold rngOk
  simp
  omega
theorem comp_dr {F : Fn} {i : Nat} {it : It} {elt : E} {env : Env} {ns : List Int} {Mt : Mem} {P : D → Prop} {Lp : Nat → Prop} {Q : D → Mem → Prop} (hm : ∀ l, Lp l → l ≤ 16777216)
    (hI : wI ⟨F, true⟩ it env (Dr ns :: Mt) (fun w M => (∀ M, w.watch M = true) ∧ Lp w.items.length ∧ ∃ ns', M = Dr ns' :: Mt) X)
    (hb : ∀ x ns, wE ⟨F, true⟩ elt ((wipeE env [i]).set i (some x)) (Dr ns :: Mt) (fun y M => ∃ y', frz y = some y' ∧ P y' ∧ ∃ ns', M = Dr ns' :: Mt) noE)
    (hQ : ∀ ns' ys, Lp ys.length → (∀ y ∈ ys, P y) → Q (.fl ys) (Dr ns' :: Mt)) : wE ⟨F, true⟩ (.comp [i] it .nope elt [i]) env (Dr ns :: Mt) Q X := by
  refine vE_comp (wI.mono hI (fun w M h => ?_) fun _ _ _ h => h)
  obtain ⟨hw, hl, ns', rfl⟩ := h
  refine ⟨fun l acc M => (∃ ns', M = Dr ns' :: Mt) ∧ (∀ y ∈ acc, P y) ∧ acc.length + l.length = w.items.length, fun _ _ M _ => hw M, ⟨⟨_, rfl⟩, fun y hy => (by cases hy), by simp⟩, ?_, ?_⟩
  · rintro x l acc M ⟨⟨ns2, rfl⟩, hp, hlen⟩
    refine ⟨_, rfl, ?_⟩
    refine vT_nope ?_
    rw [if_pos rfl]
    refine wE.mono (hb x ns2) (fun y M h => ?_) fun _ _ _ h => h
    obtain ⟨y', e, h1, ns3, rfl⟩ := h
    refine ⟨y', e, ⟨_, rfl⟩, fun z hz => ?_, ?_⟩
    · rcases List.mem_append.mp hz with hz | hz
      · exact hp z hz
      · rw [List.mem_singleton.mp hz]
        exact h1
    · rw [List.length_append]
      rw [List.length_cons] at hlen
      simp only [List.length_cons, List.length_nil]
      omega
  · rintro ys M ⟨⟨ns2, rfl⟩, hp, hlen⟩
    rw [List.length_nil, Nat.add_zero] at hlen
    rw [← hlen] at hl
    exact ⟨hm _ hl, hQ _ _ hl hp⟩
theorem comp_pure {F : Fn} {i : Nat} {it : It} {elt : E} {env : Env} {l0 : List D} {F0 : D → D} {Q : D → Mem → Prop} (hl : l0.length ≤ 16777216)
    (hI : wI ⟨F, true⟩ it env M (fun w M' => M' = M ∧ w.watch M = true ∧ w.items = l0) X)
    (hb : ∀ x ∈ l0, wE ⟨F, true⟩ elt ((wipeE env [i]).set i (some x)) M (fun y M' => M' = M ∧ frz y = some (F0 x)) noE)
    (hQ : Q (.fl (l0.map F0)) M) : wE ⟨F, true⟩ (.comp [i] it .nope elt [i]) env M Q X := by
  refine vE_comp (wI.mono hI (fun w M' h => ?_) fun _ _ _ h => h)
  obtain ⟨rfl, hw, hit⟩ := h
  refine ⟨fun l acc M1 => M1 = M' ∧ ∃ m, m ≤ l0.length ∧ l = l0.drop m ∧ acc = (l0.take m).map F0, ?_, ⟨rfl, 0, Nat.zero_le _, hit, rfl⟩, ?_, ?_⟩
  · rintro l acc M1 ⟨rfl, _⟩
    exact hw
  · rintro x l acc M1 ⟨rfl, m, hm, e, rfl⟩
    have hm2 : m < l0.length := by
      refine Classical.byContradiction fun hc => ?_
      rw [List.drop_eq_nil_of_le (by omega)] at e
      cases e
    rw [List.drop_eq_getElem_cons hm2] at e
    obtain ⟨e1, e2⟩ := List.cons.inj e
    refine ⟨_, rfl, ?_⟩
    refine vT_nope ?_
    rw [if_pos rfl]
    refine wE.mono (hb x (by rw [e1]; exact List.getElem_mem hm2)) (fun y M2 h => ?_) fun _ _ _ h => h
    obtain ⟨rfl, h⟩ := h
    refine ⟨_, h, rfl, m + 1, hm2, e2, ?_⟩
    rw [List.take_succ_eq_append_getElem hm2, List.map_append, e1]
    rfl
  · rintro ys M1 ⟨rfl, m, hm, e, rfl⟩
    have hm2 : l0.length ≤ m := by
      refine Classical.byContradiction fun hc => ?_
      rw [List.drop_eq_getElem_cons (by omega)] at e
      cases e
    rw [List.take_of_length_le hm2]
    exact ⟨by rw [List.length_map]; exact hl, hQ⟩
theorem flat_set {α : Type} (i : α) : ∀ (rows : List (List α)) (j : Nat) (h : j < rows.length), ((rows.set j (rows[j] ++ [i])).flatten).Perm (i :: rows.flatten)
  | a :: l, 0, _ => by
    show ((a ++ [i]) ++ l.flatten).Perm (i :: (a ++ l.flatten))
    rw [List.append_assoc]
    exact List.perm_middle
  | a :: l, j + 1, h => by
    have h' : j < l.length := by simpa using h
    have ih := flat_set i l j h'
    show (a ++ (l.set j (l[j] ++ [i])).flatten).Perm (i :: (a ++ l.flatten))
    exact (ih.append_left a).trans List.perm_middle
/-- the memory of the sets that are made -/
abbrev partsM (ns : List Int) (rows : List (List Int)) : Mem := Dr ns :: .lst ((List.range rows.length).map fun t => .ref (2 + t)) :: rows.map (fun r => .lst (r.map .int))
theorem parts_at {ns : List Int} {rows : List (List Int)} {j : Nat} (h : j < rows.length) : (partsM ns rows)[2 + j]? = some (.lst (rows[j].map .int)) := by
  rw [show 2 + j = j + 1 + 1 by omega]
  show (rows.map (fun r => MO.lst (r.map .int)))[j]? = _
  rw [List.getElem?_map, List.getElem?_eq_getElem h]
  rfl
theorem m_any_thing {n : Int} (hn : 1 ≤ n ∧ n ≤ 12) : SpD (CC (k + 3)) "_law_any_thing" [.int n] (IsTh n) := by
  intro ns
  refine C_w k75_l__law_any_thing rfl ?_
  show wSs _ k75_b__law_any_thing [some (.ref 0), some (.int n), none, none, none, none, none, none, none] _ _
  unfold k75_b__law_any_thing
  array_get_dec
  refine ⟨_, rfl, Nat.le_of_ble_eq_true rfl, ?_⟩
  array_get_dec
  refine ⟨_, rfl, ?_⟩
  refine inv_dr (m_pick (ds := kind9.map .str) (by decide +kernel) (by decide) (by decide)) (by decide +kernel) rfl fun v ns' hv => ?_
  obtain ⟨s, hs, rfl⟩ := List.mem_map.mp hv
  have hk : s ∈ kindWs ∧ SeqAt.shaped (.str s) = true := by
    unfold kind9 at hs
    simp only [List.mem_cons, List.not_mem_nil, or_false] at hs
    rcases hs with rfl | rfl | rfl | rfl | rfl | rfl | rfl | rfl | rfl <;> decide +kernel
  refine ⟨_, rfl, ?_⟩
  array_get_dec
  refine ⟨_, range_fl (by omega), ?_⟩
  array_get_dec
  refine ⟨_, rfl, ?_⟩
  refine inv_dr (m_shuffled (by rw [rangeI_len]; omega)) (vals_tl _) rfl fun v ns' hv => ?_
  obtain ⟨ts, rfl, hp⟩ := hv
  have hlen := hp.length_eq
  rw [rangeI_len] at hlen
  have hnd : ts.Nodup := hp.nodup_iff.mpr (rangeI_nodup _)
  have hin : ∀ x ∈ ts, 0 ≤ x ∧ x < n := fun x hx => by
    have := mem_rangeI.mp (hp.mem_iff.mp hx)
    omega
  refine ⟨_, rfl, ?_⟩
  array_get_dec
  refine ⟨_, rfl, ?_⟩
  array_get_dec
  refine ⟨_, rfl, ?_⟩
  refine inv_dr (m_take (by omega)) rfl rfl fun v ns' hv => ?_
  obtain ⟨many, rfl, hmany⟩ := hv
  refine ⟨_, rfl, ?_⟩
  array_get_dec
  refine ⟨_, eq_strC hk.2 (sh "place"), ?_⟩
  have hsub : ∀ x ∈ ts.take many, x ∈ ts := fun x hx => List.mem_of_mem_take hx
  have hnd2 : (ts.take many).Nodup := (List.take_sublist _ _).nodup hnd
  have done : ∀ (w : D) (ns2 : List Int) (Mx : Mem), jKind n s w = true → ∃ ns' Mx' v', Dr ns2 :: Mx = Dr ns' :: Mx' ∧ outD 1 (Dr ns2 :: Mx) (.tup [.str s, w]) = some v' ∧ IsTh n v' := fun w ns2 Mx h => by
    have ht := th_of hk.1 h
    exact ⟨ns2, Mx, _, rfl, out_val (th_val hn ht), ht⟩
  by_cases k1 : s = "place"
  · rw [if_pos (decide_eq_true k1)]
    array_get_dec
    have h0 : 0 < ts.length := by omega
    refine ⟨_, idx_of (j := 0) (.inl rfl) (int_at h0) (by decide), ?_⟩
    array_get_dec
    refine ⟨_, rfl, Nat.le_of_ble_eq_true rfl, ?_⟩
    array_get_dec
    refine done _ _ _ ?_
    unfold jKind
    rw [if_pos k1]
    exact below_iff.mpr ⟨_, rfl, hin _ (List.getElem_mem h0)⟩
  · rw [if_neg fun z => k1 (of_decide_eq_true z)]
    array_get_dec
    refine ⟨_, eq_strC hk.2 (sh "set"), ?_⟩
    by_cases k2 : s = "set"
    · rw [if_pos (decide_eq_true k2)]
      array_get_dec
      refine ⟨_, rfl, ?_⟩
      array_get_dec
      refine ⟨_, rfl, ?_⟩
      refine ⟨_, rfl, ?_⟩
      array_get_dec
      rw [cut_to, ← List.map_take]
      refine ⟨_, sorted_fl _, ?_⟩
      array_get_dec
      refine ⟨_, rfl, ?_⟩
      array_get_dec
      refine ⟨_, rfl, Nat.le_of_ble_eq_true rfl, ?_⟩
      array_get_dec
      refine done _ _ _ ?_
      unfold jKind
      rw [if_neg k1, if_pos k2]
      exact isPS_sort hnd2 fun x hx => hin x (hsub x hx)
    · rw [if_neg fun z => k2 (of_decide_eq_true z)]
      array_get_dec
      refine ⟨_, eq_strC hk.2 (sh "row"), ?_⟩
      by_cases k3 : s = "row"
      · rw [if_pos (decide_eq_true k3)]
        array_get_dec
        refine ⟨_, rfl, ?_⟩
        array_get_dec
        refine ⟨_, rfl, ?_⟩
        refine ⟨_, rfl, ?_⟩
        array_get_dec
        rw [cut_to, ← List.map_take]
        refine ⟨_, rfl, ?_⟩
        array_get_dec
        refine ⟨_, rfl, Nat.le_of_ble_eq_true rfl, ?_⟩
        array_get_dec
        refine done _ _ _ ?_
        unfold jKind
        rw [if_neg k1, if_neg k2, if_pos k3]
        exact isRowS_iff.mpr ⟨fun x hx => hin x (hsub x hx), hnd2⟩
      · rw [if_neg fun z => k3 (of_decide_eq_true z)]
        array_get_dec
        refine ⟨_, eq_strC hk.2 (sh "colours"), ?_⟩
        by_cases k4 : s = "colours"
        · rw [if_pos (decide_eq_true k4)]
          array_get_dec
          refine comp_dr (P := fun d => ∃ c : Int, d = .int c ∧ 0 ≤ c ∧ c < 10) (Lp := fun l => l = n.toNat) (fun l h => by omega) ?_ ?_ ?_
          · array_get_dec
            refine ⟨0, n, rfl, rfl, rng_ok (by omega), fun _ => rfl, ?_, _, rfl⟩
            rw [rangeL_len]
            simp
          · intro x ns2
            array_get_dec
            refine ⟨_, rfl, Nat.le_of_ble_eq_true rfl, ?_⟩
            array_get_dec
            refine ⟨_, rfl, ?_⟩
            refine inv_dr (m_pick (ds := ([0, 0, 1, 1, 2, 9] : List Int).map .int) (by decide +kernel) (by decide) (by decide)) (by decide +kernel) rfl fun v ns' hv => ?_
            obtain ⟨c, hc, rfl⟩ := List.mem_map.mp hv
            refine ⟨_, rfl, ⟨c, rfl, ?_⟩, ns', rfl⟩
            simp only [List.mem_cons, List.not_mem_nil, or_false] at hc
            omega
          · intro ns2 ys hl hb
            array_get_dec
            refine ⟨_, rfl, ?_⟩
            array_get_dec
            refine ⟨_, rfl, Nat.le_of_ble_eq_true rfl, ?_⟩
            array_get_dec
            refine done _ _ _ ?_
            unfold jKind
            rw [if_neg k1, if_neg k2, if_neg k3, if_pos k4]
            have e : ys = (ys.map toI).map .int := by
              refine ints_eq (List.all_eq_true.mpr fun y hy => ?_)
              obtain ⟨c, rfl, _⟩ := hb y hy
              rfl
            rw [e]
            refine isCol_iff.mpr ⟨fun x hx => ?_, by rw [List.length_map]; omega⟩
            obtain ⟨y, hy, rfl⟩ := List.mem_map.mp hx
            obtain ⟨c, rfl, h⟩ := hb y hy
            exact h
        · rw [if_neg fun z => k4 (of_decide_eq_true z)]
          array_get_dec
          refine ⟨_, rfl, Nat.le_of_ble_eq_true rfl, ?_⟩
          refine ⟨_, rfl, ?_⟩
          refine ⟨_, rfl, ?_⟩
          array_get_dec
          refine ⟨_, rfl, ?_⟩
          refine ⟨fun l env M => ∃ (ns' left : List Int) (rows : List (List Int)) (z1 z2 : Option D), env = [some (.ref 0), some (.int n), some (.str s), some (.tl (ts.map .int)), some (.int many), some (.ref 1), z1, z2, none] ∧
            M = partsM ns' rows ∧ l = left.map .int ∧ rows.length ≤ 4 ∧ (∀ r ∈ rows, r ≠ []) ∧ (rows.flatten ++ left).Perm ts, fun _ _ _ _ => rfl, ⟨_, ts, [], _, _, rfl, rfl, rfl, by decide, fun r hr => (by cases hr), List.Perm.refl _⟩, ?_, ?_⟩
          · rintro x l env M ⟨ns2, left, rows, z1, z2, rfl, rfl, hl, h4, hne, hpp⟩
            cases left with
            | nil => cases hl
            | cons i left =>
              obtain ⟨e1, e2⟩ := List.cons.inj hl
              subst e1
              refine ⟨_, rfl, ?_⟩
              array_get_dec
              refine ⟨.int (rows.length : Int), ?_, ?_⟩
              · rw [len_ref rfl, List.length_map, List.length_range]
              array_get_dec
              refine ⟨_, rfl, ?_⟩
              array_get_dec
              refine ⟨.int (if (rows.length : Int) + 1 < 4 then (rows.length : Int) + 1 else 4), rfl, ?_⟩
              array_get_dec
              refine ⟨_, rfl, ?_⟩
              refine inv_dr (m_take (by split <;> omega)) rfl rfl fun v ns' hv => ?_
              obtain ⟨j, rfl, hj⟩ := hv
              have hj' : j ≤ rows.length ∧ j < 4 := by
                split at hj <;> omega
              refine ⟨_, rfl, ?_⟩
              array_get_dec
              refine ⟨.int (rows.length : Int), ?_, ?_⟩
              · rw [len_ref rfl, List.length_map, List.length_range]
              refine ⟨_, eq_intC _ _, ?_⟩
              by_cases ej : j = rows.length
              · rw [if_pos (decide_eq_true (by omega))]
                array_get_dec
                refine ⟨rfl, ?_⟩
                array_get_dec
                refine ⟨_, rfl, Nat.le_of_ble_eq_true rfl, ?_⟩
                refine ⟨_, rfl, ?_⟩
                array_get_dec
                refine ⟨_, rfl, rfl, .non, _, app_end (r := 1) (es := (List.range rows.length).map fun t => .ref (2 + t)) rfl (by rw [List.length_map, List.length_range]; omega), ?_⟩
                array_get_dec
                refine ⟨ns', left, rows ++ [[i]], _, _, rfl, ?_, e2, by rw [List.length_append]; show rows.length + 1 ≤ 4; omega, fun r hr => ?_, ?_⟩
                · show Dr ns' :: _ = _
                  unfold partsM
                  rw [List.length_append, List.map_append]
                  show Dr ns' :: .lst (_ ++ [.ref ((rows.map fun r => MO.lst (r.map .int)).length + 1 + 1)]) :: _ = Dr ns' :: .lst ((List.range (rows.length + 1)).map _) :: _
                  rw [List.range_succ, List.map_append, List.length_map]
                  congr 4
                  show [D.ref (rows.length + 1 + 1)] = [D.ref (2 + rows.length)]
                  rw [show rows.length + 1 + 1 = 2 + rows.length by omega]
                · rcases List.mem_append.mp hr with hr | hr
                  · exact hne r hr
                  · rw [List.mem_singleton.mp hr]
                    simp
                · rw [List.flatten_append, List.append_assoc]
                  exact hpp
              · rw [if_neg fun z => ej (by have := of_decide_eq_true z; omega)]
                have hj2 : j < rows.length := by omega
                array_get_dec
                refine ⟨.ref (2 + j), idx_of (l := (List.range rows.length).map fun t => .ref (2 + t)) (.inr (.inr (.inr ⟨1, rfl, rfl⟩))) (by rw [List.getElem?_map, List.getElem?_range hj2]; rfl) (by omega), ?_⟩
                refine ⟨rfl, ?_⟩
                array_get_dec
                have hap := app_end (M := partsM ns' rows) (x := .int i) (parts_at hj2) (by
                  rw [List.length_map]
                  have h8 := (rows_small hne).2 _ (List.getElem_mem hj2)
                  have h9 := hpp.length_eq
                  rw [List.length_append] at h9
                  omega)
                refine ⟨_, rfl, rfl, .non, _, hap, ?_⟩
                array_get_dec
                refine ⟨ns', left, rows.set j (rows[j] ++ [i]), _, _, rfl, ?_, e2, by rw [List.length_set]; exact h4, fun r hr => ?_, ?_⟩
                · unfold partsM
                  rw [List.length_set, show 2 + j = j + 1 + 1 by omega]
                  show Dr ns' :: _ :: (rows.map fun r => MO.lst (r.map .int)).set j (.lst (rows[j].map .int ++ [.int i])) = _
                  have h := set_map (fun r : List Int => MO.lst (r.map .int)) rows j (rows[j] ++ [i])
                  rw [← h, List.map_append]
                  rfl
                · rcases List.mem_or_eq_of_mem_set hr with hr | rfl
                  · exact hne r hr
                  · simp
                · exact ((flat_set i rows j hj2).append_right left).trans (List.perm_middle.symm.trans hpp)
          · rintro env M ⟨ns2, left, rows, z1, z2, rfl, rfl, hl, h4, hne, hpp⟩
            have e : left = [] := by
              cases left with
              | nil => rfl
              | cons a l => cases hl
            subst e
            rw [List.append_nil] at hpp
            array_get_dec
            refine comp_pure (l0 := (List.range rows.length).map fun t => .ref (2 + t)) (F0 := fun d => match d with
              | .ref t => tRow (sortI (rows.getD (t - 2) []))
              | _ => .non) (by rw [List.length_map, List.length_range]; omega) ?_ ?_ ?_
            · array_get_dec
              refine ⟨_, rfl, rfl, ?_, rfl⟩
              exact (by rw [← List.map_map]; exact refs_beq _ : D.beqs ((List.range rows.length).map (D.ref ∘ fun t => 2 + t)) ((List.range rows.length).map (D.ref ∘ fun t => 2 + t)) = true)
            · intro x hx
              obtain ⟨j, hj, rfl⟩ := List.mem_map.mp hx
              have hj := List.mem_range.mp hj
              array_get_dec
              refine ⟨_, sorted_ref (parts_at hj), ?_⟩
              array_get_dec
              refine ⟨_, rfl, rfl, ?_⟩
              show some _ = some (tRow (sortI (rows.getD (2 + j - 2) [])))
              rw [show 2 + j - 2 = j by omega, List.getD_eq_getElem?_getD, List.getElem?_eq_getElem hj]
              rfl
            · array_get_dec
              have e : (((List.range rows.length).map fun t => D.ref (2 + t)).map fun d => match d with
                | .ref t => tRow (sortI (rows.getD (t - 2) []))
                | _ => .non) = (rows.map sortI).map tRow := by
                refine List.ext_getElem (by simp) fun j h1 h2 => ?_
                have hj : j < rows.length := by simpa using h2
                simp only [List.getElem_map, List.getElem_range]
                rw [show 2 + j - 2 = j by omega, List.getD_eq_getElem?_getD, List.getElem?_eq_getElem hj]
                rfl
              have hfl : ∀ l : List (List Int), ((l.map sortI).flatten).Perm l.flatten := fun l => by
                induction l with
                | nil => exact List.Perm.refl _
                | cons a l ih => exact (sortI_perm a).append ih
              have hrow : ∀ r ∈ rows.map sortI, r ≠ [] ∧ (∀ x ∈ r, 0 ≤ x ∧ x < n) ∧ r.Pairwise (· < ·) := fun r hr => by
                obtain ⟨r0, hr0, rfl⟩ := List.mem_map.mp hr
                have hs : ∀ x ∈ r0, x ∈ rows.flatten := fun x hx => List.mem_flatten.mpr ⟨r0, hr0, hx⟩
                refine ⟨fun z => hne r0 hr0 ?_, fun x hx => hin x (hpp.mem_iff.mp (hs x ((sortI_perm r0).mem_iff.mp hx))), sort_lt ?_⟩
                · have := (sortI_perm r0).length_eq
                  rw [z] at this
                  exact List.length_eq_zero_iff.mp this.symm
                · exact (List.sublist_flatten_of_mem hr0).nodup (hpp.nodup_iff.mpr hnd)
              have it : ((rows.map sortI).map tRow).all isIT = true := by
                refine np_it (i := n) (List.all_eq_true.mpr fun d hd => ?_)
                obtain ⟨r, hr, rfl⟩ := List.mem_map.mp hd
                exact isNP_iff.mpr (hrow r hr)
              rw [e]
              refine ⟨.fl (srtD ((rows.map sortI).map tRow)), ?_, ?_⟩
              · show Option.bind (some ((rows.map sortI).map tRow)) (fun ds => (sortD false ds).map D.fl) = _
                rw [Option.bind_some, sort_tups it]
                rfl
              array_get_dec
              refine ⟨_, rfl, ?_⟩
              array_get_dec
              refine ⟨_, rfl, Nat.le_of_ble_eq_true rfl, ?_⟩
              array_get_dec
              refine done _ _ _ ?_
              unfold jKind
              rw [if_neg k1, if_neg k2, if_neg k3, if_neg k4]
              exact isPart_srt hrow ((hfl rows).trans (hpp.trans hp))
/-! ### a thing led -/
/-- where p leads i -/
def pf (ps : List Int) (i : Int) : Int := ps.getD i.toNat 0
theorem pf_get {ps : List Int} {i : Int} {n : Int} (hp : ps.Perm (rangeI n.toNat)) (hi : 0 ≤ i ∧ i < n) : ps[i.toNat]? = some (pf ps i) ∧ 0 ≤ pf ps i ∧ pf ps i < n := by
  have hl := hp.length_eq
  rw [rangeI_len] at hl
  have h : i.toNat < ps.length := by omega
  unfold pf
  rw [getD_lt h]
  have := mem_rangeI.mp (hp.mem_iff.mp (List.getElem_mem h))
  refine ⟨List.getElem?_eq_getElem h, ?_⟩
  omega
theorem pf_inj {ps : List Int} {i j : Int} {n : Int} (hp : ps.Perm (rangeI n.toNat)) (hi : 0 ≤ i ∧ i < n) (hj : 0 ≤ j ∧ j < n) (e : pf ps i = pf ps j) : i = j := by
  have hl := hp.length_eq
  rw [rangeI_len] at hl
  have h1 : i.toNat < ps.length := by omega
  have h2 : j.toNat < ps.length := by omega
  unfold pf at e
  rw [getD_lt h1, getD_lt h2] at e
  have hp2 := List.pairwise_iff_getElem.mp (hp.nodup_iff.mpr (rangeI_nodup _))
  rcases Nat.lt_trichotomy i.toNat j.toNat with h | h | h
  · exact absurd e (hp2 _ _ h1 h2 h)
  · omega
  · exact absurd e.symm (hp2 _ _ h2 h1 h)
theorem pf_nodup {ps is : List Int} {n : Int} (hp : ps.Perm (rangeI n.toNat)) (hb : ∀ x ∈ is, 0 ≤ x ∧ x < n) (hn : is.Nodup) : (is.map (pf ps)).Nodup := by
  unfold List.Nodup
  rw [List.pairwise_map]
  exact List.Pairwise.imp_of_mem (fun {a b} ha hb' hab e => hab (pf_inj hp (hb a ha) (hb b hb') e)) hn
theorem rangeI_get {n i : Nat} {h : i < (rangeI n).length} : (rangeI n)[i] = (i : Int) := by
  have h1 : (rangeI n)[i]? = some (i : Int) := by
    rw [rangeI_len] at h
    unfold rangeI
    rw [List.getElem?_map, List.getElem?_range h]
    rfl
  rw [List.getElem?_eq_getElem h] at h1
  exact Option.some.inj h1
theorem flat_led (ps : List Int) (rows : List (List Int)) : ((rows.map fun r => sortI (r.map (pf ps))).flatten).Perm (rows.flatten.map (pf ps)) := by
  induction rows with
  | nil => exact List.Perm.refl _
  | cons a l ih =>
    rw [List.map_cons, List.flatten_cons, List.flatten_cons, List.map_append]
    exact (sortI_perm _).append ih
theorem pf_range {ps : List Int} {n : Int} (hp : ps.Perm (rangeI n.toNat)) : (rangeI n.toNat).map (pf ps) = ps := by
  have hl := hp.length_eq
  rw [rangeI_len] at hl
  refine List.ext_getElem (by rw [List.length_map, rangeI_len, hl]) fun i h1 h2 => ?_
  rw [List.getElem_map, rangeI_get]
  exact getD_lt h2
/-- a comprehension that leads each number of a tuple -/
theorem led_comp {F : Fn} {v : Nat} {ps is : List Int} {n : Int} {env : Env} {Q : D → Mem → Prop} (hn : n ≤ 1000) (hp : ps.Perm (rangeI n.toNat)) (hb : ∀ x ∈ is, 0 ≤ x ∧ x < n) (hl : is.length ≤ 1000) (h0 : ∀ x, ((wipeE env [3]).set 3 (some x))[0]? = some (some (tRow ps))) (h3 : ∀ x, ((wipeE env [3]).set 3 (some x))[3]? = some (some x)) (hv : env[v]? = some (some (tRow is))) (h : Q (.fl ((is.map (pf ps)).map .int)) M) :
    wE ⟨F, true⟩ (.comp [3] (.seq (.var v)) .nope (.idx (.var 0) (.var 3)) [3]) env M Q X := by
  refine comp_pure (l0 := is.map .int) (F0 := fun d => .int (pf ps (toI d))) (by rw [List.length_map]; omega) ?_ ?_ ?_
  · refine vI_seq (vE_var hv ?_)
    exact ⟨_, rfl, rfl, rfl, rfl⟩
  · intro x hx
    obtain ⟨i, hi, rfl⟩ := List.mem_map.mp hx
    have h1 := pf_get hp (hb i hi)
    have h2 := hb i hi
    refine vE_idx (vE_var (h0 _) (vE_var (h3 _) ?_))
    have e : (i : Int) = ((i.toNat : Nat) : Int) := by omega
    refine ⟨.int (pf ps i), ?_, rfl, rfl⟩
    have := idx_of (M := M) (a := tRow ps) (l := ps.map .int) (j := i.toNat) (x := .int (pf ps i)) (.inr (.inl rfl)) (by rw [List.getElem?_map, h1.1]; rfl) (by omega)
    rw [← e] at this
    exact this
  · rw [List.map_map] at h ⊢
    exact h
theorem nd_len {is : List Int} {n : Int} (hn : 1 ≤ n ∧ n ≤ 12) (h1 : is.Nodup) (h2 : ∀ x ∈ is, 0 ≤ x ∧ x < n) : is.length ≤ 12 := by
  rcases len_le h1 h2 with h | rfl
  · omega
  · decide
theorem mul_one {x : D} {m : Nat} (h : m ≤ 1000) : binD .mul (.fl [x]) (.int (m : Int)) M = some (.fl (List.replicate m x)) := by
  show (repL (m : Int) [x]).map D.fl = _
  unfold repL
  rw [if_pos (by simp; omega), Int.toNat_natCast]
  show some (D.fl (List.replicate m [x]).flatten) = _
  rw [List.flatten_replicate_singleton]
theorem m_thing_led {n : Int} {ps : List Int} {s : Str} {w : D} (hn : 1 ≤ n ∧ n ≤ 12) (hp : ps.Perm (rangeI n.toNat)) (ht : IsTh n (.tup [.str s, w])) {Q : D → Mem → Prop} (h : ∀ w', IsTh n (.tup [.str s, w']) → Q (.tup [.str s, w']) M) : wR (inv (CC (k + 1)) "_law_thing_led" [tRow ps, .tup [.str s, w]] M) Q X := by
  have h' := band (show (decide (s ∈ kindWs) && jKind n s w) = true from ht)
  have hk := of_decide_eq_true h'.1
  have hs : SeqAt.shaped (.str s) = true := by
    unfold kindWs at hk
    simp only [List.mem_cons, List.not_mem_nil, or_false] at hk
    rcases hk with rfl | rfl | rfl | rfl | rfl <;> decide +kernel
  have hpl := hp.length_eq
  rw [rangeI_len] at hpl
  have done : ∀ w' Mx, jKind n s w' = true → ∃ v', outD 0 Mx (.tup [.str s, w']) = some v' ∧ Q v' M := fun w' Mx hj => by
    have := th_of hk hj
    exact ⟨_, out_val (th_val hn this), h w' this⟩
  have hv := th_val hn ht
  refine inv_vW (by show (D.vals (ps.map .int) && ((D.tup [.str s, w]).val && true)) = true; rw [vals_ints, hv]; rfl) ?_
  refine C_w k75_l__law_thing_led rfl ?_
  show wSs _ k75_b__law_thing_led [some (tRow ps), some (.tup [.str s, w]), none, none, none, none, none, none] _ _
  unfold k75_b__law_thing_led
  array_get_dec
  refine ⟨_, rfl, _, rfl, ?_⟩
  array_get_dec
  refine ⟨_, eq_strC hs (sh "place"), ?_⟩
  have hj := h'.2
  unfold jKind at hj
  by_cases k1 : s = "place"
  · rw [if_pos k1] at hj
    obtain ⟨i, rfl, hi⟩ := below_iff.mp hj
    have h1 := pf_get hp hi
    rw [if_pos (decide_eq_true k1)]
    array_get_dec
    have e : (i : Int) = ((i.toNat : Nat) : Int) := by omega
    have hx := idx_of (M := []) (a := tRow ps) (l := ps.map .int) (j := i.toNat) (x := .int (pf ps i)) (.inr (.inl rfl)) (by rw [List.getElem?_map, h1.1]; rfl) (by omega)
    rw [← e] at hx
    refine ⟨_, hx, ?_⟩
    array_get_dec
    refine ⟨_, rfl, Nat.le_of_ble_eq_true rfl, ?_⟩
    array_get_dec
    refine done _ _ ?_
    unfold jKind
    rw [if_pos k1]
    exact below_iff.mpr ⟨_, rfl, h1.2⟩
  · rw [if_neg fun z => k1 (of_decide_eq_true z)]
    rw [if_neg k1] at hj
    array_get_dec
    refine ⟨_, eq_strC hs (sh "set"), ?_⟩
    by_cases k2 : s = "set"
    · rw [if_pos k2] at hj
      obtain ⟨is, rfl⟩ := isPS_ints hj
      obtain ⟨hb, hlt⟩ := isPS_iff.mp hj
      have hnd := nodup_lt hlt
      have hlen := nd_len hn hnd hb
      rw [if_pos (decide_eq_true k2)]
      array_get_dec
      refine led_comp (n := n) (ps := ps) (is := is) (by omega) hp hb (by omega) (fun _ => rfl) (fun _ => rfl) rfl ?_
      array_get_dec
      refine ⟨_, sorted_fl _, ?_⟩
      array_get_dec
      refine ⟨_, rfl, ?_⟩
      array_get_dec
      refine ⟨_, rfl, Nat.le_of_ble_eq_true rfl, ?_⟩
      array_get_dec
      refine done _ _ ?_
      unfold jKind
      rw [if_neg k1, if_pos k2]
      refine isPS_sort (pf_nodup hp hb hnd) fun x hx => ?_
      obtain ⟨y, hy, rfl⟩ := List.mem_map.mp hx
      exact (pf_get hp (hb y hy)).2
    · rw [if_neg fun z => k2 (of_decide_eq_true z)]
      rw [if_neg k2] at hj
      array_get_dec
      refine ⟨_, eq_strC hs (sh "row"), ?_⟩
      by_cases k3 : s = "row"
      · rw [if_pos k3] at hj
        obtain ⟨is, rfl⟩ := isRowS_ints hj
        obtain ⟨hb, hnd⟩ := isRowS_iff.mp hj
        have hlen := nd_len hn hnd hb
        rw [if_pos (decide_eq_true k3)]
        array_get_dec
        refine led_comp (n := n) (ps := ps) (is := is) (by omega) hp hb (by omega) (fun _ => rfl) (fun _ => rfl) rfl ?_
        array_get_dec
        refine ⟨_, rfl, ?_⟩
        array_get_dec
        refine ⟨_, rfl, Nat.le_of_ble_eq_true rfl, ?_⟩
        array_get_dec
        refine done _ _ ?_
        unfold jKind
        rw [if_neg k1, if_neg k2, if_pos k3]
        refine isRowS_iff.mpr ⟨fun x hx => ?_, pf_nodup hp hb hnd⟩
        obtain ⟨y, hy, rfl⟩ := List.mem_map.mp hx
        exact (pf_get hp (hb y hy)).2
      · rw [if_neg fun z => k3 (of_decide_eq_true z)]
        rw [if_neg k3] at hj
        array_get_dec
        refine ⟨_, eq_strC hs (sh "parts"), ?_⟩
        by_cases k5 : s = "parts"
        · rw [if_neg (by rw [k5]; decide +kernel)] at hj
          obtain ⟨rows, rfl, hr, hfl⟩ := isPart_out hj
          have hsm := rows_small fun r hr' => (hr r hr').1
          have hfe := hfl.length_eq
          rw [rangeI_len] at hfe
          rw [if_pos (decide_eq_true k5)]
          array_get_dec
          refine ⟨_, rfl, Nat.le_of_ble_eq_true rfl, ?_⟩
          refine ⟨_, rfl, ?_⟩
          refine ⟨_, rfl, ?_⟩
          array_get_dec
          refine ⟨_, rfl, ?_⟩
          let g : List Int → List Int := fun r => sortI (r.map (pf ps))
          refine ⟨fun l env M => ∃ (z : Option D) (m : Nat), env = [some (tRow ps), some (.tup [.str s, .tup (rows.map tRow)]), none, none, some (.str s), some (.tup (rows.map tRow)), some (.ref 0), z] ∧ m ≤ rows.length ∧ l = (rows.drop m).map tRow ∧ M = [.lst ((rows.take m).map fun r => tRow (g r))], fun _ _ _ _ => rfl, ⟨_, 0, rfl, Nat.zero_le _, rfl, rfl⟩, ?_, ?_⟩
          · rintro x l env M ⟨z, m, rfl, hm, e, rfl⟩
            have hm2 : m < rows.length := by
              refine Classical.byContradiction fun hc => ?_
              rw [List.drop_eq_nil_of_le (by omega)] at e
              cases e
            rw [List.drop_eq_getElem_cons hm2, List.map_cons] at e
            obtain ⟨e1, e2⟩ := List.cons.inj e
            subst e1
            have hrm := hr _ (List.getElem_mem hm2)
            have hlm := hsm.2 _ (List.getElem_mem hm2)
            refine ⟨_, rfl, ?_⟩
            array_get_dec
            refine ⟨rfl, ?_⟩
            array_get_dec
            refine led_comp (n := n) (ps := ps) (is := rows[m]) (by omega) hp hrm.2.1 (by omega) (fun _ => rfl) (fun _ => rfl) rfl ?_
            array_get_dec
            refine ⟨_, sorted_fl _, ?_⟩
            array_get_dec
            refine ⟨_, rfl, ?_⟩
            array_get_dec
            refine ⟨_, rfl, ?_, .non, _, app_end (r := 0) (es := (rows.take m).map fun r => tRow (g r)) rfl (by rw [List.length_map, List.length_take]; omega), ?_⟩
            · show (D.vals ((sortI _).map .int) && true) = true
              rw [vals_ints]
              rfl
            array_get_dec
            refine ⟨_, m + 1, rfl, hm2, e2, ?_⟩
            rw [List.take_succ_eq_append_getElem hm2, List.map_append]
            rfl
          · rintro env M ⟨z, m, rfl, hm, e, rfl⟩
            have hm2 : rows.length ≤ m := by
              refine Classical.byContradiction fun hc => ?_
              rw [List.drop_eq_getElem_cons (by omega), List.map_cons] at e
              cases e
            rw [List.take_of_length_le hm2]
            have eg : (rows.map fun r => tRow (g r)) = (rows.map g).map tRow := by
              rw [List.map_map]
              rfl
            rw [eg]
            have hrow : ∀ r ∈ rows.map g, r ≠ [] ∧ (∀ x ∈ r, 0 ≤ x ∧ x < n) ∧ r.Pairwise (· < ·) := fun r hr' => by
              obtain ⟨r0, hr0, rfl⟩ := List.mem_map.mp hr'
              have h0 := hr r0 hr0
              refine ⟨fun z => h0.1 ?_, fun x hx => ?_, sort_lt (pf_nodup hp h0.2.1 (nodup_lt h0.2.2))⟩
              · have : (g r0).length = (r0.map (pf ps)).length := (sortI_perm (r0.map (pf ps))).length_eq
                rw [z, List.length_map] at this
                exact List.length_eq_zero_iff.mp this.symm
              · obtain ⟨y, hy, rfl⟩ := List.mem_map.mp ((sortI_perm _).mem_iff.mp hx)
                exact (pf_get hp (h0.2.1 y hy)).2
            have it : ((rows.map g).map tRow).all isIT = true := by
              refine np_it (i := n) (List.all_eq_true.mpr fun d hd => ?_)
              obtain ⟨r, hr, rfl⟩ := List.mem_map.mp hd
              exact isNP_iff.mpr (hrow r hr)
            have hfl2 : ((rows.map g).flatten).Perm (rows.flatten.map (pf ps)) := flat_led ps rows
            array_get_dec
            refine ⟨.fl (srtD ((rows.map g).map tRow)), ?_, ?_⟩
            · show Option.bind (some ((rows.map g).map tRow)) (fun ds => (sortD false ds).map D.fl) = _
              rw [Option.bind_some, sort_tups it]
              rfl
            array_get_dec
            refine ⟨_, rfl, ?_⟩
            array_get_dec
            refine ⟨_, rfl, Nat.le_of_ble_eq_true rfl, ?_⟩
            array_get_dec
            refine done _ _ ?_
            unfold jKind
            rw [if_neg k1, if_neg k2, if_neg k3, if_neg (by rw [k5]; decide +kernel)]
            refine isPart_srt hrow (hfl2.trans ?_)
            have := hfl.map (pf ps)
            rw [pf_range hp] at this
            exact this.trans hp
        · have k4 : s = "colours" := by
            unfold kindWs at hk
            simp only [List.mem_cons, List.not_mem_nil, or_false] at hk
            rcases hk with h | h | h | h | h
            · exact absurd h k1
            · exact absurd h k2
            · exact absurd h k3
            · exact absurd h k5
            · exact h
          rw [if_pos k4] at hj
          obtain ⟨is, rfl⟩ := isCol_ints hj
          obtain ⟨hb, hlen⟩ := isCol_iff.mp hj
          rw [if_neg fun z => k5 (of_decide_eq_true z)]
          have hl1 : is.length ≤ 12 := by omega
          array_get_dec
          refine ⟨_, rfl, Nat.le_of_ble_eq_true rfl, ?_⟩
          array_get_dec
          refine ⟨_, rfl, ?_⟩
          rw [List.length_map]
          refine ⟨_, mul_one (by omega), ?_⟩
          refine ⟨_, rfl, ?_⟩
          refine ⟨_, rfl, ?_⟩
          array_get_dec
          refine ⟨_, rfl, ?_⟩
          rw [List.length_map]
          refine ⟨0, _, rfl, rfl, rng_ok (by omega), ?_⟩
          refine ⟨fun l env M => ∃ (z : Option D) (j : Nat) (row : List Int), env = [some (tRow ps), some (.tup [.str s, tRow is]), some (.ref 0), z, some (.str s), some (tRow is), none, none] ∧ M = [.lst (row.map .int)] ∧ j ≤ is.length ∧ l = rangeL (j : Int) (is.length - j) ∧ row.length = is.length ∧ ∀ x ∈ row, 0 ≤ x ∧ x < 10, fun _ _ _ _ => rfl, ⟨_, 0, List.replicate is.length 0, rfl, ?_, Nat.zero_le _, ?_, List.length_replicate, fun x hx => ?_⟩, ?_, ?_⟩
          · show [MO.lst (List.replicate is.length (.int 0))] = _
            rw [List.map_replicate]
          · congr 1
          · rw [List.eq_of_mem_replicate hx]
            decide
          · rintro x l env M ⟨z, j, row, rfl, rfl, hj, e, hlr, hrow⟩
            cases hm : is.length - j with
            | zero =>
              rw [hm] at e
              cases e
            | succ m =>
              rw [hm] at e
              have hj' : j < is.length := by omega
              obtain ⟨e1, e2⟩ := List.cons.inj e
              subst e1
              have hjp : j < ps.length := by omega
              refine ⟨_, rfl, ?_⟩
              array_get_dec
              refine ⟨_, idx_of (.inr (.inl rfl)) (int_at hj') (by omega), ?_⟩
              refine ⟨_, rfl, ?_⟩
              array_get_dec
              refine ⟨_, idx_of (.inr (.inl rfl)) (int_at hjp) (by omega), ?_⟩
              have hin := mem_rangeI.mp (hp.mem_iff.mp (List.getElem_mem hjp))
              have ex : ps[j] = ((ps[j].toNat : Nat) : Int) := by omega
              have hs := set_at (M := [MO.lst (row.map .int)]) (r := 0) (es := row.map .int) (j := ps[j].toNat) (v := .int is[j]) rfl (by rw [List.length_map]; omega) (by omega)
              rw [← ex, set_map] at hs
              refine ⟨_, hs, ?_⟩
              array_get_dec
              refine ⟨_, j + 1, _, rfl, rfl, by omega, ?_, by rw [List.length_set]; exact hlr, fun x hx => ?_⟩
              · rw [e2]
                congr 1
                omega
              · rcases List.mem_or_eq_of_mem_set hx with hx | rfl
                · exact hrow x hx
                · exact hb _ (List.getElem_mem hj')
          · rintro env M ⟨z, j, row, rfl, rfl, hj, e, hlr, hrow⟩
            array_get_dec
            refine ⟨_, rfl, ?_⟩
            array_get_dec
            refine ⟨_, rfl, Nat.le_of_ble_eq_true rfl, ?_⟩
            array_get_dec
            refine done _ _ ?_
            unfold jKind
            rw [if_neg k1, if_neg k2, if_neg k3, if_pos k4]
            exact isCol_iff.mpr ⟨hrow, by omega⟩
end Z
end
section
set_option Elab.async false
set_option linter.all false
set_option maxRecDepth 100000
set_option maxHeartbeats 1000000
set_option autoImplicit false
/-! The law's makers: claims. -/
namespace Z
open PySem
local macro_rules | `(tactic| array_mem_dec) => `(tactic| first
  | with_reducible refine vE_c ?_ | with_reducible refine vE_nope ?_ | with_reducible refine vE_var (by with_unfolding_all rfl) ?_ | with_reducible refine vE_bin ?_ | with_reducible refine vE_neg ?_ | with_reducible refine vE_cmp ?_ | with_reducible refine vE_not ?_ | with_reducible refine vE_and ?_ | with_reducible refine vE_or ?_ | with_reducible refine vE_ite ?_
  | with_reducible refine vE_tup ?_ | with_reducible refine vE_lst ?_ | with_reducible refine vE_nil ?_ | with_reducible refine vE_cons ?_ | with_reducible refine vE_idx ?_ | with_reducible refine vE_sli ?_ | with_reducible refine vE_mat ?_ | with_reducible refine vE_call ?_ | with_reducible refine vE_bi (by with_unfolding_all rfl) ?_ | with_reducible refine vE_mth ?_ | with_reducible refine vE_isi ?_
  | with_reducible refine vT_nope ?_ | with_reducible refine vT_var (by with_unfolding_all rfl) ?_ | with_reducible refine vT_cmp ?_ | with_reducible refine vT_not ?_ | with_reducible refine vT_and ?_ | with_reducible refine vT_or ?_ | with_reducible refine vT_call ?_ | with_reducible refine vT_bi (by with_unfolding_all rfl) ?_ | with_reducible refine vT_isi ?_ | with_reducible refine vT_idx ?_
  | with_reducible refine vI_seq ?_ | with_reducible refine vI_rng ?_
  | with_reducible refine vS_nil ?_ | with_reducible refine vS_skip ?_ | with_reducible refine vS_expr ?_ | with_reducible refine vS_asg ?_ | with_reducible refine vS_asgT ?_ | with_reducible refine vS_sub ?_ | with_reducible refine vS_ret ?_ | with_reducible refine vS_brk ?_ | with_reducible refine vS_cont ?_ | with_reducible refine vS_ife ?_ | with_reducible refine vS_for ?_
  | with_reducible refine vaft_nx ?_ | with_reducible refine vaft_rt ?_ | with_reducible refine vaft_bk ?_ | with_reducible refine vaft_ct ?_ | with_reducible refine vturn_nx ?_ | with_reducible refine vturn_ct ?_ | with_reducible refine vturn_bk ?_ | with_reducible refine vturn_rt ?_ | with_reducible refine vfin_rtQ ?_ | with_reducible refine vfin_nxQ ?_)
local macro_rules | `(tactic| array_get_dec) => `(tactic| repeat (first
  | with_reducible refine vE_c ?_ | with_reducible refine vE_nope ?_ | with_reducible refine vE_var (by with_unfolding_all rfl) ?_ | with_reducible refine vE_bin ?_ | with_reducible refine vE_neg ?_ | with_reducible refine vE_cmp ?_ | with_reducible refine vE_not ?_ | with_reducible refine vE_and ?_ | with_reducible refine vE_or ?_ | with_reducible refine vE_ite ?_
  | with_reducible refine vE_tup ?_ | with_reducible refine vE_lst ?_ | with_reducible refine vE_nil ?_ | with_reducible refine vE_cons ?_ | with_reducible refine vE_idx ?_ | with_reducible refine vE_sli ?_ | with_reducible refine vE_mat ?_ | with_reducible refine vE_call ?_ | with_reducible refine vE_bi (by with_unfolding_all rfl) ?_ | with_reducible refine vE_mth ?_ | with_reducible refine vE_isi ?_
  | with_reducible refine vT_nope ?_ | with_reducible refine vT_var (by with_unfolding_all rfl) ?_ | with_reducible refine vT_cmp ?_ | with_reducible refine vT_not ?_ | with_reducible refine vT_and ?_ | with_reducible refine vT_or ?_ | with_reducible refine vT_call ?_ | with_reducible refine vT_bi (by with_unfolding_all rfl) ?_ | with_reducible refine vT_isi ?_ | with_reducible refine vT_idx ?_
  | with_reducible refine vI_seq ?_ | with_reducible refine vI_rng ?_
  | with_reducible refine vS_nil ?_ | with_reducible refine vS_skip ?_ | with_reducible refine vS_expr ?_ | with_reducible refine vS_asg ?_ | with_reducible refine vS_asgT ?_ | with_reducible refine vS_sub ?_ | with_reducible refine vS_ret ?_ | with_reducible refine vS_brk ?_ | with_reducible refine vS_cont ?_ | with_reducible refine vS_ife ?_ | with_reducible refine vS_for ?_
  | with_reducible refine vaft_nx ?_ | with_reducible refine vaft_rt ?_ | with_reducible refine vaft_bk ?_ | with_reducible refine vaft_ct ?_ | with_reducible refine vturn_nx ?_ | with_reducible refine vturn_ct ?_ | with_reducible refine vturn_bk ?_ | with_reducible refine vturn_rt ?_ | with_reducible refine vfin_rtQ ?_ | with_reducible refine vfin_nxQ ?_))
variable {M : Mem} {X : Ex} {k : Nat}
/-! ### equal values -/
theorem cmp_blb (a b : Bool) : cmpD .ne (.bl a) (.bl b) M = some (!(decide (a = b))) := by
  have v : ∀ a : Bool, viewS (.bl a) M = some (.bool a) := fun a => by
    unfold viewS
    rw [show view (.bl a) M = some (.bool a) from rfl]
    dsimp only
    rw [if_pos (by unfold SeqAt.shaped; simp [PyData.canLay0, PyData.depth])]
  show (eqD (.bl a) (.bl b) M).map not = _
  unfold eqD
  rw [v, v]
  cases a <;> cases b <;> simp [PyData.eqv]
theorem cmp_bl_self (a : Bool) : cmpD .ne (.bl a) (.bl a) M = some false := by
  rw [cmp_blb]
  simp
theorem cmp_eq_bl (a : Bool) : cmpD .eq (.bl a) (.bl a) M = some true := by
  have v : ∀ a : Bool, viewS (.bl a) M = some (.bool a) := fun a => by
    unfold viewS
    rw [show view (.bl a) M = some (.bool a) from rfl]
    dsimp only
    rw [if_pos (by unfold SeqAt.shaped; simp [PyData.canLay0, PyData.depth])]
  show eqD (.bl a) (.bl a) M = _
  unfold eqD
  rw [v]
  simp [PyData.eqv]
theorem cmp_ne_int (a b : Int) : cmpD .ne (.int a) (.int b) M = some (!(decide (a = b))) := by
  show (eqD (.int a) (.int b) M).map not = _
  rw [eq_int]
  rfl
/-- what the law may compare with itself -/
def sameOk (n : Nat) (d : D) : Prop := d = .non ∨ (∃ b, d = .bl b) ∨ dm n d = true
theorem cmp_eq_non : cmpD .eq .non .non M = some true := by
  have v : viewS .non M = some .none := by
    unfold viewS
    rw [show view .non M = some .none from rfl]
    dsimp only
    rw [if_pos (by unfold SeqAt.shaped; simp [PyData.canLay0, PyData.depth])]
  show eqD .non .non M = _
  unfold eqD
  rw [v]
  simp [PyData.eqv]
theorem same_leaf {k : Nat} {d : D} {Q : D → Mem → Prop} (h : d = .non ∨ (∃ b, d = .bl b) ∨ (∃ i, d = .int i) ∨ ∃ s, d = .str s ∧ SeqAt.shaped (.str s) = true) (hQ : Q (.bl true) M) : wR (inv (CC (k + 1)) "_law_same" [d, d] M) Q X := by
  have hv : d.val = true := by
    rcases h with rfl | ⟨b, rfl⟩ | ⟨i, rfl⟩ | ⟨s, rfl, _⟩ <;> rfl
  refine inv_vW (by show (d.val && (d.val && true)) = true; rw [hv]; rfl) ?_
  refine C_w k75_l__law_same rfl ?_
  show wSs _ k75_b__law_same [some d, some d, none] _ _
  unfold k75_b__law_same
  rcases h with rfl | ⟨b, rfl⟩ | ⟨i, rfl⟩ | ⟨s, rfl, hs⟩
  · array_get_dec
    refine ⟨_, rfl, ?_⟩
    rw [if_neg (by decide)]
    array_get_dec
    refine ⟨_, rfl, ?_⟩
    array_get_dec
    refine ⟨_, rfl, ?_⟩
    refine ⟨_, cmp_bl_self _, ?_⟩
    rw [if_neg (by decide)]
    array_get_dec
    refine ⟨_, rfl, ?_⟩
    array_get_dec
    refine ⟨_, rfl, ?_⟩
    refine ⟨_, cmp_bl_self _, ?_⟩
    rw [if_neg (by decide)]
    array_get_dec
    refine ⟨_, rfl, ?_⟩
    array_get_dec
    refine ⟨_, rfl, ?_⟩
    refine ⟨_, cmp_bl_self _, ?_⟩
    rw [if_neg (by decide)]
    array_get_dec
    refine ⟨_, rfl, ?_⟩
    array_get_dec
    refine ⟨_, rfl, ?_⟩
    refine ⟨_, cmp_bl_self _, ?_⟩
    rw [if_neg (by decide)]
    array_get_dec
    refine ⟨_, cmp_eq_non, ?_⟩
    array_get_dec
    exact ⟨_, rfl, hQ⟩
  · array_get_dec
    refine ⟨_, rfl, ?_⟩
    rw [if_neg (by decide)]
    array_get_dec
    refine ⟨_, rfl, ?_⟩
    array_get_dec
    refine ⟨_, rfl, ?_⟩
    refine ⟨_, cmp_bl_self _, ?_⟩
    rw [if_neg (by decide)]
    array_get_dec
    refine ⟨_, rfl, ?_⟩
    array_get_dec
    refine ⟨_, rfl, ?_⟩
    refine ⟨_, cmp_bl_self _, ?_⟩
    rw [if_neg (by decide)]
    array_get_dec
    refine ⟨_, rfl, ?_⟩
    array_get_dec
    refine ⟨_, rfl, ?_⟩
    refine ⟨_, cmp_bl_self _, ?_⟩
    rw [if_neg (by decide)]
    array_get_dec
    refine ⟨_, rfl, ?_⟩
    array_get_dec
    refine ⟨_, rfl, ?_⟩
    refine ⟨_, cmp_bl_self _, ?_⟩
    rw [if_neg (by decide)]
    array_get_dec
    refine ⟨_, cmp_eq_bl _, ?_⟩
    array_get_dec
    exact ⟨_, rfl, hQ⟩
  · array_get_dec
    refine ⟨_, rfl, ?_⟩
    rw [if_neg (by decide)]
    array_get_dec
    refine ⟨_, rfl, ?_⟩
    array_get_dec
    refine ⟨_, rfl, ?_⟩
    refine ⟨_, cmp_bl_self _, ?_⟩
    rw [if_neg (by decide)]
    array_get_dec
    refine ⟨_, rfl, ?_⟩
    array_get_dec
    refine ⟨_, rfl, ?_⟩
    refine ⟨_, cmp_bl_self _, ?_⟩
    rw [if_neg (by decide)]
    array_get_dec
    refine ⟨_, rfl, ?_⟩
    array_get_dec
    refine ⟨_, rfl, ?_⟩
    refine ⟨_, cmp_bl_self _, ?_⟩
    rw [if_neg (by decide)]
    array_get_dec
    refine ⟨_, rfl, ?_⟩
    array_get_dec
    refine ⟨_, rfl, ?_⟩
    refine ⟨_, cmp_bl_self _, ?_⟩
    rw [if_neg (by decide)]
    array_get_dec
    refine ⟨_, eq_intC _ _, ?_⟩
    array_get_dec
    rw [decide_eq_true rfl]
    exact ⟨_, rfl, hQ⟩
  · array_get_dec
    refine ⟨_, rfl, ?_⟩
    rw [if_neg (by decide)]
    array_get_dec
    refine ⟨_, rfl, ?_⟩
    array_get_dec
    refine ⟨_, rfl, ?_⟩
    refine ⟨_, cmp_bl_self _, ?_⟩
    rw [if_neg (by decide)]
    array_get_dec
    refine ⟨_, rfl, ?_⟩
    array_get_dec
    refine ⟨_, rfl, ?_⟩
    refine ⟨_, cmp_bl_self _, ?_⟩
    rw [if_neg (by decide)]
    array_get_dec
    refine ⟨_, rfl, ?_⟩
    array_get_dec
    refine ⟨_, rfl, ?_⟩
    refine ⟨_, cmp_bl_self _, ?_⟩
    rw [if_neg (by decide)]
    array_get_dec
    refine ⟨_, rfl, ?_⟩
    array_get_dec
    refine ⟨_, rfl, ?_⟩
    refine ⟨_, cmp_bl_self _, ?_⟩
    rw [if_neg (by decide)]
    array_get_dec
    refine ⟨_, eq_strC hs hs, ?_⟩
    array_get_dec
    rw [decide_eq_true rfl]
    exact ⟨_, rfl, hQ⟩
def SameAt (k n : Nat) : Prop := ∀ {d : D}, dm n d = true → ∀ {M : Mem} {X : Ex} {Q : D → Mem → Prop}, Q (.bl true) M → wR (inv (CC (k + n + 1)) "_law_same" [d, d] M) Q X
theorem same_tup {m : Nat} {ds : List D} (ih : SameAt k m) (h : dm (m + 1) (.tup ds) = true) {Q : D → Mem → Prop} (hQ : Q (.bl true) M) : wR (inv (CC (k + m + 1 + 1)) "_law_same" [.tup ds, .tup ds] M) Q X := by
      have hv := dm_val h
      have h1 := (band (show (dms m ds && decide (ds.length ≤ 1000)) = true from h)).1
      have hl := dm_len h
      have h2 : ds.length ≤ 16777216 := by omega
      refine inv_vW (by show ((D.tup ds).val && ((D.tup ds).val && true)) = true; rw [hv]; rfl) ?_
      refine C_w k75_l__law_same rfl ?_
      show wSs _ k75_b__law_same [some (.tup ds), some (.tup ds), none] _ _
      unfold k75_b__law_same
      array_get_dec
      refine ⟨_, rfl, ?_⟩
      rw [if_pos (by decide)]
      array_get_dec
      refine ⟨_, rfl, ?_⟩
      array_get_dec
      refine ⟨_, rfl, ?_⟩
      refine ⟨_, cmp_bl_self _, ?_⟩
      rw [if_neg (by decide)]
      array_get_dec
      refine ⟨_, rfl, ?_⟩
      array_get_dec
      refine ⟨_, rfl, ?_⟩
      refine ⟨_, cmp_bl_self _, ?_⟩
      rw [if_neg (by decide)]
      array_get_dec
      refine ⟨_, rfl, ?_⟩
      array_get_dec
      refine ⟨_, rfl, ?_⟩
      refine ⟨_, cmp_ne_int _ _, ?_⟩
      rw [decide_eq_true rfl, if_neg (by decide)]
      array_get_dec
      refine comp_pure (l0 := rangeL 0 ds.length) (F0 := fun _ => .bl true) (by rw [rangeL_len]; exact h2) ?_ ?_ ?_
      · array_get_dec
        refine ⟨_, rfl, ?_⟩
        refine ⟨0, _, rfl, rfl, rng_ok (by omega), rfl, rfl, ?_⟩
        congr 1
      · intro x hx
        rw [rangeL_map] at hx
        obtain ⟨j, hj, rfl⟩ := List.mem_map.mp hx
        have hj := List.mem_range.mp hj
        have e0 : (0 : Int) + (j : Int) = (j : Int) := by omega
        rw [e0]
        array_get_dec
        have hi := idx_of (M := []) (a := .tup ds) (l := ds) (j := j) (x := ds[j]) (.inr (.inl rfl)) (List.getElem?_eq_getElem hj) (by omega)
        refine ⟨_, hi, ?_⟩
        array_get_dec
        refine ⟨_, hi, ?_⟩
        array_get_dec
        have hx := dms_mem h1 _ (List.getElem_mem hj)
        have hxv := dm_val hx
        refine ⟨[ds[j], ds[j]], frzs_vals (by show (ds[j].val && (ds[j].val && true)) = true; rw [hxv]; rfl), ?_⟩
        exact ih hx ⟨rfl, rfl⟩
      · array_get_dec
        have e : ((rangeL 0 ds.length).map fun _ => D.bl true) = (rangeL 0 ds.length).map fun x => D.bl ((fun _ => true) x) := rfl
        rw [e]
        refine ⟨_, (by show (memD _ _ _).map not = _; rw [mem_false]; rfl), ?_⟩
        rw [List.all_eq_true.mpr fun _ _ => rfl]
        array_get_dec
        exact ⟨_, rfl, hQ⟩
theorem m_same (n : Nat) : SameAt k n := by
  induction n with
  | zero =>
    intro d h M X Q hQ
    rcases dm_cases h with ⟨i, rfl⟩ | ⟨s, rfl⟩ | ⟨ds, m, rfl, e, h1, h2⟩
    · exact same_leaf (.inr (.inr (.inl ⟨i, rfl⟩))) hQ
    · exact same_leaf (.inr (.inr (.inr ⟨s, rfl, (dm_str h).1⟩))) hQ
    · cases e
  | succ m ih =>
    intro d h M X Q hQ
    rcases dm_cases h with ⟨i, rfl⟩ | ⟨s, rfl⟩ | ⟨ds, m', rfl, e, h1, h2⟩
    · exact same_leaf (.inr (.inr (.inl ⟨i, rfl⟩))) hQ
    · exact same_leaf (.inr (.inr (.inr ⟨s, rfl, (dm_str h).1⟩))) hQ
    · exact same_tup ih h hQ
/-! ### the opposite claim -/
def pairsL : List (Str × Str) := [("in", "out"), ("same", "unlike"), ("normal", "broken"), ("tower", "stuck"), ("turned", "apart"), ("led", "unled"), ("map", "nomap"), ("order", ""), ("colourings", "")]
def pairD (p : Str × Str) : D := .tup [.str p.1, .str p.2]
theorem out_fl {ds : List D} {m : Nat} (h : D.vals ds = true) : outD m M (.fl ds) = some (.fl ds) := by
  show (if D.vals ds then some (D.fl ds) else _) = _
  rw [if_pos h]
theorem m_words {Q : D → Mem → Prop} (h : Q (.fl (pairsL.map pairD)) M) : wR (inv (CC (k + 1)) "_law_words" [] M) Q X := by
  refine inv_vW rfl ?_
  refine C_w k75_l__law_words rfl ?_
  show wSs _ k75_b__law_words [none] _ _
  unfold k75_b__law_words
  array_get_dec
  refine ⟨_, rfl, Nat.le_of_ble_eq_true rfl, ?_⟩
  array_get_dec
  refine ⟨_, rfl, Nat.le_of_ble_eq_true rfl, ?_⟩
  array_get_dec
  refine ⟨_, rfl, Nat.le_of_ble_eq_true rfl, ?_⟩
  array_get_dec
  refine ⟨_, rfl, Nat.le_of_ble_eq_true rfl, ?_⟩
  array_get_dec
  refine ⟨_, rfl, Nat.le_of_ble_eq_true rfl, ?_⟩
  array_get_dec
  refine ⟨_, rfl, Nat.le_of_ble_eq_true rfl, ?_⟩
  refine ⟨_, rfl, ?_⟩
  array_get_dec
  refine ⟨_, rfl, Nat.le_of_ble_eq_true rfl, ?_⟩
  array_get_dec
  refine ⟨_, rfl, Nat.le_of_ble_eq_true rfl, ?_⟩
  array_get_dec
  refine ⟨_, rfl, Nat.le_of_ble_eq_true rfl, ?_⟩
  array_get_dec
  refine ⟨_, rfl, Nat.le_of_ble_eq_true rfl, ?_⟩
  array_get_dec
  refine ⟨_, rfl, Nat.le_of_ble_eq_true rfl, ?_⟩
  refine ⟨_, rfl, ?_⟩
  array_get_dec
  exact ⟨.fl (pairsL.map pairD), out_fl (ds := pairsL.map pairD) (by decide +kernel), h⟩
def lawOpp : List (Str × Str) → Str → Option Str
  | [], _ => none
  | p :: r, s => if s = p.1 ∧ p.2 ≠ "" then some p.2 else if s = p.2 then some p.1 else lawOpp r s
def oppV (o : Option Str) (rest : List D) : D := match o with
  | some t => .tup (.str t :: rest)
  | none => .non
def oppKs : List Str := ["in", "out", "same", "unlike", "normal", "broken", "tower", "stuck", "turned", "apart", "led", "unled", "map", "nomap"]
def oppVs : List Str := ["out", "in", "unlike", "same", "broken", "normal", "stuck", "tower", "apart", "turned", "unled", "led", "nomap", "map"]
def opp (s : Str) : Option Str := (oppKs.findIdx? fun k => decide (k = s)).bind fun j => oppVs[j]?
theorem opp_same : ∀ s ∈ wordsC, lawOpp pairsL s = opp s ∧ SeqAt.shaped (.str s) = true ∧ ∀ t, opp s = some t → SeqAt.shaped (.str t) = true ∧ t.length ≤ 100 := by
  have h : (wordsC.all fun s => decide (lawOpp pairsL s = opp s) && (SeqAt.shaped (.str s) && (match opp s with
    | some t => SeqAt.shaped (.str t) && decide (t.length ≤ 100)
    | none => true))) = true := by decide +kernel
  intro s hs
  have h1 := band (List.all_eq_true.mp h s hs)
  have h2 := band h1.2
  refine ⟨of_decide_eq_true h1.1, h2.1, fun t e => ?_⟩
  rw [e] at h2
  have h3 := band h2.2
  exact ⟨h3.1, of_decide_eq_true h3.2⟩
theorem cut1 {x : D} {l : List D} : cutD (x :: l) (some 1) none = l := by
  have := cut_from (l := x :: l) (j := 1) (by simp)
  exact this
theorem add_tt {a b : List D} (h : a.length + b.length ≤ 16777216) : binD .add (.tup a) (.tup b) M = some (.tup (a ++ b)) := by
  show (if a.length + b.length ≤ 16777216 then some (D.tup (a ++ b)) else none) = _
  rw [if_pos h]
theorem opp_val {o : Option Str} {rest : List D} (h : D.vals rest = true) : (oppV o rest).val = true := by
  cases o with
  | none => rfl
  | some t => exact h
theorem m_law_opposite {s : Str} {rest : List D} (hs : s ∈ wordsC) (hr : D.vals rest = true) (hl : rest.length ≤ 1000) {Q : D → Mem → Prop} (h : Q (oppV (opp s) rest) M) : wR (inv (CC (k + 2)) "_law_opposite" [.tup (.str s :: rest)] M) Q X := by
  obtain ⟨e1, e2, _⟩ := opp_same s hs
  refine inv_vW (by show (D.vals rest && true) = true; rw [hr]; rfl) ?_
  refine C_w k75_l__law_opposite rfl ?_
  show wSs _ k75_b__law_opposite [some (.tup (.str s :: rest)), none, none] _ _
  unfold k75_b__law_opposite
  array_get_dec
  refine ⟨_, rfl, ?_⟩
  refine m_words ?_
  refine ⟨_, rfl, ?_⟩
  have i0 : idxD (.tup (.str s :: rest)) (.int 0) ([] : Mem) = some (.str s) := idx_nat (j := 0) rfl (by decide)
  refine ⟨fun l env M => ∃ (ps : List (Str × Str)) (z1 z2 : Option D), env = [some (.tup (.str s :: rest)), z1, z2] ∧ M = [] ∧ l = ps.map pairD ∧ (∀ p ∈ ps, SeqAt.shaped (.str p.1) = true ∧ SeqAt.shaped (.str p.2) = true) ∧ lawOpp pairsL s = lawOpp ps s, fun _ _ _ _ => rfl, ⟨pairsL, _, _, rfl, rfl, rfl, ?_, rfl⟩, ?_, ?_⟩
  · have h : (pairsL.all fun p => SeqAt.shaped (.str p.1) && SeqAt.shaped (.str p.2)) = true := by decide +kernel
    exact fun p hp => band (List.all_eq_true.mp h p hp)
  · rintro x l env M ⟨ps, z1, z2, rfl, rfl, e, hsh, ho⟩
    cases ps with
    | nil => cases e
    | cons p ps =>
      obtain ⟨ea, eb⟩ := List.cons.inj e
      subst ea
      obtain ⟨one, two⟩ := p
      have hp := hsh _ List.mem_cons_self
      refine ⟨_, rfl, ?_⟩
      array_get_dec
      refine ⟨_, i0, ?_⟩
      array_get_dec
      refine ⟨_, eq_strC e2 hp.1, ?_⟩
      have done : ∀ t, opp s = some t → binD .add (.tup [.str t]) (.tup rest) ([] : Mem) = some (.tup (.str t :: rest)) := fun t _ => add_tt (by rw [List.length_cons, List.length_nil]; omega)
      by_cases c1 : s = one
      · rw [if_pos (decide_eq_true c1)]
        array_get_dec
        refine ⟨!(decide (two = "")), ?_, ?_⟩
        · show (eqD (.str two) (.str "") []).map not = _
          rw [eq_str hp.2 (sh "")]
          rfl
        by_cases c2 : two = ""
        · rw [if_neg (by simp [c2])]
          array_get_dec
          refine ⟨_, i0, ?_⟩
          array_get_dec
          refine ⟨_, eq_strC e2 hp.2, ?_⟩
          by_cases c3 : s = two
          · exfalso
            rw [c3, c2] at hs
            exact absurd hs (by decide +kernel)
          · rw [if_neg fun z => c3 (of_decide_eq_true z)]
            array_get_dec
            refine ⟨ps, _, _, rfl, rfl, eb, fun q hq => hsh q (List.mem_cons_of_mem _ hq), ?_⟩
            rw [ho, lawOpp, if_neg (fun z => z.2 c2), if_neg c3]
        · rw [if_pos (by simp [c2])]
          have eo : opp s = some two := by
            rw [← e1, ho, lawOpp, if_pos ⟨c1, c2⟩]
          array_get_dec
          refine ⟨_, rfl, Nat.le_of_ble_eq_true rfl, ?_⟩
          array_get_dec
          refine ⟨_, rfl, ?_⟩
          array_get_dec
          refine ⟨_, rfl, _, rfl, ?_⟩
          rw [cut1]
          refine ⟨_, done two eo, ?_⟩
          array_get_dec
          have hv := opp_val (o := opp s) hr
          rw [eo] at h hv
          exact ⟨_, out_val hv, h⟩
      · rw [if_neg fun z => c1 (of_decide_eq_true z), if_neg (by decide)]
        array_get_dec
        refine ⟨_, i0, ?_⟩
        array_get_dec
        refine ⟨_, eq_strC e2 hp.2, ?_⟩
        by_cases c3 : s = two
        · rw [if_pos (decide_eq_true c3)]
          have eo : opp s = some one := by
            rw [← e1, ho, lawOpp, if_neg (fun z => c1 z.1), if_pos c3]
          array_get_dec
          refine ⟨_, rfl, Nat.le_of_ble_eq_true rfl, ?_⟩
          array_get_dec
          refine ⟨_, rfl, ?_⟩
          array_get_dec
          refine ⟨_, rfl, _, rfl, ?_⟩
          rw [cut1]
          refine ⟨_, done one eo, ?_⟩
          array_get_dec
          have hv := opp_val (o := opp s) hr
          rw [eo] at h hv
          exact ⟨_, out_val hv, h⟩
        · rw [if_neg fun z => c3 (of_decide_eq_true z)]
          array_get_dec
          refine ⟨ps, _, _, rfl, rfl, eb, fun q hq => hsh q (List.mem_cons_of_mem _ hq), ?_⟩
          rw [ho, lawOpp, if_neg (fun z => c1 z.1), if_neg c3]
  · rintro env M ⟨ps, z1, z2, rfl, rfl, e, hsh, ho⟩
    have ep : ps = [] := by
      cases ps with
      | nil => rfl
      | cons p ps => cases e
    subst ep
    array_get_dec
    have eo : opp s = none := by
      rw [← e1, ho]
      rfl
    rw [eo] at h
    exact ⟨_, rfl, h⟩
theorem dc_find (ks : List Str) (s : Str) : (ks.map D.str).findIdx? (fun k => D.beq k (.str s)) = ks.findIdx? fun k => decide (k = s) := by
  rw [List.findIdx?_map]
  rfl
theorem dc_any (ks : List Str) (s : Str) : (ks.map D.str).any (fun k => D.beq k (.str s)) = decide (s ∈ ks) := by
  induction ks with
  | nil => rfl
  | cons a l ih =>
    rw [List.map_cons, List.any_cons, ih]
    show (decide (a = s) || decide (s ∈ l)) = decide (s ∈ a :: l)
    rw [← Bool.decide_or]
    exact decide_eq_decide.mpr (by rw [List.mem_cons, eq_comm])
theorem opp_some : ∀ s ∈ wordsC, (s ∈ oppKs ↔ (opp s).isSome = true) := by
  have h : (wordsC.all fun s => decide (s ∈ oppKs ↔ (opp s).isSome = true)) = true := by decide +kernel
  exact fun s hs => of_decide_eq_true (List.all_eq_true.mp h s hs)
theorem m_opposite_of {s : Str} {rest : List D} (hs : s ∈ wordsC) (hr : D.vals rest = true) (hl : rest.length ≤ 1000) {Q : D → Mem → Prop} (h : Q (oppV (opp s) rest) M) : wR (inv (CC (k + 1)) "opposite_of" [.tup (.str s :: rest)] M) Q X := by
  obtain ⟨e1, e2, _⟩ := opp_same s hs
  have hso := opp_some s hs
  refine inv_vW (by show (D.vals rest && true) = true; rw [hr]; rfl) ?_
  refine C_w k75_l_opposite_of rfl ?_
  show wSs _ k75_b_opposite_of [some (.tup (.str s :: rest))] _ _
  unfold k75_b_opposite_of
  have i0 : idxD (.tup (.str s :: rest)) (.int 0) ([] : Mem) = some (.str s) := idx_nat (j := 0) rfl (by decide)
  array_get_dec
  refine ⟨_, i0, ?_⟩
  array_get_dec
  refine ⟨!(decide (s ∈ oppKs)), ?_, ?_⟩
  · show (some ((oppKs.map D.str).any fun k => D.beq k (.str s))).map not = _
    rw [dc_any]
    rfl
  by_cases c : s ∈ oppKs
  · rw [if_neg (by simp [c])]
    have hsome := hso.mp c
    obtain ⟨t, et⟩ := Option.isSome_iff_exists.mp hsome
    array_get_dec
    refine ⟨_, i0, ?_⟩
    refine ⟨.str t, ?_, ?_⟩
    · show (match (oppKs.map D.str).findIdx? fun k => D.beq k (.str s) with
      | some j => (oppVs.map D.str)[j]?
      | none => none) = _
      rw [dc_find]
      unfold opp at et
      cases e : oppKs.findIdx? fun k => decide (k = s) with
      | none =>
        rw [e] at et
        cases et
      | some j =>
        rw [e] at et
        show (oppVs.map D.str)[j]? = _
        rw [List.getElem?_map]
        have et' : oppVs[j]? = some t := et
        rw [et']
        rfl
    array_get_dec
    refine ⟨_, rfl, Nat.le_of_ble_eq_true rfl, ?_⟩
    array_get_dec
    refine ⟨_, rfl, ?_⟩
    array_get_dec
    refine ⟨_, rfl, _, rfl, ?_⟩
    rw [cut1]
    refine ⟨_, add_tt (by rw [List.length_cons, List.length_nil]; omega), ?_⟩
    array_get_dec
    have hv := opp_val (o := opp s) hr
    rw [et] at h hv
    exact ⟨_, out_val hv, h⟩
  · rw [if_pos (by simp [c])]
    array_get_dec
    have en : opp s = none := by
      cases eo : opp s with
      | none => rfl
      | some t =>
        rw [eo] at hso
        exact absurd (hso.mpr rfl) c
    rw [en] at h
    exact ⟨_, rfl, h⟩
end Z
end
section
set_option Elab.async false
set_option linter.all false
set_option maxRecDepth 100000
set_option maxHeartbeats 1000000
set_option autoImplicit false
/-! The law's makers: claims (2). -/
namespace Z
open PySem
local macro_rules | `(tactic| array_mem_dec) => `(tactic| first
  | with_reducible refine vE_c ?_ | with_reducible refine vE_nope ?_ | with_reducible refine vE_var (by with_unfolding_all rfl) ?_ | with_reducible refine vE_bin ?_ | with_reducible refine vE_neg ?_ | with_reducible refine vE_cmp ?_ | with_reducible refine vE_not ?_ | with_reducible refine vE_and ?_ | with_reducible refine vE_or ?_ | with_reducible refine vE_ite ?_
  | with_reducible refine vE_tup ?_ | with_reducible refine vE_lst ?_ | with_reducible refine vE_nil ?_ | with_reducible refine vE_cons ?_ | with_reducible refine vE_idx ?_ | with_reducible refine vE_sli ?_ | with_reducible refine vE_mat ?_ | with_reducible refine vE_call ?_ | with_reducible refine vE_bi (by with_unfolding_all rfl) ?_ | with_reducible refine vE_mth ?_ | with_reducible refine vE_isi ?_
  | with_reducible refine vT_nope ?_ | with_reducible refine vT_var (by with_unfolding_all rfl) ?_ | with_reducible refine vT_cmp ?_ | with_reducible refine vT_not ?_ | with_reducible refine vT_and ?_ | with_reducible refine vT_or ?_ | with_reducible refine vT_call ?_ | with_reducible refine vT_bi (by with_unfolding_all rfl) ?_ | with_reducible refine vT_isi ?_ | with_reducible refine vT_idx ?_
  | with_reducible refine vI_seq ?_ | with_reducible refine vI_rng ?_
  | with_reducible refine vS_nil ?_ | with_reducible refine vS_skip ?_ | with_reducible refine vS_expr ?_ | with_reducible refine vS_asg ?_ | with_reducible refine vS_asgT ?_ | with_reducible refine vS_sub ?_ | with_reducible refine vS_ret ?_ | with_reducible refine vS_brk ?_ | with_reducible refine vS_cont ?_ | with_reducible refine vS_ife ?_ | with_reducible refine vS_for ?_
  | with_reducible refine vaft_nx ?_ | with_reducible refine vaft_rt ?_ | with_reducible refine vaft_bk ?_ | with_reducible refine vaft_ct ?_ | with_reducible refine vturn_nx ?_ | with_reducible refine vturn_ct ?_ | with_reducible refine vturn_bk ?_ | with_reducible refine vturn_rt ?_ | with_reducible refine vfin_rtQ ?_ | with_reducible refine vfin_nxQ ?_)
local macro_rules | `(tactic| array_get_dec) => `(tactic| repeat (first
  | with_reducible refine vE_c ?_ | with_reducible refine vE_nope ?_ | with_reducible refine vE_var (by with_unfolding_all rfl) ?_ | with_reducible refine vE_bin ?_ | with_reducible refine vE_neg ?_ | with_reducible refine vE_cmp ?_ | with_reducible refine vE_not ?_ | with_reducible refine vE_and ?_ | with_reducible refine vE_or ?_ | with_reducible refine vE_ite ?_
  | with_reducible refine vE_tup ?_ | with_reducible refine vE_lst ?_ | with_reducible refine vE_nil ?_ | with_reducible refine vE_cons ?_ | with_reducible refine vE_idx ?_ | with_reducible refine vE_sli ?_ | with_reducible refine vE_mat ?_ | with_reducible refine vE_call ?_ | with_reducible refine vE_bi (by with_unfolding_all rfl) ?_ | with_reducible refine vE_mth ?_ | with_reducible refine vE_isi ?_
  | with_reducible refine vT_nope ?_ | with_reducible refine vT_var (by with_unfolding_all rfl) ?_ | with_reducible refine vT_cmp ?_ | with_reducible refine vT_not ?_ | with_reducible refine vT_and ?_ | with_reducible refine vT_or ?_ | with_reducible refine vT_call ?_ | with_reducible refine vT_bi (by with_unfolding_all rfl) ?_ | with_reducible refine vT_isi ?_ | with_reducible refine vT_idx ?_
  | with_reducible refine vI_seq ?_ | with_reducible refine vI_rng ?_
  | with_reducible refine vS_nil ?_ | with_reducible refine vS_skip ?_ | with_reducible refine vS_expr ?_ | with_reducible refine vS_asg ?_ | with_reducible refine vS_asgT ?_ | with_reducible refine vS_sub ?_ | with_reducible refine vS_ret ?_ | with_reducible refine vS_brk ?_ | with_reducible refine vS_cont ?_ | with_reducible refine vS_ife ?_ | with_reducible refine vS_for ?_
  | with_reducible refine vaft_nx ?_ | with_reducible refine vaft_rt ?_ | with_reducible refine vaft_bk ?_ | with_reducible refine vaft_ct ?_ | with_reducible refine vturn_nx ?_ | with_reducible refine vturn_ct ?_ | with_reducible refine vturn_bk ?_ | with_reducible refine vturn_rt ?_ | with_reducible refine vfin_rtQ ?_ | with_reducible refine vfin_nxQ ?_))
variable {M : Mem} {X : Ex} {k : Nat}
theorem dms_val {n : Nat} {d : D} (h : dm n d = true) : D.vals [d] = true := by
  show (d.val && true) = true
  rw [dm_val h]
  rfl
theorem m_judge {n : Nat} {d : D} (h : dm n d = true) (hn : n ≤ 50) {Q : D → Mem → Prop} (hQ : Q (.bl (jClaim d)) M) : wR (inv (CC (k + 8)) "judge_claim" [d] M) Q X := by
  rw [CC_eq]
  exact wR.of (inv_val (ds := [d]) (dms_val h) (e_judge_claim (k := k) h hn) rfl) hQ
theorem m_is_claim {n : Nat} {d : D} (h : dm n d = true) (hn : n ≤ 50) {Q : D → Mem → Prop} (hQ : Q (.bl (lClaim d)) M) : wR (inv (CC (k + 5)) "_law_is_claim" [d] M) Q X := by
  rw [CC_eq]
  exact wR.of (inv_val (ds := [d]) (dms_val h) (l_claim (k := k) h hn) rfl) hQ
theorem m_good {n : Nat} {d : D} (h : dm n d = true) (hn : n ≤ 50) {Q : D → Mem → Prop} (hQ : Q (.bl true) M) : wR (inv (CC (k + 9)) "_law_good" [d] M) Q X := by
  have hv := dm_val h
  refine inv_vW (dms_val h) ?_
  refine C_w k75_l__law_good rfl ?_
  show wSs _ k75_b__law_good [some d] _ _
  unfold k75_b__law_good
  array_get_dec
  refine ⟨[d], frzs_vals (dms_val h), ?_⟩
  refine m_judge h hn ?_
  array_get_dec
  refine ⟨[d], frzs_vals (dms_val h), ?_⟩
  refine m_is_claim (k := k + 3) h hn ?_
  array_get_dec
  refine ⟨_, rfl, ?_⟩
  rw [← claim_same h]
  refine same_leaf (k := k + 7) (.inr (.inl ⟨_, rfl⟩)) ?_
  array_get_dec
  exact ⟨_, rfl, hQ⟩
theorem r_in {s : Str} {i : Int} {mk : List D} {a : D} (hs : s ∈ (["in", "out"] : List Str)) : jRest s i mk [a] = isEx i a := by
  simp only [List.mem_cons, List.not_mem_nil, or_false] at hs
  rcases hs with rfl | rfl <;> kernel_rfl
theorem r_tower {s : Str} {i : Int} {mk : List D} (hs : s ∈ (["tower", "stuck"] : List Str)) : jRest s i mk [] = true := by
  simp only [List.mem_cons, List.not_mem_nil, or_false] at hs
  rcases hs with rfl | rfl <;> kernel_rfl
theorem r_turned {s : Str} {i : Int} {mk : List D} {a b : D} (hs : s ∈ (["turned", "apart"] : List Str)) : jRest s i mk [a, b] = (isEx i a && isEx i b) := by
  simp only [List.mem_cons, List.not_mem_nil, or_false] at hs
  rcases hs with rfl | rfl <;> kernel_rfl
theorem r_led {s : Str} {i : Int} {mk : List D} {a b : D} (hs : s ∈ (["led", "unled"] : List Str)) : jRest s i mk [a, b] = (jThing i a && (jThing i b && sameK a b)) := by
  simp only [List.mem_cons, List.not_mem_nil, or_false] at hs
  rcases hs with rfl | rfl <;> kernel_rfl
theorem r_map {s : Str} {i j : Int} {mk : List D} {b : D} (hs : s ∈ (["map", "nomap"] : List Str)) : jRest s i mk [.int j, b] = (decide (1 ≤ j) && (decide (j ≤ 12) && (isExs j b && decide ((items b).length = mk.length)))) := by
  simp only [List.mem_cons, List.not_mem_nil, or_false] at hs
  rcases hs with rfl | rfl <;> kernel_rfl
theorem r_same {s : Str} {i : Int} {mk : List D} {a : D} (hs : s ∈ (["same", "unlike", "normal", "broken"] : List Str)) : jRest s i mk [a] = isMk i a := by
  simp only [List.mem_cons, List.not_mem_nil, or_false] at hs
  rcases hs with rfl | rfl | rfl | rfl <;> kernel_rfl
theorem r_order {i : Int} {mk : List D} {a : D} : jRest "order" i mk [a] = isWin a 0 999999999999 := by kernel_rfl
theorem r_col {i : Int} {mk : List D} {a b : D} : jRest "colourings" i mk [a, b] = (isWin a 1 9 && isWin b 0 999999999999) := by kernel_rfl
theorem x_ex {n : Int} {v : D} (hn : 0 ≤ n) (h : IsX n v) : isEx n v = true := by
  obtain ⟨ps, rfl, hp⟩ := h
  have hl := hp.length_eq
  rw [rangeI_len] at hl
  refine isEx_iff.mpr ⟨by rw [List.length_map]; omega, all_isInt ps, ?_⟩
  rw [toI_int]
  exact hp
theorem x_dq {n : Int} {v : D} (hn : 1 ≤ n ∧ n ≤ 12) (h : IsX n v) : dq 24 1000001 1 v = true := by
  obtain ⟨ps, rfl, hp⟩ := h
  have hl := hp.length_eq
  rw [rangeI_len] at hl
  refine dq_ints (fun x hx => ?_) (by omega)
  have := mem_rangeI.mp (hp.mem_iff.mp hx)
  omega
theorem xs_dq {n : Int} {vs : List D} (hn : 1 ≤ n ∧ n ≤ 12) (h : ∀ v ∈ vs, IsX n v) (hl : vs.length ≤ 24) : dq 24 1000001 2 (.tup vs) = true :=
  dq_tup.mpr ⟨fun d hd => x_dq hn (h d hd), hl⟩
theorem xs_ex {n : Int} {vs : List D} (hn : 0 ≤ n) (h : ∀ v ∈ vs, IsX n v) : vs.all (isEx n) = true := List.all_eq_true.mpr fun d hd => x_ex hn (h d hd)
structure PC (s : Str) (v : D) : Prop where
  ex : ∃ (n : Int) (mk rs : List D), v = .tup (.str s :: .int n :: .tup mk :: rs) ∧ (1 ≤ n ∧ n ≤ 12) ∧ rs.length ≤ 2 ∧ jClaim v = true ∧ dq 24 1000001 6 v = true ∧ (s ∈ (["map", "nomap"] : List Str) → ∃ (m : Int) (ims : List D), rs = [.int m, .tup ims] ∧ (1 ≤ m ∧ m ≤ 12) ∧ ims.length ≤ 4) ∧ (s ∈ (["led", "unled"] : List Str) → rs.length = 2)
theorem words_dq : ∀ s ∈ wordsC, dq 24 1000001 5 (.str s) = true := by
  have h : (wordsC.all fun s => dq 24 1000001 5 (.str s)) = true := by decide +kernel
  exact fun s hs => List.all_eq_true.mp h s hs
theorem pc_of {s : Str} {n : Int} {mk rs : List D} (hs : s ∈ wordsC) (hn : 1 ≤ n ∧ n ≤ 12) (hmk : ∀ v ∈ mk, IsX n v) (hl : mk.length ≤ 4) (hr : rs.length ≤ 2) (hj : jRest s n mk rs = true) (hd : ∀ d ∈ rs, dq 24 1000001 5 d = true)
    (hm : s ∈ (["map", "nomap"] : List Str) → ∃ (m : Int) (ims : List D), rs = [.int m, .tup ims] ∧ (1 ≤ m ∧ m ≤ 12) ∧ ims.length ≤ 4) (hled : s ∈ (["led", "unled"] : List Str) → rs.length = 2) : PC s (.tup (.str s :: .int n :: .tup mk :: rs)) := by
  refine ⟨n, mk, rs, rfl, hn, hr, ?_, ?_, hm, hled⟩
  · show (decide (s ∈ wordsC) && ((decide (1 ≤ n) && decide (n ≤ 12)) && ((mk.all (isEx n) && decide ((mk.length : Int) ≤ 24)) && jRest s n mk rs))) = true
    rw [decide_eq_true hs, decide_eq_true hn.1, decide_eq_true hn.2, xs_ex (by omega) hmk, decide_eq_true (by omega), hj]
    rfl
  · refine dq_tup.mpr ⟨fun d hd' => ?_, by simp only [List.length_cons]; omega⟩
    rcases List.mem_cons.mp hd' with rfl | hd'
    · exact words_dq s hs
    · rcases List.mem_cons.mp hd' with rfl | hd'
      · exact dq_int.mpr (by omega)
      · rcases List.mem_cons.mp hd' with rfl | hd'
        · exact dq_mono (Nat.le_refl _) (Nat.le_refl _) (by decide) (xs_dq hn hmk (by omega))
        · exact hd d hd'
theorem pc_val {s : Str} {v : D} (h : PC s v) : v.val = true := by
  obtain ⟨n, mk, rs, _, _, _, _, hd, _⟩ := h
  exact dq_val (by decide) (by decide) hd
theorem x_val {n : Int} {v : D} (h : IsX n v) : v.val = true := by
  obtain ⟨ps, rfl, _⟩ := h
  exact vals_ints ps
theorem xs_val {n : Int} {vs : List D} (h : ∀ v ∈ vs, IsX n v) : D.vals vs = true := by
  induction vs with
  | nil => rfl
  | cons a l ih =>
    show (a.val && D.vals l) = true
    rw [x_val (h a List.mem_cons_self), ih fun v hv => h v (List.mem_cons_of_mem _ hv)]
    rfl
theorem disj {s : Str} {l1 l2 : List Str} (h1 : s ∈ l1) (h2 : s ∈ l2) (hd : (l1.all fun a => decide (a ∉ l2)) = true) : False := of_decide_eq_true (List.all_eq_true.mp hd s h1) h2
theorem num_dq {a : Int} (ha : a ∈ ([0, 1, 24, 1000000, 70] : List Int)) : isWin (.int a) 0 999999999999 = true ∧ dq 24 1000001 5 (.int a) = true := by
  simp only [List.mem_cons, List.not_mem_nil, or_false] at ha
  rcases ha with rfl | rfl | rfl | rfl | rfl <;> decide +kernel
theorem m_plain_claim {s : Str} (hs : s ∈ wordsC) : SpD (CC (k + 4)) "_law_plain_claim" [.str s] (PC s) := by
  intro ns
  obtain ⟨_, hss, _⟩ := opp_same s hs
  refine C_w k75_l__law_plain_claim rfl ?_
  show wSs _ k75_b__law_plain_claim [some (.ref 0), some (.str s), none, none, none, none, none, none, none] _ _
  unfold k75_b__law_plain_claim
  array_get_dec
  refine ⟨_, rfl, ?_⟩
  refine inv_dr (m_take (by decide)) rfl rfl fun v ns1 hv => ?_
  obtain ⟨j, rfl, hj⟩ := hv
  refine ⟨_, rfl, ?_⟩
  refine ⟨_, rfl, ?_⟩
  have hn : 1 ≤ (1 : Int) + (j : Int) ∧ (1 : Int) + (j : Int) ≤ 12 := by omega
  generalize (1 : Int) + (j : Int) = n at hn
  clear hj
  array_get_dec
  refine comp_dr (P := IsX n) (Lp := fun l => l ≤ 4) (fun l h => by omega) ?_ ?_ ?_
  · array_get_dec
    refine ⟨_, rfl, ?_⟩
    refine inv_dr (m_take (by decide)) rfl rfl fun v ns2 hv => ?_
    obtain ⟨i, rfl, hi⟩ := hv
    refine ⟨0, _, rfl, rfl, rng_ok (by omega), fun _ => rfl, ?_, _, rfl⟩
    show (rangeL 0 ((i : Int) - 0).toNat).length ≤ 4
    rw [rangeL_len]
    omega
  · intro x ns2
    array_get_dec
    refine ⟨_, rfl, ?_⟩
    refine inv_dr (m_exchange (by omega)) rfl rfl fun v ns3 hv => ?_
    exact ⟨v, frz_val (x_val hv), hv, _, rfl⟩
  intro ns2 mk hlen hmk
  have hvmk := xs_val hmk
  array_get_dec
  refine ⟨_, rfl, ?_⟩
  refine ⟨_, rfl, ?_⟩
  array_get_dec
  refine ⟨_, rfl, ?_⟩
  refine inv_dr (m_exchange (by omega)) rfl rfl fun p ns3 hp => ?_
  refine ⟨p, frz_val (x_val hp), ?_⟩
  have hvp := x_val hp
  have fr : ∀ a : D, a.val = true → ∀ b : D, b.val = true → frzs [.str s, .int n, .tup mk, a, b] = some [.str s, .int n, .tup mk, a, b] := fun a ha b hb => frzs_vals (by
    show (D.vals mk && (a.val && (b.val && true))) = true
    rw [hvmk, ha, hb]
    rfl)
  have fr1 : ∀ a : D, a.val = true → frzs [.str s, .int n, .tup mk, a] = some [.str s, .int n, .tup mk, a] := fun a ha => frzs_vals (by
    show (D.vals mk && (a.val && true)) = true
    rw [hvmk, ha]
    rfl)
  have done : ∀ v Mx ns', PC s v → ∃ ns2 Mx2 v', Dr ns' :: Mx = Dr ns2 :: Mx2 ∧ outD 1 (Dr ns' :: Mx) v = some v' ∧ PC s v' := fun v Mx ns' h => ⟨ns', Mx, v, rfl, out_val (pc_val h), h⟩
  have mono5 : ∀ {m : Nat} {d : D}, m ≤ 5 → dq 24 1000001 m d = true → dq 24 1000001 5 d = true := fun h hd => dq_mono (Nat.le_refl _) (Nat.le_refl _) h hd
  array_get_dec
  refine ⟨_, rfl, Nat.le_of_ble_eq_true rfl, ?_⟩
  refine ⟨_, mwl ["in", "out"] hss, ?_⟩
  by_cases t1 : s ∈ (["in", "out"] : List Str)
  · rw [if_pos (decide_eq_true t1)]
    array_get_dec
    refine ⟨_, fr1 p hvp, Nat.le_of_ble_eq_true rfl, ?_⟩
    array_get_dec
    refine done _ _ _ (pc_of hs hn hmk hlen (Nat.le_succ 1) ?_ (fun d hd => ?_) (fun h => ?_) (fun h => ?_))
    · rw [r_in t1]
      exact x_ex (by omega) hp
    · rw [List.mem_singleton.mp hd]
      exact mono5 (by decide) (x_dq hn hp)
    · exact (disj t1 h (by decide +kernel)).elim
    · exact (disj t1 h (by decide +kernel)).elim
  · rw [if_neg fun z => t1 (of_decide_eq_true z)]
    array_get_dec
    refine ⟨_, rfl, Nat.le_of_ble_eq_true rfl, ?_⟩
    refine ⟨_, mwl ["tower", "stuck"] hss, ?_⟩
    by_cases t2 : s ∈ (["tower", "stuck"] : List Str)
    · rw [if_pos (decide_eq_true t2)]
      array_get_dec
      refine ⟨_, rfl, Nat.le_of_ble_eq_true rfl, ?_⟩
      array_get_dec
      refine done _ _ _ (pc_of hs hn hmk hlen (Nat.zero_le _) (r_tower t2) (fun d hd => (by cases hd)) (fun h => ?_) (fun h => ?_))
      · exact (disj t2 h (by decide +kernel)).elim
      · exact (disj t2 h (by decide +kernel)).elim
    · rw [if_neg fun z => t2 (of_decide_eq_true z)]
      array_get_dec
      refine ⟨_, eq_strC hss (sh "order"), ?_⟩
      by_cases t3 : s = "order"
      · rw [if_pos (decide_eq_true t3)]
        array_get_dec
        refine ⟨_, rfl, Nat.le_of_ble_eq_true rfl, ?_⟩
        array_get_dec
        refine ⟨_, rfl, ?_⟩
        refine inv_dr (m_pick (ds := ([0, 1, 24, 1000000] : List Int).map .int) (by decide +kernel) (by decide) (by decide)) (by decide +kernel) rfl fun v ns' hv => ?_
        obtain ⟨c, hc, rfl⟩ := List.mem_map.mp hv
        have hc2 := num_dq (a := c) (by simp only [List.mem_cons, List.not_mem_nil, or_false] at hc ⊢; omega)
        array_get_dec
        refine ⟨_, fr1 (.int c) rfl, Nat.le_of_ble_eq_true rfl, ?_⟩
        array_get_dec
        subst t3
        refine done _ _ _ (pc_of hs hn hmk hlen (Nat.le_succ 1) (r_order.trans hc2.1) (fun d hd => ?_) (fun h => ?_) (fun h => ?_))
        · rw [List.mem_singleton.mp hd]
          exact hc2.2
        · exact absurd h (by decide +kernel)
        · exact absurd h (by decide +kernel)
      · rw [if_neg fun z => t3 (of_decide_eq_true z)]
        array_get_dec
        refine ⟨_, rfl, Nat.le_of_ble_eq_true rfl, ?_⟩
        refine ⟨_, mwl ["turned", "apart"] hss, ?_⟩
        by_cases t4 : s ∈ (["turned", "apart"] : List Str)
        · rw [if_pos (decide_eq_true t4)]
          array_get_dec
          refine ⟨_, rfl, ?_⟩
          refine inv_dr (m_exchange (by omega)) rfl rfl fun q ns4 hq => ?_
          have hvq := x_val hq
          array_get_dec
          refine ⟨_, fr p hvp q hvq, Nat.le_of_ble_eq_true rfl, ?_⟩
          array_get_dec
          refine done _ _ _ (pc_of hs hn hmk hlen (Nat.le_refl 2) ?_ (fun d hd => ?_) (fun h => ?_) (fun h => ?_))
          · rw [r_turned t4, x_ex (by omega) hp, x_ex (by omega) hq]
            rfl
          · rcases List.mem_cons.mp hd with rfl | hd
            · exact mono5 (by decide) (x_dq hn hp)
            · rw [List.mem_singleton.mp hd]
              exact mono5 (by decide) (x_dq hn hq)
          · exact (disj t4 h (by decide +kernel)).elim
          · exact (disj t4 h (by decide +kernel)).elim
        · rw [if_neg fun z => t4 (of_decide_eq_true z)]
          array_get_dec
          refine ⟨_, rfl, Nat.le_of_ble_eq_true rfl, ?_⟩
          refine ⟨_, mwl ["led", "unled"] hss, ?_⟩
          by_cases t5 : s ∈ (["led", "unled"] : List Str)
          · rw [if_pos (decide_eq_true t5)]
            array_get_dec
            refine ⟨_, rfl, ?_⟩
            refine inv_dr (m_any_thing hn) rfl rfl fun t ns4 ht => ?_
            have hvt := th_val hn ht
            refine ⟨t, frz_val hvt, ?_⟩
            array_get_dec
            have hpt : D.vals [p, t] = true := by
              show (p.val && (t.val && true)) = true
              rw [hvp, hvt]
              rfl
            refine ⟨[p, t], frzs_vals hpt, ?_⟩
            obtain ⟨s1, array_mem_dec', rfl⟩ := jThing_ok ht
            obtain ⟨ps, rfl, hps⟩ := hp
            refine m_thing_led (k := k + 2) hn hps ht fun w2 ht2 => ?_
            have hvt2 := th_val hn ht2
            array_get_dec
            refine ⟨_, fr _ hvt _ hvt2, Nat.le_of_ble_eq_true rfl, ?_⟩
            array_get_dec
            refine done _ _ _ (pc_of hs hn hmk hlen (Nat.le_refl 2) ?_ (fun d hd => ?_) (fun h => ?_) (fun h => rfl))
            · rw [r_led t5]
              have e1 : jThing n (.tup [.str s1, array_mem_dec']) = true := ht
              have e2 : jThing n (.tup [.str s1, w2]) = true := ht2
              rw [e1, e2]
              show PyData.eqv (.str s1) (.str s1) = true
              simp [PyData.eqv]
            · rcases List.mem_cons.mp hd with rfl | hd
              · exact mono5 (by decide) (thing_dq hn ht)
              · rw [List.mem_singleton.mp hd]
                exact mono5 (by decide) (thing_dq hn ht2)
            · exact (disj t5 h (by decide +kernel)).elim
          · rw [if_neg fun z => t5 (of_decide_eq_true z)]
            array_get_dec
            refine ⟨_, rfl, Nat.le_of_ble_eq_true rfl, ?_⟩
            refine ⟨_, mwl ["map", "nomap"] hss, ?_⟩
            by_cases t6 : s ∈ (["map", "nomap"] : List Str)
            · rw [if_pos (decide_eq_true t6)]
              array_get_dec
              refine ⟨_, rfl, ?_⟩
              refine inv_dr (m_take (by decide)) rfl rfl fun v ns4 hv => ?_
              obtain ⟨j, rfl, hj⟩ := hv
              refine ⟨_, rfl, ?_⟩
              refine ⟨_, rfl, ?_⟩
              have hm : 1 ≤ (1 : Int) + (j : Int) ∧ (1 : Int) + (j : Int) ≤ 12 := by omega
              generalize (1 : Int) + (j : Int) = m at hm
              clear hj
              array_get_dec
              refine comp_dr (P := IsX m) (Lp := fun l => l = mk.length) (fun l h => by omega) ?_ ?_ ?_
              · array_get_dec
                exact ⟨mk, rfl, fun _ => rfl, rfl, _, rfl⟩
              · intro x ns5
                array_get_dec
                refine ⟨_, rfl, ?_⟩
                refine inv_dr (m_exchange (by omega)) rfl rfl fun v ns6 hv => ?_
                exact ⟨v, frz_val (x_val hv), hv, _, rfl⟩
              intro ns5 ims hli himp
              have hvims := xs_val himp
              array_get_dec
              refine ⟨_, rfl, ?_⟩
              array_get_dec
              refine ⟨_, fr (.int m) rfl (.tup ims) hvims, Nat.le_of_ble_eq_true rfl, ?_⟩
              array_get_dec
              refine done _ _ _ (pc_of hs hn hmk hlen (Nat.le_refl 2) ?_ (fun d hd => ?_) (fun h => ⟨m, ims, rfl, hm, by omega⟩) (fun h => rfl))
              · rw [r_map t6, decide_eq_true hm.1, decide_eq_true hm.2]
                show (ims.all (isEx m) && decide (ims.length = mk.length)) = true
                rw [xs_ex (by omega) himp, decide_eq_true hli]
                rfl
              · rcases List.mem_cons.mp hd with rfl | hd
                · exact dq_int.mpr (by omega)
                · rw [List.mem_singleton.mp hd]
                  exact mono5 (by decide) (xs_dq hm himp (by omega))
            · rw [if_neg fun z => t6 (of_decide_eq_true z)]
              array_get_dec
              refine ⟨_, eq_strC hss (sh "colourings"), ?_⟩
              by_cases t7 : s = "colourings"
              · rw [if_pos (decide_eq_true t7)]
                array_get_dec
                refine ⟨_, rfl, ?_⟩
                refine inv_dr (m_take (by decide)) rfl rfl fun v ns4 hv => ?_
                obtain ⟨j, rfl, hj⟩ := hv
                refine ⟨_, rfl, ?_⟩
                array_get_dec
                refine ⟨_, rfl, Nat.le_of_ble_eq_true rfl, ?_⟩
                array_get_dec
                refine ⟨_, rfl, ?_⟩
                refine inv_dr (m_pick (ds := ([0, 1, 70, 1000000] : List Int).map .int) (by decide +kernel) (by decide) (by decide)) (by decide +kernel) rfl fun v ns' hv => ?_
                obtain ⟨c, hc, rfl⟩ := List.mem_map.mp hv
                have hc2 := num_dq (a := c) (by simp only [List.mem_cons, List.not_mem_nil, or_false] at hc ⊢; omega)
                array_get_dec
                refine ⟨_, fr (.int (1 + (j : Int))) rfl (.int c) rfl, Nat.le_of_ble_eq_true rfl, ?_⟩
                array_get_dec
                subst t7
                refine done _ _ _ (pc_of hs hn hmk hlen (Nat.le_refl 2) ?_ (fun d hd => ?_) (fun h => ?_) (fun h => ?_))
                · rw [r_col, hc2.1, Bool.and_true]
                  show (decide ((1 : Int) ≤ 1 + (j : Int)) && decide (1 + (j : Int) ≤ 9)) = true
                  rw [decide_eq_true (by omega), decide_eq_true (by omega)]
                  rfl
                · rcases List.mem_cons.mp hd with rfl | hd
                  · exact dq_int.mpr (by omega)
                  · rw [List.mem_singleton.mp hd]
                    exact hc2.2
                · exact absurd h (by decide +kernel)
                · exact absurd h (by decide +kernel)
              · rw [if_neg fun z => t7 (of_decide_eq_true z)]
                have t8 : s ∈ (["same", "unlike", "normal", "broken"] : List Str) := by
                  unfold wordsC at hs
                  simp only [List.mem_cons, List.not_mem_nil, or_false, not_or] at t1 t2 t4 t5 t6 hs ⊢
                  rcases hs with h | h | h | h | h | h | h | h | h | h | h | h | h | h | h | h
                  · exact absurd h t1.1
                  · exact absurd h t1.2
                  · exact .inl h
                  · exact .inr (.inl h)
                  · exact absurd h t3
                  · exact .inr (.inr (.inl h))
                  · exact .inr (.inr (.inr h))
                  · exact absurd h t2.1
                  · exact absurd h t2.2
                  · exact absurd h t4.1
                  · exact absurd h t4.2
                  · exact absurd h t5.1
                  · exact absurd h t5.2
                  · exact absurd h t6.1
                  · exact absurd h t6.2
                  · exact absurd h t7
                array_get_dec
                refine comp_dr (P := IsX n) (Lp := fun l => l ≤ 4) (fun l h => by omega) ?_ ?_ ?_
                · array_get_dec
                  refine ⟨_, rfl, ?_⟩
                  refine inv_dr (m_take (by decide)) rfl rfl fun v ns2 hv => ?_
                  obtain ⟨i, rfl, hi⟩ := hv
                  refine ⟨0, _, rfl, rfl, rng_ok (by omega), fun _ => rfl, ?_, _, rfl⟩
                  show (rangeL 0 ((i : Int) - 0).toNat).length ≤ 4
                  rw [rangeL_len]
                  omega
                · intro x ns2
                  array_get_dec
                  refine ⟨_, rfl, ?_⟩
                  refine inv_dr (m_exchange (by omega)) rfl rfl fun v ns3 hv => ?_
                  exact ⟨v, frz_val (x_val hv), hv, _, rfl⟩
                intro ns5 ims hli himp
                have hvims := xs_val himp
                array_get_dec
                refine ⟨_, rfl, ?_⟩
                array_get_dec
                refine ⟨_, fr1 (.tup ims) hvims, Nat.le_of_ble_eq_true rfl, ?_⟩
                array_get_dec
                refine done _ _ _ (pc_of hs hn hmk hlen (Nat.le_succ 1) ?_ (fun d hd => ?_) (fun h => ?_) (fun h => ?_))
                · rw [r_same t8]
                  show (ims.all (isEx n) && decide ((ims.length : Int) ≤ 24)) = true
                  rw [xs_ex (by omega) himp, decide_eq_true (by omega)]
                  rfl
                · rw [List.mem_singleton.mp hd]
                  exact mono5 (by decide) (xs_dq hn himp (by omega))
                · exact (disj t8 h (by decide +kernel)).elim
                · exact (disj t8 h (by decide +kernel)).elim
end Z
end
section
set_option Elab.async false
set_option linter.all false
set_option maxRecDepth 100000
set_option maxHeartbeats 1000000
set_option autoImplicit false
/-! The law's makers: a claim bent. -/
namespace Z
open PySem
local macro_rules | `(tactic| array_mem_dec) => `(tactic| first
  | with_reducible refine vE_c ?_ | with_reducible refine vE_nope ?_ | with_reducible refine vE_var (by with_unfolding_all rfl) ?_ | with_reducible refine vE_bin ?_ | with_reducible refine vE_neg ?_ | with_reducible refine vE_cmp ?_ | with_reducible refine vE_not ?_ | with_reducible refine vE_and ?_ | with_reducible refine vE_or ?_ | with_reducible refine vE_ite ?_
  | with_reducible refine vE_tup ?_ | with_reducible refine vE_lst ?_ | with_reducible refine vE_nil ?_ | with_reducible refine vE_cons ?_ | with_reducible refine vE_idx ?_ | with_reducible refine vE_sli ?_ | with_reducible refine vE_mat ?_ | with_reducible refine vE_call ?_ | with_reducible refine vE_bi (by with_unfolding_all rfl) ?_ | with_reducible refine vE_mth ?_ | with_reducible refine vE_isi ?_
  | with_reducible refine vT_nope ?_ | with_reducible refine vT_var (by with_unfolding_all rfl) ?_ | with_reducible refine vT_cmp ?_ | with_reducible refine vT_not ?_ | with_reducible refine vT_and ?_ | with_reducible refine vT_or ?_ | with_reducible refine vT_call ?_ | with_reducible refine vT_bi (by with_unfolding_all rfl) ?_ | with_reducible refine vT_isi ?_ | with_reducible refine vT_idx ?_
  | with_reducible refine vI_seq ?_ | with_reducible refine vI_rng ?_
  | with_reducible refine vS_nil ?_ | with_reducible refine vS_skip ?_ | with_reducible refine vS_expr ?_ | with_reducible refine vS_asg ?_ | with_reducible refine vS_asgT ?_ | with_reducible refine vS_sub ?_ | with_reducible refine vS_ret ?_ | with_reducible refine vS_brk ?_ | with_reducible refine vS_cont ?_ | with_reducible refine vS_ife ?_ | with_reducible refine vS_for ?_
  | with_reducible refine vaft_nx ?_ | with_reducible refine vaft_rt ?_ | with_reducible refine vaft_bk ?_ | with_reducible refine vaft_ct ?_ | with_reducible refine vturn_nx ?_ | with_reducible refine vturn_ct ?_ | with_reducible refine vturn_bk ?_ | with_reducible refine vturn_rt ?_ | with_reducible refine vfin_rtQ ?_ | with_reducible refine vfin_nxQ ?_)
local macro_rules | `(tactic| array_get_dec) => `(tactic| repeat (first
  | with_reducible refine vE_c ?_ | with_reducible refine vE_nope ?_ | with_reducible refine vE_var (by with_unfolding_all rfl) ?_ | with_reducible refine vE_bin ?_ | with_reducible refine vE_neg ?_ | with_reducible refine vE_cmp ?_ | with_reducible refine vE_not ?_ | with_reducible refine vE_and ?_ | with_reducible refine vE_or ?_ | with_reducible refine vE_ite ?_
  | with_reducible refine vE_tup ?_ | with_reducible refine vE_lst ?_ | with_reducible refine vE_nil ?_ | with_reducible refine vE_cons ?_ | with_reducible refine vE_idx ?_ | with_reducible refine vE_sli ?_ | with_reducible refine vE_mat ?_ | with_reducible refine vE_call ?_ | with_reducible refine vE_bi (by with_unfolding_all rfl) ?_ | with_reducible refine vE_mth ?_ | with_reducible refine vE_isi ?_
  | with_reducible refine vT_nope ?_ | with_reducible refine vT_var (by with_unfolding_all rfl) ?_ | with_reducible refine vT_cmp ?_ | with_reducible refine vT_not ?_ | with_reducible refine vT_and ?_ | with_reducible refine vT_or ?_ | with_reducible refine vT_call ?_ | with_reducible refine vT_bi (by with_unfolding_all rfl) ?_ | with_reducible refine vT_isi ?_ | with_reducible refine vT_idx ?_
  | with_reducible refine vI_seq ?_ | with_reducible refine vI_rng ?_
  | with_reducible refine vS_nil ?_ | with_reducible refine vS_skip ?_ | with_reducible refine vS_expr ?_ | with_reducible refine vS_asg ?_ | with_reducible refine vS_asgT ?_ | with_reducible refine vS_sub ?_ | with_reducible refine vS_ret ?_ | with_reducible refine vS_brk ?_ | with_reducible refine vS_cont ?_ | with_reducible refine vS_ife ?_ | with_reducible refine vS_for ?_
  | with_reducible refine vaft_nx ?_ | with_reducible refine vaft_rt ?_ | with_reducible refine vaft_bk ?_ | with_reducible refine vaft_ct ?_ | with_reducible refine vturn_nx ?_ | with_reducible refine vturn_ct ?_ | with_reducible refine vturn_bk ?_ | with_reducible refine vturn_rt ?_ | with_reducible refine vfin_rtQ ?_ | with_reducible refine vfin_nxQ ?_))
variable {M : Mem} {X : Ex} {k : Nat}
theorem cut_fr {l : List D} {j : Nat} (h : j ≤ l.length) : cutD l (some (j : Int)) none = l.drop j := cut_from h
theorem cut_mid {l : List D} {i j : Nat} (h : i ≤ l.length) (hj : j ≤ l.length) : cutD l (some (i : Int)) (some (j : Int)) = (l.drop i).take (j - i) := by
  unfold cutD
  rw [HT.sIx_nat, HT.sIx_nat, Nat.min_eq_left h, Nat.min_eq_left hj]
theorem cut_frm {l : List D} {j : Nat} : cutD l (some (j : Int)) none = l.drop j := by
  rcases Nat.le_total j l.length with h | h
  · exact cut_from h
  · unfold cutD
    rw [HT.sIx_nat, HT.sIx_none, Nat.min_eq_right h, List.drop_length, List.drop_eq_nil_of_le h, List.take_nil]
/-- what is bent -/
abbrev bq (n : Nat) (d : D) : Prop := dq 26 1000003 n d = true
theorem bq_val {n : Nat} {d : D} (h : bq n d) : d.val = true := dq_val (by decide) (by decide) h
/-- a row and a place in it -/
def rowK (p : List D × Nat) : D := .tup [.tup p.1, .int (p.2 : Int)]
theorem rows_val {n : Nat} {rows : List (List D × Nat)} (h : ∀ p ∈ rows, p.2 < p.1.length ∧ bq n (.tup p.1)) : D.vals (rows.map rowK) = true := by
  induction rows with
  | nil => rfl
  | cons a l ih =>
    have ha := bq_val (h a List.mem_cons_self).2
    show ((rowK a).val && D.vals (l.map rowK)) = true
    rw [ih fun p hp => h p (List.mem_cons_of_mem _ hp)]
    show ((D.tup a.1).val && true && true) = true
    rw [ha]
    rfl
def bentBackB : Ss := (.cons (.asg (.tup [8, 5]) (.mth .pop (.var 3) .nil)) (.cons (.asg (.name 4) (.bin .add (.bin .add (.sli (.var 8) .nope (.var 5)) (.tup (.cons (.var 4) .nil))) (.sli (.var 8) (.bin .add (.var 5) (.c (.int (1)))) .nope))) .nil))
def bentBack : Ss := (.cons (.for_ [2] (.rng (.c (.int (0))) (.bi .len (.cons (.var 3) .nil))) bentBackB) (.cons (.ret (.var 4)) .nil))
def bentPick : S := (.ife (.isi (.var 4) [.str]) (.cons (.asg (.name 4) (.call "_law_pick" (.cons (.var 0) (.cons (.lst (.cons (.c (.str "left")) (.cons (.c (.str "right")) (.cons (.c (.str "kept")) (.cons (.c (.str "moved")) (.cons (.c (.str "map")) (.cons (.c (.str "wrong")) (.cons (.c (.str "down")) (.cons (.c (.str "stays")) (.cons (.c (.str "set")) (.cons (.c (.str "x")) .nil))))))))))) .nil)))) .nil) (.cons (.ife (.isi (.var 4) [.tuple]) (.cons (.asg (.name 6) (.call "_law_take" (.cons (.var 0) (.cons (.c (.int (4))) .nil)))) (.cons (.asg (.name 7) (.call "_law_take" (.cons (.var 0) (.cons (.bi .max (.cons (.c (.int (1))) (.cons (.bi .len (.cons (.var 4) .nil)) .nil))) .nil)))) (.cons (.ife (.cmp .eq (.var 6) (.c (.int (0)))) (.cons (.asg (.name 4) (.bin .add (.sli (.var 4) .nope (.var 7)) (.sli (.var 4) (.bin .add (.var 7) (.c (.int (1)))) .nope))) .nil) (.cons (.ife (.cmp .eq (.var 6) (.c (.int (1)))) (.cons (.asg (.name 4) (.bin .add (.bin .add (.sli (.var 4) .nope (.var 7)) (.sli (.var 4) (.var 7) (.bin .add (.var 7) (.c (.int (1)))))) (.sli (.var 4) (.var 7) .nope))) .nil) (.cons (.ife (.cmp .eq (.var 6) (.c (.int (2)))) (.cons (.asg (.name 4) (.bin .add (.sli (.var 4) (.var 7) .nope) (.sli (.var 4) .nope (.var 7)))) .nil) (.cons (.asg (.name 4) (.bin .add (.var 4) (.tup (.cons (.call "_law_pick" (.cons (.var 0) (.cons (.lst (.cons (.c (.int (0))) (.cons (.tup .nil) (.cons (.tup (.cons (.c (.int (0))) .nil)) (.cons (.c (.str "a")) .nil))))) .nil))) .nil)))) .nil)) .nil)) .nil)) .nil))) (.cons (.asg (.name 4) (.call "_law_pick" (.cons (.var 0) (.cons (.lst (.cons (.bin .add (.var 4) (.c (.int (1)))) (.cons (.bin .sub (.var 4) (.c (.int (1)))) (.cons (.bin .add (.var 4) (.c (.int (1)))) (.cons (.bin .sub (.var 4) (.c (.int (1)))) (.cons (.c (.int (0))) (.cons (.neg (.c (.int (1)))) (.cons (.tup (.cons (.var 4) .nil)) (.cons (.c (.str "a")) .nil))))))))) .nil)))) .nil)) .nil))
def bentDown : Ss := (.cons (.ife (.or (.not (.isi (.var 4) [.tuple])) (.or (.cmp .eq (.bi .len (.cons (.var 4) .nil)) (.c (.int (0)))) (.and (.cmp .gt (.var 2) (.c (.int (0)))) (.cmp .eq (.call "_law_take" (.cons (.var 0) (.cons (.c (.int (5))) .nil))) (.c (.int (0))))))) (.cons .brk .nil) .nil) (.cons (.asg (.name 5) (.call "_law_take" (.cons (.var 0) (.cons (.bi .len (.cons (.var 4) .nil)) .nil)))) (.cons (.expr (.mth .append (.var 3) (.cons (.tup (.cons (.var 4) (.cons (.var 5) .nil))) .nil))) (.cons (.asg (.name 4) (.idx (.var 4) (.var 5))) .nil))))
theorem bent_split : k75_b__law_bent = .cons (.asg (.tup [3, 4]) (.tup (.cons (.mat (.lst .nil)) (.cons (.var 1) .nil)))) (.cons (.for_ [2] (.rng (.c (.int (0))) (.c (.int (9)))) bentDown) (.cons bentPick bentBack)) := rfl
/-- the rows are put back -/
theorem m_bentBack {F : Fn} {ns : List Int} {rows : List (List D × Nat)} {d here : D} {z2 z5 z6 z7 z8 : Option D} (hl : rows.length ≤ 9) (hr : ∀ p ∈ rows, p.2 < p.1.length ∧ dq 24 1000001 6 (.tup p.1) = true) (hh : bq 8 here) {Q : Fl → Prop} (hQ : ∀ v Mt, bq 20 v → Q (.rt v (Dr ns :: Mt))) :
    wSs ⟨F, true⟩ bentBack [some (.ref 0), some d, z2, some (.ref 1), some here, z5, z6, z7, z8] [Dr ns, .lst (rows.map rowK)] Q := by
  unfold bentBack
  array_get_dec
  refine ⟨.int (rows.length : Int), by rw [len_ref rfl, List.length_map], ?_⟩
  refine ⟨0, _, rfl, rfl, rng_ok (by omega), ?_⟩
  refine ⟨fun l env M => ∃ (rs : List (List D × Nat)) (h : D) (z2 z5 z8 : Option D), env = [some (.ref 0), some d, z2, some (.ref 1), some h, z5, z6, z7, z8] ∧ M = [Dr ns, .lst (rs.map rowK)] ∧ rs.length = l.length ∧ rs.length ≤ 9 ∧ (∀ p ∈ rs, p.2 < p.1.length ∧ dq 24 1000001 6 (.tup p.1) = true) ∧ bq (17 - rs.length) h, fun _ _ _ _ => rfl, ⟨rows, here, _, _, _, rfl, rfl, ?_, hl, hr, dq_mono (Nat.le_refl _) (Nat.le_refl _) (by omega) hh⟩, ?_, ?_⟩
  · rw [rangeL_len]
    omega
  · rintro x l env M ⟨rs, h, z2, z5, z8, rfl, rfl, hrl, h9, hrs, hbh⟩
    rcases List.eq_nil_or_concat rs with rfl | ⟨rs', p, rfl⟩
    · cases hrl
    · rw [List.concat_eq_append] at *
      have hp := hrs p (by simp)
      obtain ⟨row, i⟩ := p
      have hi : i < row.length := hp.1
      have hq := dq_tup.mp hp.2
      have hq2 : row.length ≤ 24 := hq.2
      refine ⟨_, rfl, ?_⟩
      unfold bentBackB
      array_get_dec
      refine ⟨rfl, ?_⟩
      array_get_dec
      refine ⟨_, rfl, rfl, rowK (row, i), _, pop_last (r := 1) (es := rs'.map rowK) (x := rowK (row, i)) (by rw [List.map_append]; rfl), ?_⟩
      refine ⟨_, rfl, _, rfl, ?_⟩
      array_get_dec
      refine ⟨none, rfl, ?_⟩
      array_get_dec
      refine ⟨some (i : Int), rfl, _, rfl, ?_⟩
      rw [cut_to]
      array_get_dec
      have hvh := bq_val hbh
      refine ⟨[h], frzs_vals (by show (h.val && true) = true; rw [hvh]; rfl), Nat.le_of_ble_eq_true rfl, ?_⟩
      refine ⟨_, add_tt (by rw [List.length_take]; simp only [List.length_cons, List.length_nil]; omega), ?_⟩
      array_get_dec
      refine ⟨_, rfl, ?_⟩
      refine ⟨some ((i + 1 : Nat) : Int), rfl, ?_⟩
      array_get_dec
      refine ⟨none, rfl, _, rfl, ?_⟩
      rw [cut_frm]
      have hl3 : (row.take i ++ [h] ++ row.drop (i + 1)).length = row.length := by
        simp only [List.length_append, List.length_take, List.length_drop, List.length_cons, List.length_nil]
        omega
      refine ⟨_, add_tt (by rw [← List.length_append, hl3]; omega), ?_⟩
      refine ⟨_, rfl, ?_⟩
      array_get_dec
      rw [List.length_append, List.length_cons, List.length_nil] at hrl h9 hbh
      rw [List.length_cons] at hrl
      refine ⟨rs', _, _, _, _, rfl, rfl, by omega, by omega, fun p hp => hrs p (List.mem_append_left _ hp), ?_⟩
      obtain ⟨m, hm⟩ : ∃ m, 17 - rs'.length = m + 1 := ⟨16 - rs'.length, by omega⟩
      rw [hm]
      refine dq_tup.mpr ⟨fun y hy => ?_, by rw [hl3]; omega⟩
      rcases List.mem_append.mp hy with hy | hy
      · rcases List.mem_append.mp hy with hy | hy
        · exact dq_mono (by decide) (by decide) (by omega) (hq.1 y (List.mem_of_mem_take hy))
        · rw [List.mem_singleton.mp hy]
          exact dq_mono (Nat.le_refl _) (Nat.le_refl _) (by omega) hbh
      · exact dq_mono (by decide) (by decide) (by omega) (hq.1 y (List.mem_of_mem_drop hy))
  · rintro env M ⟨rs, h, z2, z5, z8, rfl, rfl, hrl, h9, hrs, hbh⟩
    array_get_dec
    exact hQ _ _ (dq_mono (Nat.le_refl _) (Nat.le_refl _) (by omega) hbh)
/-- one part is changed -/
theorem m_bentPick {F : Nat → Fn} {ns : List Int} {rows : List (List D × Nat)} {d here : D} {z2 z5 : Option D} (hh : dq 24 1000001 6 here = true) (hl : rows.length ≤ 9) (hr : ∀ p ∈ rows, p.2 < p.1.length ∧ dq 24 1000001 6 (.tup p.1) = true) {Q : Fl → Prop} (hQ : ∀ v Mt ns', bq 20 v → Q (.rt v (Dr ns' :: Mt))) :
    wSs ⟨CC (k + 2), true⟩ (.cons bentPick bentBack) [some (.ref 0), some d, z2, some (.ref 1), some here, z5, none, none, none] [Dr ns, .lst (rows.map rowK)] Q := by
  have rest : ∀ (ns' : List Int) (h : D) (z6 z7 : Option D), bq 8 h → wSs ⟨CC (k + 2), true⟩ bentBack [some (.ref 0), some d, z2, some (.ref 1), some h, z5, z6, z7, none] [Dr ns', .lst (rows.map rowK)] Q := fun ns' h z6 z7 hb => m_bentBack hl hr hb fun v Mt hv => hQ v Mt ns' hv
  have hvh := dq_val (by decide) (by decide) hh
  unfold bentPick
  rcases dq_cases hh with ⟨i, rfl⟩ | ⟨s, rfl⟩ | ⟨ds, m, rfl, em⟩
  · have hi := dq_int.mp hh
    array_get_dec
    refine ⟨_, rfl, ?_⟩
    rw [if_neg (by decide)]
    array_get_dec
    refine ⟨_, rfl, ?_⟩
    rw [if_neg (by decide)]
    array_get_dec
    refine ⟨_, rfl, ?_⟩
    array_get_dec
    refine ⟨_, rfl, ?_⟩
    array_get_dec
    refine ⟨_, rfl, ?_⟩
    array_get_dec
    refine ⟨_, rfl, ?_⟩
    array_get_dec
    refine ⟨_, rfl, ?_⟩
    array_get_dec
    refine ⟨_, rfl, Nat.le_of_ble_eq_true rfl, ?_⟩
    array_get_dec
    refine ⟨_, rfl, Nat.le_of_ble_eq_true rfl, ?_⟩
    array_get_dec
    refine ⟨_, rfl, ?_⟩
    refine inv_dr (m_pick (k := k) (ds := [.int (i + 1), .int (i - 1), .int (i + 1), .int (i - 1), .int 0, .int (-1), .tup [.int i], .str "a"]) rfl (by simp) (by show 8 < 100000000; decide)) rfl rfl fun v ns' hv => ?_
    have hb : bq 8 v := by
      simp only [List.mem_cons, List.not_mem_nil, or_false] at hv
      rcases hv with rfl | rfl | rfl | rfl | rfl | rfl | rfl | rfl
      · exact dq_int.mpr (by omega)
      · exact dq_int.mpr (by omega)
      · exact dq_int.mpr (by omega)
      · exact dq_int.mpr (by omega)
      · exact dq_int.mpr (by decide)
      · exact dq_int.mpr (by decide)
      · exact dq_tup.mpr ⟨fun y hy => by
          rw [List.mem_singleton.mp hy]
          exact dq_int.mpr (by omega), Nat.le_of_ble_eq_true rfl⟩
      · decide +kernel
    refine ⟨v, frz_val (bq_val hb), ?_⟩
    array_get_dec
    exact rest _ _ _ _ hb
  · array_get_dec
    refine ⟨_, rfl, ?_⟩
    rw [if_pos (by decide)]
    array_get_dec
    refine ⟨_, rfl, Nat.le_of_ble_eq_true rfl, ?_⟩
    array_get_dec
    refine ⟨_, rfl, ?_⟩
    refine inv_dr (m_pick (k := k) (ds := (["left", "right", "kept", "moved", "map", "wrong", "down", "stays", "set", "x"] : List Str).map .str) (by decide +kernel) (by decide) (by decide)) (by decide +kernel) rfl fun v ns' hv => ?_
    have hb : bq 8 v := by
      have h : ((["left", "right", "kept", "moved", "map", "wrong", "down", "stays", "set", "x"] : List Str).all fun s => dq 26 1000003 8 (.str s)) = true := by decide +kernel
      obtain ⟨t, ht, rfl⟩ := List.mem_map.mp hv
      exact List.all_eq_true.mp h t ht
    refine ⟨v, frz_val (bq_val hb), ?_⟩
    array_get_dec
    exact rest _ _ _ _ hb
  · have em : m = 5 := by omega
    subst em
    have hq := dq_tup.mp hh
    have up : ∀ l : List D, (∀ y ∈ l, dq 24 1000001 5 y = true ∨ bq 7 y) → l.length ≤ 26 → bq 8 (.tup l) := fun l h1 h2 => dq_tup.mpr ⟨fun y hy => by
      rcases h1 y hy with h | h
      · exact dq_mono (by decide) (by decide) (by decide) h
      · exact h, h2⟩
    array_get_dec
    refine ⟨_, rfl, ?_⟩
    rw [if_neg (by decide)]
    array_get_dec
    refine ⟨_, rfl, ?_⟩
    rw [if_pos (by decide)]
    array_get_dec
    refine ⟨_, rfl, ?_⟩
    refine inv_dr (m_take (k := k + 1) (by decide)) rfl rfl fun v ns1 hv => ?_
    obtain ⟨q, rfl, hq4⟩ := hv
    refine ⟨_, rfl, ?_⟩
    array_get_dec
    refine ⟨_, rfl, ?_⟩
    array_get_dec
    refine ⟨.int (if (ds.length : Int) > 1 then (ds.length : Int) else 1), rfl, ?_⟩
    array_get_dec
    refine ⟨_, rfl, ?_⟩
    refine inv_dr (m_take (k := k + 1) (by split <;> omega)) rfl rfl fun v ns2 hv => ?_
    obtain ⟨j, rfl, hj⟩ := hv
    refine ⟨_, rfl, ?_⟩
    array_get_dec
    refine ⟨_, eq_intC _ _, ?_⟩
    have e1 : ((j : Int) + 1) = ((j + 1 : Nat) : Int) := rfl
    split
    · array_get_dec
      refine ⟨_, rfl, ?_⟩
      array_get_dec
      refine ⟨_, rfl, _, rfl, ?_⟩
      rw [cut_to]
      array_get_dec
      refine ⟨_, rfl, ?_⟩
      refine ⟨some ((j + 1 : Nat) : Int), rfl, ?_⟩
      array_get_dec
      refine ⟨_, rfl, _, rfl, ?_⟩
      rw [cut_frm]
      have hlen : (ds.take j ++ ds.drop (j + 1)).length ≤ ds.length := by
        simp only [List.length_append, List.length_take, List.length_drop]
        omega
      refine ⟨_, add_tt (by rw [← List.length_append]; omega), ?_⟩
      refine ⟨_, rfl, ?_⟩
      array_get_dec
      refine rest _ _ _ _ (up _ (fun y hy => .inl ?_) (by omega))
      rcases List.mem_append.mp hy with hy | hy
      · exact hq.1 y (List.mem_of_mem_take hy)
      · exact hq.1 y (List.mem_of_mem_drop hy)
    · array_get_dec
      refine ⟨_, eq_intC _ _, ?_⟩
      split
      · array_get_dec
        refine ⟨_, rfl, ?_⟩
        array_get_dec
        refine ⟨_, rfl, _, rfl, ?_⟩
        rw [cut_to]
        array_get_dec
        refine ⟨_, rfl, ?_⟩
        array_get_dec
        refine ⟨_, rfl, ?_⟩
        refine ⟨some ((j + 1 : Nat) : Int), rfl, _, rfl, ?_⟩
        have hcut : (cutD ds (some (j : Int)) (some ((j + 1 : Nat) : Int))).length ≤ 1 ∧ ∀ y ∈ cutD ds (some (j : Int)) (some ((j + 1 : Nat) : Int)), y ∈ ds := by
          unfold cutD
          rw [HT.sIx_nat, HT.sIx_nat]
          refine ⟨?_, fun y hy => List.mem_of_mem_drop (List.mem_of_mem_take hy)⟩
          rw [List.length_take]
          omega
        generalize cutD ds (some (j : Int)) (some ((j + 1 : Nat) : Int)) = mid at hcut
        refine ⟨_, add_tt (by rw [List.length_take]; omega), ?_⟩
        array_get_dec
        refine ⟨_, rfl, ?_⟩
        array_get_dec
        refine ⟨_, rfl, _, rfl, ?_⟩
        rw [cut_frm]
        have hlen : (ds.take j ++ mid ++ ds.drop j).length ≤ ds.length + 1 := by
          simp only [List.length_append, List.length_take, List.length_drop]
          omega
        refine ⟨_, add_tt (by rw [← List.length_append]; omega), ?_⟩
        refine ⟨_, rfl, ?_⟩
        array_get_dec
        refine rest _ _ _ _ (up _ (fun y hy => .inl ?_) (by omega))
        rcases List.mem_append.mp hy with hy | hy
        · rcases List.mem_append.mp hy with hy | hy
          · exact hq.1 y (List.mem_of_mem_take hy)
          · exact hq.1 y (hcut.2 y hy)
        · exact hq.1 y (List.mem_of_mem_drop hy)
      · array_get_dec
        refine ⟨_, eq_intC _ _, ?_⟩
        split
        · array_get_dec
          refine ⟨_, rfl, ?_⟩
          array_get_dec
          refine ⟨_, rfl, _, rfl, ?_⟩
          rw [cut_frm]
          array_get_dec
          refine ⟨_, rfl, ?_⟩
          array_get_dec
          refine ⟨_, rfl, _, rfl, ?_⟩
          rw [cut_to]
          have hlen : (ds.drop j ++ ds.take j).length ≤ ds.length := by
            simp only [List.length_append, List.length_take, List.length_drop]
            omega
          refine ⟨_, add_tt (by rw [← List.length_append]; omega), ?_⟩
          refine ⟨_, rfl, ?_⟩
          array_get_dec
          refine rest _ _ _ _ (up _ (fun y hy => .inl ?_) (by omega))
          rcases List.mem_append.mp hy with hy | hy
          · exact hq.1 y (List.mem_of_mem_drop hy)
          · exact hq.1 y (List.mem_of_mem_take hy)
        · array_get_dec
          refine ⟨_, rfl, Nat.zero_le _, ?_⟩
          array_get_dec
          refine ⟨_, rfl, Nat.le_of_ble_eq_true rfl, ?_⟩
          array_get_dec
          refine ⟨_, rfl, Nat.le_of_ble_eq_true rfl, ?_⟩
          array_get_dec
          refine ⟨_, rfl, ?_⟩
          refine inv_dr (m_pick (k := k) (ds := [.int 0, .tup [], .tup [.int 0], .str "a"]) rfl (by simp) (by show 4 < 100000000; decide)) rfl rfl fun v ns' hv => ?_
          have hb : bq 7 v := by
            simp only [List.mem_cons, List.not_mem_nil, or_false] at hv
            rcases hv with rfl | rfl | rfl | rfl <;> decide +kernel
          have hvv := bq_val hb
          array_get_dec
          refine ⟨[v], frzs_vals (by show (v.val && true) = true; rw [hvv]; rfl), Nat.le_of_ble_eq_true rfl, ?_⟩
          refine ⟨_, add_tt (by simp only [List.length_cons, List.length_nil]; omega), ?_⟩
          refine ⟨_, rfl, ?_⟩
          array_get_dec
          refine rest _ _ _ _ (up _ (fun y hy => ?_) (by rw [List.length_append]; simp only [List.length_cons, List.length_nil]; omega))
          rcases List.mem_append.mp hy with hy | hy
          · exact .inl (hq.1 y hy)
          · rw [List.mem_singleton.mp hy]
            exact .inr hb
theorem m_bent {d : D} (hd : dq 24 1000001 6 d = true) : SpD (CC (k + 3)) "_law_bent" [d] (fun v => bq 20 v) := by
  intro ns
  have hv := dq_val (by decide) (by decide) hd
  refine C_w k75_l__law_bent rfl ?_
  show wSs _ k75_b__law_bent [some (.ref 0), some d, none, none, none, none, none, none, none] _ _
  rw [bent_split]
  array_get_dec
  refine ⟨_, rfl, Nat.zero_le _, ?_⟩
  refine ⟨_, rfl, ?_⟩
  array_get_dec
  refine ⟨[.ref 1, d], ?_, Nat.le_of_ble_eq_true rfl, ?_⟩
  · show (match some (D.ref 1), frzs [d] with
      | some e, some es => some (e :: es)
      | _, _ => none) = _
    rw [frzs_vals (ds := [d]) (by show (d.val && true) = true; rw [hv]; rfl)]
  refine ⟨_, rfl, _, rfl, ?_⟩
  array_get_dec
  refine ⟨0, 9, rfl, rfl, by decide, ?_⟩
  have rest : ∀ (ns' : List Int) (rows : List (List D × Nat)) (here : D) (z z5 : Option D), rows.length ≤ 9 → (∀ p ∈ rows, p.2 < p.1.length ∧ dq 24 1000001 6 (.tup p.1) = true) → dq 24 1000001 6 here = true → wSs ⟨CC (k + 2), true⟩ (.cons bentPick bentBack) [some (.ref 0), some d, z, some (.ref 1), some here, z5, none, none, none] [Dr ns', .lst (rows.map rowK)] (finQ (fun v M1 => ∃ ns' Mx v', M1 = Dr ns' :: Mx ∧ outD 1 M1 v = some v' ∧ bq 20 v') noE) := fun ns' rows here z z5 h1 h2 h3 => m_bentPick (F := CC) h3 h1 h2 fun v Mt ns2 hb => by
    array_get_dec
    exact ⟨ns2, Mt, v, rfl, out_val (bq_val hb), hb⟩
  refine ⟨fun l env M => ∃ (ns' : List Int) (rows : List (List D × Nat)) (here : D) (z z5 : Option D) (j : Nat), env = [some (.ref 0), some d, z, some (.ref 1), some here, z5, none, none, none] ∧ M = [Dr ns', .lst (rows.map rowK)] ∧ j ≤ 9 ∧ l = rangeL (j : Int) (9 - j) ∧ rows.length ≤ j ∧ (∀ p ∈ rows, p.2 < p.1.length ∧ dq 24 1000001 6 (.tup p.1) = true) ∧ dq 24 1000001 6 here = true, fun _ _ _ _ => rfl, ⟨_, [], _, _, _, 0, rfl, rfl, by decide, rfl, Nat.le_refl _, fun p hp => (by cases hp), hd⟩, ?_, ?_⟩
  · rintro x l env M ⟨ns', rows, here, z, z5, j, rfl, rfl, hj, e, hl, hr, hh⟩
    cases hm : 9 - j with
    | zero =>
      rw [hm] at e
      cases e
    | succ m =>
      rw [hm] at e
      obtain ⟨e1, e2⟩ := List.cons.inj e
      subst e1
      have hvh := dq_val (by decide) (by decide) hh
      refine ⟨_, rfl, ?_⟩
      unfold bentDown
      rcases dq_cases hh with ⟨i, rfl⟩ | ⟨s, rfl⟩ | ⟨ds, m6, rfl, em⟩
      · array_get_dec
        refine ⟨_, rfl, ?_⟩
        rw [if_pos (by decide)]
        rw [if_pos rfl]
        array_get_dec
        exact rest _ _ _ _ _ (by omega) hr hh
      · array_get_dec
        refine ⟨_, rfl, ?_⟩
        rw [if_pos (by decide)]
        rw [if_pos rfl]
        array_get_dec
        exact rest _ _ _ _ _ (by omega) hr hh
      · have hq := dq_tup.mp hh
        have em : m6 = 5 := by omega
        subst em
        -- behind the tests
        have go : ∀ ns2 : List Int, 0 < ds.length → wSs ⟨CC (k + 2), true⟩ (.cons (.asg (.name 5) (.call "_law_take" (.cons (.var 0) (.cons (.bi .len (.cons (.var 4) .nil)) .nil)))) (.cons (.expr (.mth .append (.var 3) (.cons (.tup (.cons (.var 4) (.cons (.var 5) .nil))) .nil))) (.cons (.asg (.name 4) (.idx (.var 4) (.var 5))) .nil))) [some (.ref 0), some d, some (.int (j : Int)), some (.ref 1), some (.tup ds), z5, none, none, none] [Dr ns2, .lst (rows.map rowK)] (turnQ (fun env M => ∃ (ns' : List Int) (rows : List (List D × Nat)) (here : D) (z z5 : Option D) (j : Nat), env = [some (.ref 0), some d, z, some (.ref 1), some here, z5, none, none, none] ∧ M = [Dr ns', .lst (rows.map rowK)] ∧ j ≤ 9 ∧ l = rangeL (j : Int) (9 - j) ∧ rows.length ≤ j ∧ (∀ p ∈ rows, p.2 < p.1.length ∧ dq 24 1000001 6 (.tup p.1) = true) ∧ dq 24 1000001 6 here = true) (aft ⟨CC (k + 2), true⟩ (.cons bentPick bentBack) (finQ (fun v M1 => ∃ ns' Mx v', M1 = Dr ns' :: Mx ∧ outD 1 M1 v = some v' ∧ (fun v => bq 20 v) v') noE))) := fun ns2 hpos => by
          array_get_dec
          refine ⟨_, rfl, ?_⟩
          array_get_dec
          refine ⟨_, rfl, ?_⟩
          refine inv_dr (m_take (k := k + 1) (by omega)) rfl rfl fun v ns3 hv => ?_
          obtain ⟨i, rfl, hi⟩ := hv
          have hi' : i < ds.length := by omega
          refine ⟨_, rfl, ?_⟩
          array_get_dec
          refine ⟨rfl, ?_⟩
          array_get_dec
          refine ⟨_, rfl, Nat.le_of_ble_eq_true rfl, ?_⟩
          array_get_dec
          refine ⟨_, rfl, ?_, .non, _, app_end (r := 1) (es := rows.map rowK) (x := rowK (ds, i)) rfl (by rw [List.length_map]; omega), ?_⟩
          · show ((D.tup ds).val && true && true) = true
            rw [hvh]
            rfl
          array_get_dec
          refine ⟨ds[i], idx_of (.inr (.inl rfl)) (List.getElem?_eq_getElem hi') (by have := hq.2; omega), ?_⟩
          have hx := hq.1 _ (List.getElem_mem hi')
          refine ⟨ds[i], frz_val (dq_val (by decide) (by decide) hx), ?_⟩
          array_get_dec
          refine ⟨ns3, rows ++ [(ds, i)], ds[i], _, _, j + 1, rfl, ?_, by omega, ?_, ?_, fun p hp => ?_, dq_mono (Nat.le_refl _) (Nat.le_refl _) (by decide) hx⟩
          · rw [List.map_append]
            rfl
          · rw [e2]
            congr 1
            omega
          · rw [List.length_append]
            simp only [List.length_cons, List.length_nil]
            omega
          · rcases List.mem_append.mp hp with hp | hp
            · exact hr p hp
            · rw [List.mem_singleton.mp hp]
              exact ⟨hi', hh⟩
        array_get_dec
        refine ⟨_, rfl, ?_⟩
        rw [if_neg (by decide)]
        array_get_dec
        refine ⟨_, rfl, ?_⟩
        array_get_dec
        refine ⟨_, eq_intC _ _, ?_⟩
        by_cases h0 : (ds.length : Int) = 0
        · rw [if_pos (decide_eq_true h0), if_pos rfl]
          array_get_dec
          exact rest _ _ _ _ _ (by omega) hr hh
        · rw [if_neg fun z => h0 (of_decide_eq_true z)]
          array_get_dec
          refine ⟨decide ((0 : Int) < (j : Int)), rfl, ?_⟩
          by_cases hj0 : (0 : Int) < (j : Int)
          · rw [if_pos (decide_eq_true hj0)]
            array_get_dec
            refine ⟨_, rfl, ?_⟩
            refine inv_dr (m_take (k := k + 1) (by decide)) rfl rfl fun v ns3 hv => ?_
            obtain ⟨i, rfl, hi⟩ := hv
            array_get_dec
            refine ⟨_, eq_intC _ _, ?_⟩
            by_cases hi0 : (i : Int) = 0
            · rw [if_pos (decide_eq_true hi0)]
              array_get_dec
              exact rest _ _ _ _ _ (by omega) hr hh
            · rw [if_neg fun z => hi0 (of_decide_eq_true z)]
              exact vS_nil (vaft_nx (go _ (by omega)))
          · rw [if_neg fun z => hj0 (of_decide_eq_true z)]
            rw [if_neg (by decide)]
            exact vS_nil (vaft_nx (go _ (by omega)))
  · rintro env M ⟨ns', rows, here, z, z5, j, rfl, rfl, hj, e, hl, hr, hh⟩
    exact rest _ _ _ _ _ (by omega) hr hh
end Z
end
section
set_option Elab.async false
set_option linter.all false
set_option maxRecDepth 100000
set_option maxHeartbeats 1000000
set_option autoImplicit false
/-! The law's makers: a claim near by; the draws. -/
namespace Z
open PySem
local macro_rules | `(tactic| array_mem_dec) => `(tactic| first
  | with_reducible refine vE_c ?_ | with_reducible refine vE_nope ?_ | with_reducible refine vE_var (by with_unfolding_all rfl) ?_ | with_reducible refine vE_bin ?_ | with_reducible refine vE_neg ?_ | with_reducible refine vE_cmp ?_ | with_reducible refine vE_not ?_ | with_reducible refine vE_and ?_ | with_reducible refine vE_or ?_ | with_reducible refine vE_ite ?_
  | with_reducible refine vE_tup ?_ | with_reducible refine vE_lst ?_ | with_reducible refine vE_nil ?_ | with_reducible refine vE_cons ?_ | with_reducible refine vE_idx ?_ | with_reducible refine vE_sli ?_ | with_reducible refine vE_mat ?_ | with_reducible refine vE_call ?_ | with_reducible refine vE_bi (by with_unfolding_all rfl) ?_ | with_reducible refine vE_mth ?_ | with_reducible refine vE_isi ?_
  | with_reducible refine vT_nope ?_ | with_reducible refine vT_var (by with_unfolding_all rfl) ?_ | with_reducible refine vT_cmp ?_ | with_reducible refine vT_not ?_ | with_reducible refine vT_and ?_ | with_reducible refine vT_or ?_ | with_reducible refine vT_call ?_ | with_reducible refine vT_bi (by with_unfolding_all rfl) ?_ | with_reducible refine vT_isi ?_ | with_reducible refine vT_idx ?_
  | with_reducible refine vI_seq ?_ | with_reducible refine vI_rng ?_
  | with_reducible refine vS_nil ?_ | with_reducible refine vS_skip ?_ | with_reducible refine vS_expr ?_ | with_reducible refine vS_asg ?_ | with_reducible refine vS_asgT ?_ | with_reducible refine vS_sub ?_ | with_reducible refine vS_ret ?_ | with_reducible refine vS_brk ?_ | with_reducible refine vS_cont ?_ | with_reducible refine vS_ife ?_ | with_reducible refine vS_for ?_
  | with_reducible refine vaft_nx ?_ | with_reducible refine vaft_rt ?_ | with_reducible refine vaft_bk ?_ | with_reducible refine vaft_ct ?_ | with_reducible refine vturn_nx ?_ | with_reducible refine vturn_ct ?_ | with_reducible refine vturn_bk ?_ | with_reducible refine vturn_rt ?_ | with_reducible refine vfin_rtQ ?_ | with_reducible refine vfin_nxQ ?_)
local macro_rules | `(tactic| array_get_dec) => `(tactic| repeat (first
  | with_reducible refine vE_c ?_ | with_reducible refine vE_nope ?_ | with_reducible refine vE_var (by with_unfolding_all rfl) ?_ | with_reducible refine vE_bin ?_ | with_reducible refine vE_neg ?_ | with_reducible refine vE_cmp ?_ | with_reducible refine vE_not ?_ | with_reducible refine vE_and ?_ | with_reducible refine vE_or ?_ | with_reducible refine vE_ite ?_
  | with_reducible refine vE_tup ?_ | with_reducible refine vE_lst ?_ | with_reducible refine vE_nil ?_ | with_reducible refine vE_cons ?_ | with_reducible refine vE_idx ?_ | with_reducible refine vE_sli ?_ | with_reducible refine vE_mat ?_ | with_reducible refine vE_call ?_ | with_reducible refine vE_bi (by with_unfolding_all rfl) ?_ | with_reducible refine vE_mth ?_ | with_reducible refine vE_isi ?_
  | with_reducible refine vT_nope ?_ | with_reducible refine vT_var (by with_unfolding_all rfl) ?_ | with_reducible refine vT_cmp ?_ | with_reducible refine vT_not ?_ | with_reducible refine vT_and ?_ | with_reducible refine vT_or ?_ | with_reducible refine vT_call ?_ | with_reducible refine vT_bi (by with_unfolding_all rfl) ?_ | with_reducible refine vT_isi ?_ | with_reducible refine vT_idx ?_
  | with_reducible refine vI_seq ?_ | with_reducible refine vI_rng ?_
  | with_reducible refine vS_nil ?_ | with_reducible refine vS_skip ?_ | with_reducible refine vS_expr ?_ | with_reducible refine vS_asg ?_ | with_reducible refine vS_asgT ?_ | with_reducible refine vS_sub ?_ | with_reducible refine vS_ret ?_ | with_reducible refine vS_brk ?_ | with_reducible refine vS_cont ?_ | with_reducible refine vS_ife ?_ | with_reducible refine vS_for ?_
  | with_reducible refine vaft_nx ?_ | with_reducible refine vaft_rt ?_ | with_reducible refine vaft_bk ?_ | with_reducible refine vaft_ct ?_ | with_reducible refine vturn_nx ?_ | with_reducible refine vturn_ct ?_ | with_reducible refine vturn_bk ?_ | with_reducible refine vturn_rt ?_ | with_reducible refine vfin_rtQ ?_ | with_reducible refine vfin_nxQ ?_))
variable {M : Mem} {X : Ex} {k : Nat}
def flatL : List Str := ["in", "out", "same", "unlike", "normal", "broken", "tower", "stuck", "turned", "apart", "led", "unled", "map", "nomap", "order", "", "colourings", ""]
theorem m_flat {Q : D → Mem → Prop} (h : Q (.tl (flatL.map .str)) M) : wR (inv (CC (k + 1)) "_law_flat" [.tl (pairsL.map pairD)] M) Q X := by
  refine inv_vW (by decide +kernel) ?_
  refine C_w k75_l__law_flat rfl ?_
  show wSs _ k75_b__law_flat [some (.tl (pairsL.map pairD)), none, none] _ _
  unfold k75_b__law_flat
  array_get_dec
  refine ⟨_, rfl, Nat.zero_le _, ?_⟩
  refine ⟨_, rfl, ?_⟩
  array_get_dec
  refine ⟨_, rfl, ?_⟩
  refine ⟨fun l env M => ∃ (a b : List (Str × Str)) (z : Option D), env = [some (.tl (pairsL.map pairD)), some (.tl ((a.flatMap fun p => [p.1, p.2]).map .str)), z] ∧ M = [] ∧ l = b.map pairD ∧ a ++ b = pairsL, fun _ _ _ _ => rfl, ⟨[], pairsL, _, rfl, rfl, rfl, rfl⟩, ?_, ?_⟩
  · rintro x l env M ⟨a, b, z, rfl, rfl, e, hab⟩
    cases b with
    | nil => cases e
    | cons p b =>
      obtain ⟨e1, e2⟩ := List.cons.inj e
      subst e1
      have hl := congrArg List.length hab
      rw [List.length_append, List.length_cons] at hl
      have hl9 : pairsL.length = 9 := rfl
      refine ⟨_, rfl, ?_⟩
      array_get_dec
      refine ⟨_, rfl, ?_⟩
      have hfl : ∀ a : List (Str × Str), (a.flatMap fun p => [p.1, p.2]).length = 2 * a.length := fun a => by
        induction a with
        | nil => rfl
        | cons q a ih =>
          rw [List.flatMap_cons, List.length_append, ih, List.length_cons]
          simp only [List.length_cons, List.length_nil]
          omega
      refine ⟨_, add_tl (a := (a.flatMap fun p => [p.1, p.2]).map .str) (b := [.str p.1, .str p.2]) (by rw [List.length_map, hfl]; simp only [List.length_cons, List.length_nil]; omega), ?_⟩
      refine ⟨_, rfl, ?_⟩
      array_get_dec
      refine ⟨a ++ [p], b, some (pairD p), ?_, rfl, e2, by rw [List.append_assoc]; exact hab⟩
      rw [List.flatMap_append, List.map_append]
      rfl
  · rintro env M ⟨a, b, z, rfl, rfl, e, hab⟩
    have hb : b = [] := by
      cases b with
      | nil => rfl
      | cons p b => cases e
    subst hb
    rw [List.append_nil] at hab
    subst hab
    array_get_dec
    exact ⟨.tl (flatL.map .str), out_val (d := .tl (flatL.map .str)) (by decide +kernel), h⟩
theorem near_words : ∀ t ∈ flatL ++ (["orders", "parted"] : List Str), dm 19 (.str t) = true := by
  have h : ((flatL ++ (["orders", "parted"] : List Str)).all fun t => dm 19 (.str t)) = true := by decide +kernel
  exact fun t ht => List.all_eq_true.mp h t ht
theorem dq_dm19 {n : Nat} {d : D} (h : dq 24 1000001 n d = true) (hn : n ≤ 19) : dm 19 d = true := dq_dm (by decide) (by decide) (dq_mono (Nat.le_refl 24) (Nat.le_refl _) hn h)
theorem m_near {s : Str} {v : D} (hs : s ∈ wordsC) (hv : PC s v) : SpD (CC (k + 4)) "_law_near" [v] (fun r => dm 20 r = true) := by
  intro ns
  obtain ⟨_, hss, _⟩ := opp_same s hs
  obtain ⟨n, mk, rs, rfl, hn, hrl, hj, hd, hmap, hled⟩ := hv.ex
  have hvv := pc_val hv
  have hq := dq_tup.mp hd
  have hdm : ∀ y ∈ (D.str s :: .int n :: .tup mk :: rs), dm 19 y = true := fun y hy => dq_dm19 (hq.1 y hy) (by decide)
  have hlen : (D.str s :: .int n :: .tup mk :: rs).length ≤ 5 := by
    simp only [List.length_cons]
    omega
  have i0 : ∀ M, idxD (.tup (.str s :: .int n :: .tup mk :: rs)) (.int 0) M = some (.str s) := fun M => idx_nat (j := 0) rfl (by decide)
  have i1 : ∀ M, idxD (.tup (.str s :: .int n :: .tup mk :: rs)) (.int 1) M = some (.int n) := fun M => idx_nat (j := 1) rfl (by decide)
  have i2 : ∀ M, idxD (.tup (.str s :: .int n :: .tup mk :: rs)) (.int 2) M = some (.tup mk) := fun M => idx_nat (j := 2) rfl (by decide)
  have hmk : D.vals mk = true := dm_val (hdm (.tup mk) (by simp))
  have done : ∀ (l : List D) (ns' : List Int) (Mx : Mem), (∀ y ∈ l, dm 19 y = true) → l.length ≤ 1000 → ∃ ns2 Mx2 v', Dr ns' :: Mx = Dr ns2 :: Mx2 ∧ outD 1 (Dr ns' :: Mx) (.tup l) = some v' ∧ dm 20 v' = true := fun l ns' Mx h1 h2 => by
    have : dm 20 (.tup l) = true := dm_tup.mpr ⟨h1, h2⟩
    exact ⟨ns', Mx, _, rfl, out_val (dm_val this), this⟩
  refine C_w k75_l__law_near rfl ?_
  show wSs _ k75_b__law_near [some (.ref 0), some (.tup (.str s :: .int n :: .tup mk :: rs)), none] _ _
  unfold k75_b__law_near
  array_get_dec
  refine ⟨_, rfl, ?_⟩
  refine inv_dr (m_take (by decide)) rfl rfl fun v ns1 hv1 => ?_
  obtain ⟨j, rfl, hj8⟩ := hv1
  refine ⟨_, rfl, ?_⟩
  array_get_dec
  refine ⟨_, eq_intC _ _, ?_⟩
  split
  · array_get_dec
    refine ⟨_, rfl, ?_⟩
    refine m_words ?_
    array_get_dec
    refine ⟨_, rfl, ?_⟩
    refine m_flat (k := k + 2) ?_
    array_get_dec
    refine ⟨_, rfl, Nat.le_of_ble_eq_true rfl, ?_⟩
    refine ⟨_, add_tl (a := flatL.map .str) (b := [.str "orders", .str "parted"]) (by decide), ?_⟩
    array_get_dec
    refine ⟨_, rfl, ?_⟩
    refine inv_dr (m_pick (ds := (flatL ++ (["orders", "parted"] : List Str)).map .str) (by decide +kernel) (by decide) (by decide)) (by decide +kernel) rfl fun v ns2 hv2 => ?_
    obtain ⟨t, ht, rfl⟩ := List.mem_map.mp hv2
    array_get_dec
    refine ⟨_, rfl, Nat.le_of_ble_eq_true rfl, ?_⟩
    array_get_dec
    refine ⟨_, rfl, ?_⟩
    array_get_dec
    refine ⟨_, rfl, _, rfl, ?_⟩
    rw [cut1]
    refine ⟨_, add_tt (by simp only [List.length_cons, List.length_nil]; omega), ?_⟩
    array_get_dec
    refine done _ _ _ (fun y hy => ?_) (by simp only [List.length_append, List.length_cons, List.length_nil]; omega)
    rcases List.mem_append.mp hy with hy | hy
    · rw [List.mem_singleton.mp hy]
      exact near_words t ht
    · exact hdm y (List.mem_cons_of_mem _ hy)
  · array_get_dec
    refine ⟨_, eq_intC _ _, ?_⟩
    split
    · array_get_dec
      refine ⟨_, rfl, ?_⟩
      array_get_dec
      refine ⟨_, rfl, ?_⟩
      array_get_dec
      refine ⟨_, rfl, ?_⟩
      refine ⟨some (((D.str s :: .int n :: .tup mk :: rs).length - 1 : Nat) : Int), ?_, ?_⟩
      · show some (some ((((D.str s :: .int n :: .tup mk :: rs).length : Nat) : Int) - 1)) = _
        congr 2
        simp only [List.length_cons]
        omega
      refine ⟨_, rfl, ?_⟩
      rw [cut_to]
      array_get_dec
      refine done _ _ _ (fun y hy => hdm y (List.mem_of_mem_take hy)) (by rw [List.length_take]; omega)
    · array_get_dec
      refine ⟨_, eq_intC _ _, ?_⟩
      split
      · array_get_dec
        refine ⟨_, rfl, Nat.zero_le _, ?_⟩
        array_get_dec
        refine ⟨_, i1 _, ?_⟩
        array_get_dec
        refine ⟨_, i2 _, ?_⟩
        array_get_dec
        refine ⟨_, rfl, Nat.le_of_ble_eq_true rfl, ?_⟩
        array_get_dec
        refine ⟨_, rfl, ?_⟩
        have hvs : D.vals [.tup [], .int 0, .int n, .tup mk] = true := by
          show (D.vals mk && true) = true
          rw [hmk]
          rfl
        refine inv_dr (m_pick (ds := [.tup [], .int 0, .int n, .tup mk]) hvs (by simp) (by show 4 < 100000000; decide)) (by show (D.vals [.tup [], .int 0, .int n, .tup mk] && true) = true; rw [hvs]; rfl) rfl fun v ns2 hv2 => ?_
        have hdv : dm 19 v = true := by
          simp only [List.mem_cons, List.not_mem_nil, or_false] at hv2
          rcases hv2 with rfl | rfl | rfl | rfl
          · rfl
          · rfl
          · exact hdm _ (by simp)
          · exact hdm _ (by simp)
        array_get_dec
        refine ⟨[v], frzs_vals (dms_val hdv), Nat.le_of_ble_eq_true rfl, ?_⟩
        refine ⟨_, add_tt (by simp only [List.length_cons, List.length_nil]; omega), ?_⟩
        array_get_dec
        refine done _ _ _ (fun y hy => ?_) (by rw [List.length_append]; simp only [List.length_cons, List.length_nil]; omega)
        rcases List.mem_append.mp hy with hy | hy
        · exact hdm y hy
        · rw [List.mem_singleton.mp hy]
          exact hdv
      · array_get_dec
        refine ⟨_, eq_intC _ _, ?_⟩
        have bent : ∀ ns2 : List Int, wSs ⟨CC (k + 3), true⟩ (.cons (.ret (.call "_law_bent" (.cons (.var 0) (.cons (.var 1) .nil)))) .nil) [some (.ref 0), some (.tup (.str s :: .int n :: .tup mk :: rs)), some (.int (j : Int))] [Dr ns2] (finQ (fun v M1 => ∃ ns' Mx v', M1 = Dr ns' :: Mx ∧ outD 1 M1 v = some v' ∧ (fun r => dm 20 r = true) v') noE) := fun ns2 => by
          array_get_dec
          refine ⟨_, rfl, ?_⟩
          refine inv_dr (m_bent (k := k) hd) (by show ((D.tup _).val && true) = true; rw [hvv]; rfl) rfl fun v ns3 hb => ?_
          have hdv : dm 20 v = true := dq_dm (by decide) (by decide) hb
          array_get_dec
          exact ⟨ns3, [], v, rfl, out_val (dm_val hdv), hdv⟩
        have cut4 : ∀ l : List D, cutD l none (some 4) = l.take 4 := fun l => cut_to (j := 4)
        by_cases j3 : (j : Int) = 3
        · rw [if_pos (decide_eq_true j3)]
          array_get_dec
          refine ⟨_, i0 _, ?_⟩
          array_get_dec
          refine ⟨_, rfl, Nat.le_of_ble_eq_true rfl, ?_⟩
          refine ⟨_, mwl ["led", "unled"] hss, ?_⟩
          by_cases t5 : s ∈ (["led", "unled"] : List Str)
          · rw [if_pos (decide_eq_true t5)]
            array_get_dec
            refine ⟨_, rfl, ?_⟩
            array_get_dec
            refine ⟨_, rfl, _, rfl, ?_⟩
            rw [cut4]
            array_get_dec
            refine ⟨_, i1 _, ?_⟩
            array_get_dec
            refine ⟨_, rfl, ?_⟩
            refine inv_dr (m_any_thing hn) rfl rfl fun t ns4 ht => ?_
            have hdt : dm 19 t = true := dq_dm19 (thing_dq hn ht) (by decide)
            array_get_dec
            refine ⟨[t], frzs_vals (dms_val hdt), Nat.le_of_ble_eq_true rfl, ?_⟩
            refine ⟨_, add_tt (by rw [List.length_take]; simp only [List.length_cons, List.length_nil]; omega), ?_⟩
            array_get_dec
            refine done _ _ _ (fun y hy => ?_) (by rw [List.length_append, List.length_take]; simp only [List.length_cons, List.length_nil]; omega)
            rcases List.mem_append.mp hy with hy | hy
            · exact hdm y (List.mem_of_mem_take hy)
            · rw [List.mem_singleton.mp hy]
              exact hdt
          · rw [if_neg fun z => t5 (of_decide_eq_true z)]
            array_get_dec
            refine ⟨_, eq_intC _ _, ?_⟩
            rw [if_pos (decide_eq_true j3)]
            array_get_dec
            refine ⟨_, i0 _, ?_⟩
            array_get_dec
            refine ⟨_, rfl, Nat.le_of_ble_eq_true rfl, ?_⟩
            refine ⟨_, mwl ["map", "nomap"] hss, ?_⟩
            by_cases t6 : s ∈ (["map", "nomap"] : List Str)
            · rw [if_pos (decide_eq_true t6)]
              obtain ⟨m, ims, rfl, hm, hims⟩ := hmap t6
              have i3 : ∀ M, idxD (.tup [.str s, .int n, .tup mk, .int m, .tup ims]) (.int 3) M = some (.int m) := fun M => idx_nat (j := 3) rfl (by decide)
              have i4 : ∀ M, idxD (.tup [.str s, .int n, .tup mk, .int m, .tup ims]) (.int 4) M = some (.tup ims) := fun M => idx_nat (j := 4) rfl (by decide)
              array_get_dec
              refine ⟨_, rfl, ?_⟩
              array_get_dec
              refine ⟨_, rfl, _, rfl, ?_⟩
              rw [cut4]
              array_get_dec
              refine ⟨_, i4 _, ?_⟩
              array_get_dec
              refine ⟨_, i3 _, ?_⟩
              array_get_dec
              refine ⟨_, rfl, ?_⟩
              refine m_identity (k := k + 2) (by omega) ?_
              array_get_dec
              have hid : dm 17 (.tup ((rangeI m.toNat).map .int)) = true := dq_dm (L := 24) (B := 1000001) (by decide) (by decide) (dq_ints (fun x hx => by have := mem_rangeI.mp hx; omega) (by rw [rangeI_len]; omega))
              refine ⟨_, frzs_vals (dms_val hid), Nat.le_of_ble_eq_true rfl, ?_⟩
              refine ⟨_, add_tt (by simp only [List.length_cons, List.length_nil]; omega), ?_⟩
              array_get_dec
              have h4 : dq 24 1000001 5 (.tup ims) = true := hq.1 _ (by simp)
              have h4' := dq_tup.mp h4
              have hnew : dm 19 (.tup (ims ++ [.tup ((rangeI m.toNat).map .int)])) = true := dm_tup.mpr ⟨fun y hy => by
                rcases List.mem_append.mp hy with hy | hy
                · exact dq_dm (by decide) (by decide) (dq_mono (Nat.le_refl 24) (Nat.le_refl 1000001) (by decide) (h4'.1 y hy))
                · rw [List.mem_singleton.mp hy]
                  exact dq_dm (L := 24) (B := 1000001) (by decide) (by decide) (dq_ints (fun x hx => by have := mem_rangeI.mp hx; omega) (by rw [rangeI_len]; omega)), by rw [List.length_append]; simp only [List.length_cons, List.length_nil]; omega⟩
              refine ⟨_, frzs_vals (dms_val hnew), Nat.le_of_ble_eq_true rfl, ?_⟩
              refine ⟨_, add_tt (by rw [List.length_take]; simp only [List.length_cons, List.length_nil]; omega), ?_⟩
              array_get_dec
              refine done _ _ _ (fun y hy => ?_) (by rw [List.length_append, List.length_take]; simp only [List.length_cons, List.length_nil]; omega)
              rcases List.mem_append.mp hy with hy | hy
              · exact hdm y (List.mem_of_mem_take hy)
              · rw [List.mem_singleton.mp hy]
                exact hnew
            · rw [if_neg fun z => t6 (of_decide_eq_true z)]
              exact vS_nil (vaft_nx (bent _))
        · rw [if_neg fun z => j3 (of_decide_eq_true z)]
          rw [if_neg (by decide)]
          refine vS_nil (vaft_nx ?_)
          array_get_dec
          refine ⟨_, eq_intC _ _, ?_⟩
          rw [if_neg fun z => j3 (of_decide_eq_true z)]
          rw [if_neg (by decide)]
          exact vS_nil (vaft_nx (bent _))
end Z
end
section
set_option Elab.async false
set_option linter.all false
set_option maxRecDepth 100000
set_option maxHeartbeats 1000000
set_option autoImplicit false
/-! The draws; the law. -/
namespace Z
open PySem
local macro_rules | `(tactic| array_mem_dec) => `(tactic| first
  | with_reducible refine vE_c ?_ | with_reducible refine vE_nope ?_ | with_reducible refine vE_var (by with_unfolding_all rfl) ?_ | with_reducible refine vE_bin ?_ | with_reducible refine vE_neg ?_ | with_reducible refine vE_cmp ?_ | with_reducible refine vE_not ?_ | with_reducible refine vE_and ?_ | with_reducible refine vE_or ?_ | with_reducible refine vE_ite ?_
  | with_reducible refine vE_tup ?_ | with_reducible refine vE_lst ?_ | with_reducible refine vE_nil ?_ | with_reducible refine vE_cons ?_ | with_reducible refine vE_idx ?_ | with_reducible refine vE_sli ?_ | with_reducible refine vE_mat ?_ | with_reducible refine vE_call ?_ | with_reducible refine vE_bi (by with_unfolding_all rfl) ?_ | with_reducible refine vE_mth ?_ | with_reducible refine vE_isi ?_
  | with_reducible refine vT_nope ?_ | with_reducible refine vT_var (by with_unfolding_all rfl) ?_ | with_reducible refine vT_cmp ?_ | with_reducible refine vT_not ?_ | with_reducible refine vT_and ?_ | with_reducible refine vT_or ?_ | with_reducible refine vT_call ?_ | with_reducible refine vT_bi (by with_unfolding_all rfl) ?_ | with_reducible refine vT_isi ?_ | with_reducible refine vT_idx ?_
  | with_reducible refine vI_seq ?_ | with_reducible refine vI_rng ?_
  | with_reducible refine vS_nil ?_ | with_reducible refine vS_skip ?_ | with_reducible refine vS_expr ?_ | with_reducible refine vS_asg ?_ | with_reducible refine vS_asgT ?_ | with_reducible refine vS_sub ?_ | with_reducible refine vS_ret ?_ | with_reducible refine vS_brk ?_ | with_reducible refine vS_cont ?_ | with_reducible refine vS_ife ?_ | with_reducible refine vS_for ?_
  | with_reducible refine vaft_nx ?_ | with_reducible refine vaft_rt ?_ | with_reducible refine vaft_bk ?_ | with_reducible refine vaft_ct ?_ | with_reducible refine vturn_nx ?_ | with_reducible refine vturn_ct ?_ | with_reducible refine vturn_bk ?_ | with_reducible refine vturn_rt ?_ | with_reducible refine vfin_rtQ ?_ | with_reducible refine vfin_nxQ ?_)
local macro_rules | `(tactic| array_get_dec) => `(tactic| repeat (first
  | with_reducible refine vE_c ?_ | with_reducible refine vE_nope ?_ | with_reducible refine vE_var (by with_unfolding_all rfl) ?_ | with_reducible refine vE_bin ?_ | with_reducible refine vE_neg ?_ | with_reducible refine vE_cmp ?_ | with_reducible refine vE_not ?_ | with_reducible refine vE_and ?_ | with_reducible refine vE_or ?_ | with_reducible refine vE_ite ?_
  | with_reducible refine vE_tup ?_ | with_reducible refine vE_lst ?_ | with_reducible refine vE_nil ?_ | with_reducible refine vE_cons ?_ | with_reducible refine vE_idx ?_ | with_reducible refine vE_sli ?_ | with_reducible refine vE_mat ?_ | with_reducible refine vE_call ?_ | with_reducible refine vE_bi (by with_unfolding_all rfl) ?_ | with_reducible refine vE_mth ?_ | with_reducible refine vE_isi ?_
  | with_reducible refine vT_nope ?_ | with_reducible refine vT_var (by with_unfolding_all rfl) ?_ | with_reducible refine vT_cmp ?_ | with_reducible refine vT_not ?_ | with_reducible refine vT_and ?_ | with_reducible refine vT_or ?_ | with_reducible refine vT_call ?_ | with_reducible refine vT_bi (by with_unfolding_all rfl) ?_ | with_reducible refine vT_isi ?_ | with_reducible refine vT_idx ?_
  | with_reducible refine vI_seq ?_ | with_reducible refine vI_rng ?_
  | with_reducible refine vS_nil ?_ | with_reducible refine vS_skip ?_ | with_reducible refine vS_expr ?_ | with_reducible refine vS_asg ?_ | with_reducible refine vS_asgT ?_ | with_reducible refine vS_sub ?_ | with_reducible refine vS_ret ?_ | with_reducible refine vS_brk ?_ | with_reducible refine vS_cont ?_ | with_reducible refine vS_ife ?_ | with_reducible refine vS_for ?_
  | with_reducible refine vaft_nx ?_ | with_reducible refine vaft_rt ?_ | with_reducible refine vaft_bk ?_ | with_reducible refine vaft_ct ?_ | with_reducible refine vturn_nx ?_ | with_reducible refine vturn_ct ?_ | with_reducible refine vturn_bk ?_ | with_reducible refine vturn_rt ?_ | with_reducible refine vfin_rtQ ?_ | with_reducible refine vfin_nxQ ?_))
variable {M : Mem} {X : Ex} {k : Nat}
theorem shl_ex {M : Mem} : ∃ m : Int, 0 < m ∧ binD .shl (.int 1) (.int 7200) M = some (.int m) := by
  refine ⟨1 * 2 ^ (7200 : Int).toNat, ?_, ?_⟩
  · exact Int.mul_pos (by decide) (Int.pow_pos (by decide))
  · show (binI .shl 1 7200).map D.int = _
    unfold binI
    rw [if_pos (by decide)]
    rfl
theorem pow_ex {M : Mem} : ∃ m : Int, binD .pow (.int 10) (.int 18) M = some (.int m) := by
  refine ⟨10 ^ (18 : Int).toNat, ?_⟩
  show (binI .pow 10 18).map D.int = _
  unfold binI
  rw [if_pos (by decide)]
  rfl
theorem mul_r {i j : Int} (h : -4294967296 < j ∧ j < 4294967296) : binD .mul (.int i) (.int j) M = some (.int (i * j)) := by
  show (binI .mul i j).map D.int = _
  unfold binI
  rw [if_pos]
  · rfl
  · unfold mulOk
    rw [Bool.or_eq_true]
    right
    rw [decide_eq_true (by omega), decide_eq_true (by omega)]
    rfl
theorem fdiv_i {i j : Int} (h : 0 < j ∧ j < 1073741824) : binD .fdiv (.int i) (.int j) M = some (.int (i / j)) := by
  show (binI .fdiv i j).map D.int = _
  have hb : (decide (0 < j) && decide (j < 1073741824)) = true := by
    rw [decide_eq_true h.1, decide_eq_true h.2]
    rfl
  show (if (decide (0 < j) && decide (j < 1073741824)) = true then some (i / j) else none).map D.int = _
  rw [if_pos hb]
  rfl
theorem out_ref {r m : Nat} {ds : List D} (hr : ¬ r < m) (hM : M[r]? = some (.lst ds)) (hv : D.vals ds = true) : outD m M (.ref r) = some (.fl ds) := by
  show (if r < m then none else (match M[r]? with
    | some (.lst ds) => if D.vals ds then some (D.fl ds) else (deeps m r M 100000 ds).map D.fl
    | _ => none)) = _
  rw [if_neg hr, hM]
  dsimp only
  rw [if_pos hv]
theorem m_draws {ns : List Int} {Q : D → Mem → Prop} (h : ∀ ns' : List Int, Q (.fl (ns'.map .int)) M) : wR (inv (CC (k + 1)) "_law_draws" [.sc (ns.map .int), .int 2600] M) Q X := by
  refine inv_vW (by show (D.vals (ns.map .int) && true) = true; rw [vals_ints]; rfl) ?_
  refine C_w k75_l__law_draws rfl ?_
  show wSs _ k75_b__law_draws [some (.sc (ns.map .int)), some (.int 2600), none, none, none, none, none, none, none] _ _
  unfold k75_b__law_draws
  array_get_dec
  refine comp_pure (l0 := (ns.take 63).map .int) (F0 := fun d => .int (toI d % (Classical.choose (shl_ex (M := []))))) (by rw [List.length_map, List.length_take]; omega) ?_ ?_ ?_
  · array_get_dec
    refine ⟨none, rfl, ?_⟩
    array_get_dec
    refine ⟨some 63, rfl, _, rfl, ?_⟩
    refine ⟨_, rfl, rfl, rfl, ?_⟩
    show cutD (ns.map .int) none (some ((63 : Nat) : Int)) = _
    rw [cut_to, List.map_take]
  · intro x hx
    obtain ⟨i, hi, rfl⟩ := List.mem_map.mp hx
    obtain ⟨h1, h2⟩ := Classical.choose_spec (shl_ex (M := []))
    array_get_dec
    refine ⟨_, rfl, ?_⟩
    array_get_dec
    refine ⟨_, h2, ?_⟩
    refine ⟨_, mod_int h1, rfl, rfl⟩
  have e : ((ns.take 63).map D.int).map (fun d => D.int (toI d % (Classical.choose (shl_ex (M := []))))) = ((ns.take 63).map fun i => i % (Classical.choose (shl_ex (M := [])))).map .int := by
    rw [List.map_map, List.map_map]
    rfl
  rw [e]
  have hc : ((ns.take 63).map fun i => i % (Classical.choose (shl_ex (M := [])))).length ≤ 63 := by
    rw [List.length_map, List.length_take]
    omega
  generalize ((ns.take 63).map fun i => i % (Classical.choose (shl_ex (M := [])))) = cells at hc
  refine ⟨_, rfl, ?_⟩
  refine ⟨_, rfl, ?_⟩
  array_get_dec
  refine ⟨.int (cells.length : Int), by rw [len_ref rfl, List.length_map], ?_⟩
  array_get_dec
  refine ⟨_, eq_intC _ _, ?_⟩
  have rest : ∀ cells : List Int, cells ≠ [] → cells.length ≤ 63 → wSs ⟨CC k, true⟩ (.cons (.asg (.name 3) (.mat (.bi .list (.cons (.var 2) .nil)))) (.cons (.asg (.name 4) (.mat (.lst .nil))) (.cons (.for_ [5] (.rng (.c (.int (0))) (.var 1)) (.cons (.asg (.name 6) (.bin .mod (.bi .int (.cons (.var 5) .nil)) (.bi .len (.cons (.var 2) .nil)))) (.cons (.ife (.and (.cmp .ge (.idx (.var 2) (.var 6)) (.bin .pow (.c (.int (10))) (.c (.int (18))))) (.cmp .gt (.idx (.var 3) (.var 6)) (.c (.int (0))))) (.cons (.expr (.mth .append (.var 4) (.cons (.bin .mod (.bi .int (.cons (.idx (.var 3) (.var 6)) .nil)) (.c (.int (1000)))) .nil))) (.cons (.asg (.sub (.var 3) (.var 6)) (.bin .fdiv (.idx (.var 3) (.var 6)) (.c (.int (1000))))) .nil)) (.cons (.asg (.name 8) (.bin .mod (.bi .int (.cons (.bin .add (.bin .add (.bin .mul (.idx (.var 2) (.var 6)) (.c (.int (48271)))) (.bin .mul (.var 5) (.c (.int (69621))))) (.c (.int (11)))) .nil)) (.c (.int (2147483647))))) (.cons (.expr (.mth .append (.var 4) (.cons (.bin .mod (.bi .int (.cons (.bin .add (.bin .add (.bin .mul (.var 8) (.var 8)) (.bin .mul (.c (.int (3))) (.var 8))) (.var 5)) .nil)) (.c (.int (1000003)))) .nil))) .nil))) .nil))) (.cons (.expr (.mth .reverse (.var 4) .nil)) (.cons (.ret (.var 4)) .nil)))))
      [some (.sc (ns.map .int)), some (.int 2600), some (.ref 0), none, none, none, none, none, none] [Dr cells] (finQ (fun v M1 => ∃ v', outD 0 M1 v = some v' ∧ Q v' M) noE) := fun cells hne hlen => by
    have hpos := List.length_pos_iff.mpr hne
    array_get_dec
    refine ⟨_, rfl, ?_⟩
    refine ⟨_, rfl, ?_⟩
    refine ⟨_, rfl, ?_⟩
    array_get_dec
    refine ⟨_, rfl, Nat.zero_le _, ?_⟩
    refine ⟨_, rfl, ?_⟩
    refine ⟨_, rfl, ?_⟩
    array_get_dec
    refine ⟨0, 2600, rfl, rfl, by decide, ?_⟩
    refine ⟨fun l env M => ∃ (left draws : List Int) (z5 z6 z8 : Option D) (j : Nat), env = [some (.sc (ns.map .int)), some (.int 2600), some (.ref 0), some (.ref 1), some (.ref 2), z5, z6, none, z8] ∧ M = [Dr cells, Dr left, Dr draws] ∧ j ≤ 2600 ∧ l = rangeL (j : Int) (2600 - j) ∧ left.length = cells.length ∧ draws.length = j, fun _ _ _ _ => rfl, ⟨cells, [], _, _, _, 0, rfl, rfl, by decide, rfl, rfl, rfl⟩, ?_, ?_⟩
    · rintro x l env M ⟨left, draws, z5, z6, z8, j, rfl, rfl, hj, el, hll, hdl⟩
      cases hm : 2600 - j with
      | zero =>
        rw [hm] at el
        cases el
      | succ m =>
        rw [hm] at el
        obtain ⟨e1, e2⟩ := List.cons.inj el
        subst e1
        refine ⟨_, rfl, ?_⟩
        array_get_dec
        refine ⟨_, rfl, ?_⟩
        array_get_dec
        refine ⟨.int (cells.length : Int), by rw [len_ref rfl, List.length_map], ?_⟩
        refine ⟨_, mod_int (by omega), ?_⟩
        refine ⟨_, rfl, ?_⟩
        have em : (j : Int) % (cells.length : Int) = ((j % cells.length : Nat) : Int) := by
          rw [Int.natCast_emod]
        rw [em]
        have hp : j % cells.length < cells.length := Nat.mod_lt _ hpos
        generalize j % cells.length = p at hp
        have hp2 : p < left.length := by omega
        have ic : ∀ dr, idxD (.ref 0) (.int (p : Int)) [Dr cells, Dr left, Dr dr] = some (.int cells[p]) := fun dr => idx_of (.inr (.inr (.inr ⟨0, rfl, rfl⟩))) (int_at hp) (by omega)
        have il : ∀ dr, idxD (.ref 1) (.int (p : Int)) [Dr cells, Dr left, Dr dr] = some (.int left[p]) := fun dr => idx_of (.inr (.inr (.inr ⟨1, rfl, rfl⟩))) (int_at hp2) (by omega)
        obtain ⟨pw, hpw⟩ := pow_ex (M := [Dr cells, Dr left, Dr draws])
        have app : ∀ x : Int, mthD .append (.ref 2) [.int x] [Dr cells, Dr left, Dr draws] = some (.non, [Dr cells, Dr left, Dr (draws ++ [x])]) := fun x => by
          have h := app_end (r := 2) (M := [Dr cells, Dr left, Dr draws]) (es := draws.map .int) (x := .int x) rfl (by rw [List.length_map]; omega)
          rw [h]
          show some (D.non, [Dr cells, Dr left, .lst (draws.map .int ++ [.int x])]) = _
          unfold Dr
          rw [List.map_append]
          rfl
        have fin2 : ∀ x : Int, (draws ++ [x]).length = j + 1 := fun x => by
          rw [List.length_append]
          simp only [List.length_cons, List.length_nil]
          omega
        have e3 : l = rangeL ((j + 1 : Nat) : Int) (2600 - (j + 1)) := by
          rw [e2]
          congr 1
          omega
        have other : wSs ⟨CC k, true⟩ (.cons (.asg (.name 8) (.bin .mod (.bi .int (.cons (.bin .add (.bin .add (.bin .mul (.idx (.var 2) (.var 6)) (.c (.int (48271)))) (.bin .mul (.var 5) (.c (.int (69621))))) (.c (.int (11)))) .nil)) (.c (.int (2147483647))))) (.cons (.expr (.mth .append (.var 4) (.cons (.bin .mod (.bi .int (.cons (.bin .add (.bin .add (.bin .mul (.var 8) (.var 8)) (.bin .mul (.c (.int (3))) (.var 8))) (.var 5)) .nil)) (.c (.int (1000003)))) .nil))) .nil))
            [some (.sc (ns.map .int)), some (.int 2600), some (.ref 0), some (.ref 1), some (.ref 2), some (.int (j : Int)), some (.int (p : Int)), none, z8] [Dr cells, Dr left, Dr draws] (fun fl => ∃ z8' x, fl = .nx [some (.sc (ns.map .int)), some (.int 2600), some (.ref 0), some (.ref 1), some (.ref 2), some (.int (j : Int)), some (.int (p : Int)), none, z8'] [Dr cells, Dr left, Dr (draws ++ [x])]) := by
          array_get_dec
          refine ⟨_, ic _, ?_⟩
          array_get_dec
          refine ⟨_, mul_r (by decide), ?_⟩
          array_get_dec
          refine ⟨_, mul_r (by decide), ?_⟩
          refine ⟨_, rfl, ?_⟩
          array_get_dec
          refine ⟨_, rfl, ?_⟩
          array_get_dec
          refine ⟨_, rfl, ?_⟩
          array_get_dec
          refine ⟨_, mod_int (by decide), ?_⟩
          have h0 := Int.emod_nonneg (cells[p] * 48271 + (j : Int) * 69621 + 11) (show (2147483647 : Int) ≠ 0 by decide)
          have h1 := Int.emod_lt_of_pos (cells[p] * 48271 + (j : Int) * 69621 + 11) (show (0 : Int) < 2147483647 by decide)
          generalize (cells[p] * 48271 + (j : Int) * 69621 + 11) % 2147483647 = mx at h0 h1
          refine ⟨_, rfl, ?_⟩
          array_get_dec
          refine ⟨rfl, ?_⟩
          array_get_dec
          refine ⟨_, mul_r (by omega), ?_⟩
          array_get_dec
          refine ⟨_, mul_r (by omega), ?_⟩
          refine ⟨_, rfl, ?_⟩
          array_get_dec
          refine ⟨_, rfl, ?_⟩
          array_get_dec
          refine ⟨_, rfl, ?_⟩
          array_get_dec
          refine ⟨_, mod_int (by decide), ?_⟩
          array_get_dec
          refine ⟨_, rfl, rfl, .non, _, app _, ?_⟩
          array_get_dec
          exact ⟨_, _, rfl⟩
        array_get_dec
        refine ⟨_, ic _, ?_⟩
        array_get_dec
        refine ⟨_, hpw, ?_⟩
        refine ⟨decide (pw ≤ cells[p]), rfl, ?_⟩
        by_cases c1 : pw ≤ cells[p]
        · rw [if_pos (decide_eq_true c1)]
          array_get_dec
          refine ⟨_, il _, ?_⟩
          array_get_dec
          refine ⟨decide (0 < left[p]), rfl, ?_⟩
          by_cases c2 : 0 < left[p]
          · rw [if_pos (decide_eq_true c2)]
            array_get_dec
            refine ⟨rfl, ?_⟩
            array_get_dec
            refine ⟨_, il _, ?_⟩
            array_get_dec
            refine ⟨_, rfl, ?_⟩
            array_get_dec
            refine ⟨_, mod_int (by decide), ?_⟩
            array_get_dec
            refine ⟨_, rfl, rfl, .non, _, app _, ?_⟩
            array_get_dec
            refine ⟨_, il _, ?_⟩
            array_get_dec
            refine ⟨_, fdiv_i (by decide), ?_⟩
            refine ⟨_, rfl, ?_⟩
            array_get_dec
            refine ⟨_, set_at (r := 1) (es := left.map .int) rfl (by rw [List.length_map]; exact hp2) (by omega), ?_⟩
            rw [set_map]
            array_get_dec
            exact ⟨left.set p _, _, _, _, _, j + 1, rfl, rfl, by omega, e3, by rw [List.length_set]; exact hll, fin2 _⟩
          · rw [if_neg fun z => c2 (of_decide_eq_true z)]
            refine wSs.mono other fun fl h => ?_
            obtain ⟨z8', x, rfl⟩ := h
            array_get_dec
            exact ⟨left, _, _, _, _, j + 1, rfl, rfl, by omega, e3, hll, fin2 x⟩
        · rw [if_neg fun z => c1 (of_decide_eq_true z)]
          rw [if_neg (by decide)]
          refine wSs.mono other fun fl h => ?_
          obtain ⟨z8', x, rfl⟩ := h
          array_get_dec
          exact ⟨left, _, _, _, _, j + 1, rfl, rfl, by omega, e3, hll, fin2 x⟩
    · rintro env M ⟨left, draws, z5, z6, z8, j, rfl, rfl, hj, el, hll, hdl⟩
      array_get_dec
      refine ⟨rfl, ?_⟩
      array_get_dec
      refine ⟨_, rfl, rfl, .non, [Dr cells, Dr left, Dr draws.reverse], ?_, ?_⟩
      · show some (D.non, [Dr cells, Dr left, .lst (draws.map .int).reverse]) = _
        unfold Dr
        rw [List.map_reverse]
      array_get_dec
      exact ⟨_, out_ref (by decide) rfl (vals_ints _), h _⟩
  split
  · array_get_dec
    refine ⟨rfl, ?_⟩
    array_get_dec
    have h0 : cells = [] := List.length_eq_zero_iff.mp (by have := of_decide_eq_true ‹_›; omega)
    subst h0
    refine ⟨_, rfl, rfl, .non, [Dr [0]], rfl, ?_⟩
    refine vS_nil (vaft_nx ?_)
    exact rest [0] (by simp) (by decide)
  · refine vS_nil (vaft_nx ?_)
    exact rest cells (fun z => by subst z; rename_i hh; exact hh rfl) hc
end Z
end
section
set_option Elab.async false
set_option linter.all false
set_option maxRecDepth 100000
set_option maxHeartbeats 4000000
set_option autoImplicit false
/-! The law. -/
namespace Z
open PySem
local macro_rules | `(tactic| array_mem_dec) => `(tactic| first
  | with_reducible refine vE_c ?_ | with_reducible refine vE_nope ?_ | with_reducible refine vE_var (by with_unfolding_all rfl) ?_ | with_reducible refine vE_bin ?_ | with_reducible refine vE_neg ?_ | with_reducible refine vE_cmp ?_ | with_reducible refine vE_not ?_ | with_reducible refine vE_and ?_ | with_reducible refine vE_or ?_ | with_reducible refine vE_ite ?_
  | with_reducible refine vE_tup ?_ | with_reducible refine vE_lst ?_ | with_reducible refine vE_nil ?_ | with_reducible refine vE_cons ?_ | with_reducible refine vE_idx ?_ | with_reducible refine vE_sli ?_ | with_reducible refine vE_mat ?_ | with_reducible refine vE_call ?_ | with_reducible refine vE_bi (by with_unfolding_all rfl) ?_ | with_reducible refine vE_mth ?_ | with_reducible refine vE_isi ?_
  | with_reducible refine vT_nope ?_ | with_reducible refine vT_var (by with_unfolding_all rfl) ?_ | with_reducible refine vT_cmp ?_ | with_reducible refine vT_not ?_ | with_reducible refine vT_and ?_ | with_reducible refine vT_or ?_ | with_reducible refine vT_call ?_ | with_reducible refine vT_bi (by with_unfolding_all rfl) ?_ | with_reducible refine vT_isi ?_ | with_reducible refine vT_idx ?_
  | with_reducible refine vI_seq ?_ | with_reducible refine vI_rng ?_
  | with_reducible refine vS_nil ?_ | with_reducible refine vS_skip ?_ | with_reducible refine vS_expr ?_ | with_reducible refine vS_asg ?_ | with_reducible refine vS_asgT ?_ | with_reducible refine vS_sub ?_ | with_reducible refine vS_ret ?_ | with_reducible refine vS_brk ?_ | with_reducible refine vS_cont ?_ | with_reducible refine vS_ife ?_ | with_reducible refine vS_for ?_
  | with_reducible refine vaft_nx ?_ | with_reducible refine vaft_rt ?_ | with_reducible refine vaft_bk ?_ | with_reducible refine vaft_ct ?_ | with_reducible refine vturn_nx ?_ | with_reducible refine vturn_ct ?_ | with_reducible refine vturn_bk ?_ | with_reducible refine vturn_rt ?_ | with_reducible refine vfin_rtQ ?_ | with_reducible refine vfin_nxQ ?_)
local macro_rules | `(tactic| array_get_dec) => `(tactic| repeat (first
  | with_reducible refine vE_c ?_ | with_reducible refine vE_nope ?_ | with_reducible refine vE_var (by with_unfolding_all rfl) ?_ | with_reducible refine vE_bin ?_ | with_reducible refine vE_neg ?_ | with_reducible refine vE_cmp ?_ | with_reducible refine vE_not ?_ | with_reducible refine vE_and ?_ | with_reducible refine vE_or ?_ | with_reducible refine vE_ite ?_
  | with_reducible refine vE_tup ?_ | with_reducible refine vE_lst ?_ | with_reducible refine vE_nil ?_ | with_reducible refine vE_cons ?_ | with_reducible refine vE_idx ?_ | with_reducible refine vE_sli ?_ | with_reducible refine vE_mat ?_ | with_reducible refine vE_call ?_ | with_reducible refine vE_bi (by with_unfolding_all rfl) ?_ | with_reducible refine vE_mth ?_ | with_reducible refine vE_isi ?_
  | with_reducible refine vT_nope ?_ | with_reducible refine vT_var (by with_unfolding_all rfl) ?_ | with_reducible refine vT_cmp ?_ | with_reducible refine vT_not ?_ | with_reducible refine vT_and ?_ | with_reducible refine vT_or ?_ | with_reducible refine vT_call ?_ | with_reducible refine vT_bi (by with_unfolding_all rfl) ?_ | with_reducible refine vT_isi ?_ | with_reducible refine vT_idx ?_
  | with_reducible refine vI_seq ?_ | with_reducible refine vI_rng ?_
  | with_reducible refine vS_nil ?_ | with_reducible refine vS_skip ?_ | with_reducible refine vS_expr ?_ | with_reducible refine vS_asg ?_ | with_reducible refine vS_asgT ?_ | with_reducible refine vS_sub ?_ | with_reducible refine vS_ret ?_ | with_reducible refine vS_brk ?_ | with_reducible refine vS_cont ?_ | with_reducible refine vS_ife ?_ | with_reducible refine vS_for ?_
  | with_reducible refine vaft_nx ?_ | with_reducible refine vaft_rt ?_ | with_reducible refine vaft_bk ?_ | with_reducible refine vaft_ct ?_ | with_reducible refine vturn_nx ?_ | with_reducible refine vturn_ct ?_ | with_reducible refine vturn_bk ?_ | with_reducible refine vturn_rt ?_ | with_reducible refine vfin_rtQ ?_ | with_reducible refine vfin_nxQ ?_))
variable {M : Mem} {X : Ex} {k : Nat}
theorem flat_words : ∀ t ∈ flatL, SeqAt.shaped (.str t) = true ∧ (t = "" ∨ t ∈ wordsC) := by
  have h : (flatL.all fun t => SeqAt.shaped (.str t) && decide (t = "" ∨ t ∈ wordsC)) = true := by decide +kernel
  intro t ht
  have h1 := band (List.all_eq_true.mp h t ht)
  exact ⟨h1.1, of_decide_eq_true h1.2⟩
theorem no_false {ys : List D} (h : ∀ y ∈ ys, y = .bl true) : memD (.bl false) (.fl ys) M = some false := by
  have e : ys = ys.map fun x => D.bl ((fun _ => true) x) := by
    induction ys with
    | nil => rfl
    | cons a l ih =>
      rw [List.map_cons, ← ih fun y hy => h y (List.mem_cons_of_mem _ hy), h a List.mem_cons_self]
  rw [e, mem_false, List.all_eq_true.mpr fun _ _ => rfl]
  rfl
theorem mul_tup {x : D} {m : Nat} (h : 2 ≤ m ∧ m ≤ 1000) : binD .mul (.tup [x]) (.int (m : Int)) M = some (.tup (List.replicate m x)) := by
  show (if !([x] : List D).isEmpty && (decide (2 ≤ (m : Int)) && (decide ((m : Int) ≤ 1000) && decide (([x] : List D).length ≤ 1000))) then some (D.tup (List.replicate (m : Int).toNat [x]).flatten) else none) = _
  rw [if_pos (by simp; omega), Int.toNat_natCast, List.flatten_replicate_singleton]
theorem no_falseC {ys : List D} (h : ∀ y ∈ ys, y = .bl true) : cmpD .mem (.bl false) (.fl ys) M = some false := no_false (M := M) h
theorem no_falseN {ys : List D} (h : ∀ y ∈ ys, y = .bl true) : cmpD .nmem (.bl false) (.fl ys) M = some true := by
  show (memD (.bl false) (.fl ys) M).map not = _
  rw [no_false h]
  rfl
def lawW : Ss := (.cons (.asg (.name 7) (.call "_law_plain_claim" (.cons (.var 1) (.cons (.var 2) .nil)))) (.cons (.ife (.or (.cmp .isn (.call "judge_claim" (.cons (.var 7) .nil)) (.c (.bl true))) (.not (.call "_law_same" (.cons (.call "opposite_of" (.cons (.var 7) .nil)) (.cons (.call "_law_opposite" (.cons (.var 7) .nil)) .nil))))) (.cons (.ret (.c (.bl false))) .nil) .nil) (.cons (.ife (.cmp .mem (.c (.bl false)) (.comp [9] (.rng (.c (.int (0))) (.c (.int (4)))) .nope (.call "_law_good" (.cons (.call "_law_near" (.cons (.var 1) (.cons (.var 7) .nil))) .nil)) [9])) (.cons (.ret (.c (.bl false))) .nil) .nil) .nil)))
theorem m_lawW {ns : List Int} {t : Str} {sc : D} {z7 : Option D} (ht : t ∈ wordsC) {Q : Fl → Prop} (hQ : ∀ ns' z7, Q (.nx [some sc, some (.ref 0), some (.str t), none, none, none, none, z7, none, none] [Dr ns'])) :
    wSs ⟨CC (k + 9), true⟩ lawW [some sc, some (.ref 0), some (.str t), none, none, none, none, z7, none, none] [Dr ns] Q := by
  unfold lawW
  array_get_dec
  refine ⟨_, rfl, ?_⟩
  refine inv_dr (m_plain_claim (k := k + 5) ht) rfl rfl fun v ns1 hv => ?_
  obtain ⟨n, mk, rs, rfl, hn, hrl, hj, hd, _⟩ := hv.ex
  have hvv := pc_val hv
  have hq := dq_tup.mp hd
  have hdm : dm 6 (.tup (.str t :: .int n :: .tup mk :: rs)) = true := dq_dm (by decide) (by decide) hd
  have hrest : D.vals (.int n :: .tup mk :: rs) = true := hvv
  have hrl2 : (D.int n :: .tup mk :: rs).length ≤ 1000 := by
    simp only [List.length_cons]
    omega
  obtain ⟨_, _, hopp⟩ := opp_same t ht
  refine ⟨_, rfl, ?_⟩
  array_get_dec
  refine ⟨_, rfl, ?_⟩
  refine m_judge (k := k + 1) hdm (by decide) ?_
  array_get_dec
  rw [hj]
  refine ⟨false, rfl, ?_⟩
  rw [if_neg (by decide)]
  array_get_dec
  refine ⟨_, rfl, ?_⟩
  refine m_opposite_of (k := k + 8) ht hrest hrl2 ?_
  array_get_dec
  refine ⟨_, rfl, ?_⟩
  refine m_law_opposite (k := k + 7) ht hrest hrl2 ?_
  array_get_dec
  have hov := opp_val (o := opp t) hrest
  refine ⟨_, frzs_vals (by show ((oppV (opp t) _).val && ((oppV (opp t) _).val && true)) = true; rw [hov]; rfl), ?_⟩
  have go : ∀ {Q : D → Mem → Prop} {X : Ex}, Q (.bl true) [Dr ns1] → wR (inv (CC (k + 9)) "_law_same" [oppV (opp t) (.int n :: .tup mk :: rs), oppV (opp t) (.int n :: .tup mk :: rs)] [Dr ns1]) Q X := by
    intro Q X hQ
    cases eo : opp t with
    | none => exact same_leaf (k := k + 8) (.inl rfl) hQ
    | some u =>
      have hu := hopp u eo
      refine m_same (k := k + 2) 6 (dq_dm (L := 24) (B := 1000001) (by decide) (by decide) (dq_tup.mpr ⟨fun y hy => ?_, ?_⟩)) hQ
      · rcases List.mem_cons.mp hy with rfl | hy
        · exact dq_str.mpr hu
        · exact hq.1 y (List.mem_cons_of_mem _ hy)
      · simp only [List.length_cons]
        omega
  refine go ?_
  refine ⟨true, rfl, ?_⟩
  rw [if_neg (by decide)]
  array_get_dec
  refine comp_dr (P := fun d => d = .bl true) (Lp := fun l => l = 4) (fun l h => by omega) ?_ ?_ ?_
  · array_get_dec
    exact ⟨0, 4, rfl, rfl, by decide, fun _ => rfl, rfl, _, rfl⟩
  · intro x ns2
    array_get_dec
    refine ⟨_, rfl, ?_⟩
    refine inv_dr (m_near (k := k + 5) ht hv) (by show ((D.tup _).val && true) = true; rw [hvv]; rfl) rfl fun v ns3 hb => ?_
    array_get_dec
    refine ⟨[v], frzs_vals (dms_val hb), ?_⟩
    refine m_good (k := k) hb (by decide) ?_
    exact ⟨_, rfl, rfl, _, rfl⟩
  · intro ns2 ys hl hy
    refine ⟨_, no_falseC hy, ?_⟩
    rw [if_neg (by decide)]
    array_get_dec
    exact hQ _ _
theorem law_split : ∃ r, k75_b_law = .cons (.asg (.name 1) (.mat (.call "_law_draws" (.cons (.var 0) (.cons (.c (.int (2600))) .nil))))) (.cons (.for_ [2] (.seq (.call "_law_flat" (.cons (.call "_law_words" .nil) .nil))) (.cons (.ife (.cmp .ne (.var 2) (.c (.str ""))) lawW .nil) .nil)) r) := ⟨_, rfl⟩
def lawR : Ss := match k75_b_law with
  | .cons _ (.cons _ r) => r
  | _ => .nil
theorem law_split2 : k75_b_law = .cons (.asg (.name 1) (.mat (.call "_law_draws" (.cons (.var 0) (.cons (.c (.int (2600))) .nil))))) (.cons (.for_ [2] (.seq (.call "_law_flat" (.cons (.call "_law_words" .nil) .nil))) (.cons (.ife (.cmp .ne (.var 2) (.c (.str ""))) lawW .nil) .nil)) lawR) := rfl
theorem m_lawR {ns : List Int} {sc : D} {z2 z7 : Option D} : wSs ⟨CC (k + 9), true⟩ lawR [some sc, some (.ref 0), z2, none, none, none, none, z7, none, none] [Dr ns] (finQ (fun v _ => v = .bl true) noE) := by
  unfold lawR k75_b_law
  dsimp only
  array_get_dec
  refine ⟨_, rfl, ?_⟩
  refine inv_dr (m_take (by decide)) rfl rfl fun v ns1 hv1 => ?_
  obtain ⟨j, rfl, hj⟩ := hv1
  refine ⟨_, rfl, ?_⟩
  refine ⟨_, rfl, ?_⟩
  have hn : 1 ≤ (1 : Int) + (j : Int) ∧ (1 : Int) + (j : Int) ≤ 12 := by omega
  generalize (1 : Int) + (j : Int) = n at hn
  array_get_dec
  refine ⟨_, rfl, ?_⟩
  refine inv_dr (m_exchange (k := k + 6) (by omega)) rfl rfl fun p ns2 hp => ?_
  have hpd : dm 19 p = true := dq_dm19 (x_dq hn hp) (by decide)
  obtain ⟨ps, rfl, hps⟩ := hp
  refine ⟨_, rfl, ?_⟩
  array_get_dec
  refine ⟨_, rfl, ?_⟩
  refine inv_dr (m_take (by decide)) rfl rfl fun v ns3 hv3 => ?_
  obtain ⟨i, rfl, hi⟩ := hv3
  refine ⟨_, rfl, ?_⟩
  refine ⟨_, rfl, ?_⟩
  have hm : 23 + i ≤ 25 := by omega
  have em : (23 : Int) + (i : Int) = ((23 + i : Nat) : Int) := by omega
  rw [em]
  have hn19 : dm 19 (.int n) = true := decide_eq_true (by omega)
  have hrep : dm 20 (.tup (List.replicate (23 + i) (.tup (ps.map .int)))) = true := dm_tup.mpr ⟨fun y hy => by rw [List.eq_of_mem_replicate hy]; exact hpd, by rw [List.length_replicate]; omega⟩
  have up : ∀ {m : Nat} {d : D}, m ≤ 30 → dm m d = true → dm 30 d = true := by
    intro m d hm h
    have key : ∀ (m : Nat) (d : D), dm m d = true → ∀ m', m ≤ m' → dm m' d = true := by
      intro m
      induction m with
      | zero =>
        intro d h m' hm
        rcases dm_cases h with ⟨i, rfl⟩ | ⟨s, rfl⟩ | ⟨ds, q, rfl, e, _⟩
        · cases m' <;> exact h
        · cases m' <;> exact h
        · cases e
      | succ m ih =>
        intro d h m' hm
        rcases dm_cases h with ⟨i, rfl⟩ | ⟨s, rfl⟩ | ⟨ds, q, rfl, e, _⟩
        · cases m' <;> exact h
        · cases m' <;> exact h
        · obtain ⟨q', rfl⟩ : ∃ q', m' = q' + 1 := ⟨m' - 1, by omega⟩
          have h' := dm_tup.mp h
          exact dm_tup.mpr ⟨fun y hy => ih y (h'.1 y hy) q' (by omega), h'.2⟩
    exact key m d h 30 hm
  have t5 : ∀ l : List D, (∀ y ∈ l, dm 30 y = true) → l.length ≤ 1000 → dm 31 (.tup l) = true := fun l h1 h2 => dm_tup.mpr ⟨h1, h2⟩
  have one : dm 20 (.tup [.tup (ps.map .int)]) = true := dm_tup.mpr ⟨fun y hy => by rw [List.mem_singleton.mp hy]; exact hpd, by simp⟩
  array_get_dec
  refine ⟨_, rfl, Nat.le_of_ble_eq_true rfl, ?_⟩
  array_get_dec
  refine ⟨_, mul_tup (by omega), ?_⟩
  array_get_dec
  refine ⟨_, rfl, Nat.le_of_ble_eq_true rfl, ?_⟩
  array_get_dec
  refine ⟨_, rfl, ?_⟩
  refine m_good (k := k) (n := 31) (t5 _ (fun y hy => ?_) (by simp)) (by decide) ?_
  · simp only [List.mem_cons, List.not_mem_nil, or_false] at hy
    rcases hy with rfl | rfl | rfl
    · decide +kernel
    · exact up (by decide) hn19
    · exact up (by decide) hrep
  refine ⟨true, rfl, ?_⟩
  rw [if_neg (by decide)]
  array_get_dec
  refine ⟨_, rfl, Nat.le_of_ble_eq_true rfl, ?_⟩
  array_get_dec
  refine ⟨_, rfl, Nat.le_of_ble_eq_true rfl, ?_⟩
  array_get_dec
  refine ⟨_, mul_tup (by omega), ?_⟩
  array_get_dec
  refine ⟨_, rfl, Nat.le_of_ble_eq_true rfl, ?_⟩
  array_get_dec
  refine ⟨_, rfl, ?_⟩
  refine m_good (k := k) (n := 31) (t5 _ (fun y hy => ?_) (by simp)) (by decide) ?_
  · simp only [List.mem_cons, List.not_mem_nil, or_false] at hy
    rcases hy with rfl | rfl | rfl | rfl
    · decide +kernel
    · exact up (by decide) hn19
    · exact up (by decide) one
    · exact up (by decide) hrep
  refine ⟨true, rfl, ?_⟩
  rw [if_neg (by decide)]
  array_get_dec
  repeat (first
    | (refine ⟨_, rfl, Nat.zero_le _, ?_⟩; array_get_dec)
    | (refine ⟨_, rfl, Nat.le_of_ble_eq_true rfl, ?_⟩; array_get_dec)
    | (refine ⟨_, rfl, ?_⟩; array_get_dec))
  refine comp_pure (F0 := fun _ => .bl true) ?_ (vI_seq (vE_var (by rfl) ⟨_, rfl, rfl, rfl, rfl⟩)) ?_ ?_
  · exact Nat.le_of_ble_eq_true rfl
  · intro x hx
    have hx30 : dm 30 x = true := by
      simp only [List.mem_append, List.mem_cons, List.not_mem_nil, or_false, or_assoc] at hx
      rcases hx with rfl | rfl | rfl | rfl | rfl | rfl | rfl | rfl | rfl | rfl | rfl | rfl | rfl | rfl | rfl | rfl | rfl | rfl | rfl | rfl
      all_goals first
        | decide +kernel
        | exact dm_tup.mpr ⟨fun y hy => by
            simp only [List.mem_cons, List.not_mem_nil, or_false] at hy
            rcases hy with rfl | rfl | rfl
            · decide +kernel
            · exact decide_eq_true (by omega)
            · exact dq_dm (L := 24) (B := 1000001) (by decide) (by decide) (dq_mono (Nat.le_refl _) (Nat.le_refl _) (by decide) (x_dq hn ⟨ps, rfl, hps⟩)), Nat.le_of_ble_eq_true rfl⟩
        | exact dm_tup.mpr ⟨fun y hy => by
            simp only [List.mem_cons, List.not_mem_nil, or_false] at hy
            rcases hy with rfl | rfl
            · decide +kernel
            · exact decide_eq_true (by omega), Nat.le_of_ble_eq_true rfl⟩
    array_get_dec
    refine ⟨[x], frzs_vals (dms_val hx30), ?_⟩
    refine m_good (k := k) hx30 (by decide) ⟨rfl, rfl⟩
  · refine ⟨_, no_falseN fun y hy => ?_, ?_⟩
    · obtain ⟨_, _, rfl⟩ := List.mem_map.mp hy
      rfl
    array_get_dec
    exact rfl
theorem m_law (ns : List Int) : wR (CC (k + 10) "law" [.sc (ns.map .int)] []) (fun v _ => v = .bl true) noE := by
  refine C_w k75_l_law rfl ?_
  show wSs _ k75_b_law [some (.sc (ns.map .int)), none, none, none, none, none, none, none, none, none] _ _
  rw [law_split2]
  array_get_dec
  refine ⟨_, rfl, ?_⟩
  refine m_draws (k := k + 8) fun ns1 => ?_
  refine ⟨_, rfl, ?_⟩
  refine ⟨_, rfl, ?_⟩
  array_get_dec
  refine ⟨_, rfl, ?_⟩
  refine m_words (k := k + 8) ?_
  array_get_dec
  refine ⟨_, rfl, ?_⟩
  refine m_flat (k := k + 8) ?_
  refine ⟨_, rfl, ?_⟩
  refine ⟨fun l env M => ∃ (ws : List Str) (ns' : List Int) (z2 z7 : Option D), env = [some (.sc (ns.map .int)), some (.ref 0), z2, none, none, none, none, z7, none, none] ∧ M = [Dr ns'] ∧ l = ws.map .str ∧ ∀ t ∈ ws, t ∈ flatL, fun _ _ _ _ => rfl, ⟨flatL, ns1, _, _, rfl, rfl, rfl, fun t ht => ht⟩, ?_, ?_⟩
  · rintro x l env M ⟨ws, ns', z2, z7, rfl, rfl, e, hws⟩
    cases ws with
    | nil => cases e
    | cons t ws =>
      obtain ⟨e1, e2⟩ := List.cons.inj e
      subst e1
      obtain ⟨hsh, hw⟩ := flat_words t (hws t List.mem_cons_self)
      have hws' : ∀ t ∈ ws, t ∈ flatL := fun t ht => hws t (List.mem_cons_of_mem _ ht)
      refine ⟨_, rfl, ?_⟩
      array_get_dec
      refine ⟨!(decide (t = "")), ?_, ?_⟩
      · show (eqD (.str t) (.str "") [Dr ns']).map not = _
        rw [eq_str hsh (sh "")]
        rfl
      by_cases h0 : t = ""
      · rw [if_neg (by simp [h0])]
        array_get_dec
        exact ⟨ws, ns', _, _, rfl, rfl, e2, hws'⟩
      · rw [if_pos (by simp [h0])]
        rcases hw with hw | hw
        · exact absurd hw h0
        · refine m_lawW hw fun ns2 z7' => ?_
          array_get_dec
          exact ⟨ws, ns2, _, _, rfl, rfl, e2, hws'⟩
  · rintro env M ⟨ws, ns', z2, z7, rfl, rfl, e, hws⟩
    exact m_lawR
theorem k75_true (ns : List Int) : ∃ M, callK k75_P true 10 "law" [.sc (ns.map .int)] [] = some (.ok (.bl true) M) := by
  obtain ⟨v, M, e, rfl⟩ := wR.ok (m_law (k := 0) ns)
  rw [CC_eq] at e
  exact ⟨M, e⟩
end Z
end
section
set_option Elab.async false
set_option linter.all false
set_option maxRecDepth 100000
set_option maxHeartbeats 0
namespace Z
open PySem PySem.Spec PyProof.Rows L2
abbrev k75_R : PySem.W.OpenRow := PySem.W.OpenLaw.row PySem.Challenge.rw_exchangetowers_k75_claims_judged
abbrev k75_hk : PySem.W.Hook := hookZ 4 k75_gl (fnsOf k75_p) (tabsOf k75_gl)
def k75_ob (s : PySem.W.SharedT) : AlZ := obsZG 4 k75_gl (fnsOf k75_p) (tabsOf k75_gl) (HandSHeadRun.getT s)
theorem k75_ob_eq (s : PySem.W.SharedT) : k75_ob s = k75_hk.obs s.abs := obsZG_eq (HandSHeadRun.getT_eq s)
def k75_loose : List Str := (k75_gl.map (·.1)).filter fun x => !(x == ("law" : Str))
theorem k75_run2 (b : Bool) (w : World) : HandSHeadRun.RunEq k75_R (PySem.W.view k75_R.prog [48]) k75_hk k75_ob 3000 k75_loose (w.withFollow "special-get-raises" b) := by
  cases b with
  | false =>
    intro os
    kernel_rfl
  | true =>
    intro os
    kernel_rfl
theorem k75_run (w : World) : HandSHeadRun.RunEq k75_R (PySem.W.view k75_R.prog [48]) k75_hk k75_ob 3000 k75_loose w := by
  have h := k75_run2 (w.params.followText "special-get-raises") w
  rwa [World.withFollow_self] at h
theorem k75_hints : hintsOk k75_p k75_hn = true := by kernel_rfl
def k75_gg : Bool := k75_hn.all fun h => match k75_gl.lookup h.f with | some .fn => true | _ => false
def k75_gf : Bool := k75_gl.all fun p => match p.2 with | .fn => k75_hn.any fun h => h.f == p.1 | _ => true
theorem k75_gg_ok : k75_gg = true := by kernel_rfl
theorem k75_gf_ok : k75_gf = true := by kernel_rfl
theorem k75_some : (cAll k75_p k75_gl k75_hn).isSome = true := by kernel_rfl
end Z
end
section
set_option Elab.async false
set_option linter.all false
set_option maxRecDepth 100000
set_option maxHeartbeats 0
namespace Z
open PySem PySem.Spec PyProof.Rows L2
theorem ints_reps {K : PySem.W.Frag} {w : World} {as F : List Addr} {H : Hp} : ∀ ns : List Int, Reps K w as F H (ns.map V.int) (ns.map D.int)
  | [] => .nil
  | n :: ns => .cons (.int n) (ints_reps ns)
/-- the law's promise from what the evaluator gives -/
theorem law_sp {K : PySem.W.Frag} {w : World} {mg : Str → Option Value} {Fn_ : Fn} {f : Str} {H : Hp} {a : Addr} {ns : List Int} {M : Mem} (h : Fn_ f [.sc (ns.map .int)] [] = some (.ok (.bl true) M)) (hO : Only H) (hS : SqL K H a (ns.map V.int)) :
    spR K w mg Fn_ f 1 [.ref a] H (fun v _ => v = .bl true) fun _ _ _ => False := by
  have hs : ScL K H a (ns.map V.int) := by
    rcases hS with (hS | ⟨o, hS⟩) | hS
    · rcases hO a with q | ⟨o, xs, q⟩
      · rw [q] at hS
        cases hS
      · rw [q] at hS
        cases hS
    · exact .inl ⟨o, hS⟩
    · exact .inr hS
  refine ⟨rfl, [], [], [], _, _, ⟨rfl, .nil, fun a ha => (by cases ha), fun n a o e => (by simp at e)⟩, .cons (.sc hs (ints_reps ns)) .nil, h, fun d M' e as' H' v L hM hr => ?_, fun c p M' e => (by cases e)⟩
  cases e
  cases hr with
  | val hr =>
    cases hr
    rfl
end Z
namespace Z
open PySem PySem.Spec PyProof.Rows L2
/-- how an exception lies, at whatever world -/
def CXw (P : Program) : CXT := fun outer H s E u s' => ∃ w, L2.CX P w outer H s E u s'
theorem fn_w {P : Program} {w : World} {K : PySem.W.Frag} {mg : Str → Option Value} {base : Heap} {k : Nat} {f : Addr} {fd : FuncData} {ps : List Str} {sp : Sp} (F : FnOk P w K mg base (L2.CX P w) k f fd ps sp) : FnOk P w K mg base (CXw P) k f fd ps sp :=
  ⟨F.len, fun A outer s H args us vs Q E hr he hb hv hs => codeAny_mono (F.run A outer s H args us vs Q E hr he hb hv hs) fun r s' q => by
    cases r with
    | error e => exact ⟨w, q⟩
    | ok fl => cases fl <;> exact q⟩
theorem cxw_no {P : Program} (H : Hp) (s : Shared) (e : Value) (s' : Shared) (h : CXw P [] H s (fun _ _ _ => False) e s') : False := by
  obtain ⟨w, _, _, _, _, _, _, _, _, _, _, _, _, q⟩ := h
  exact q
end Z
open PySem PySem.W PySem.Calls PyProof.Rows
abbrev Z.k75_Q : Program := PySem.W.view Z.k75_R.prog [48]
abbrev Z.k75_d : DefRec := HandSHeadRun.topDef Z.k75_R.prog 48
theorem Z.k75_1 : opening Z.k75_R.prog = plainProg Z.k75_R.prog.main.scope.names := by kernel_rfl
theorem Z.k75_2 (s : Shared) : fenceModules? Z.k75_R.prog s = some s := by kernel_rfl
theorem Z.k75_3 : PySem.W.defOf Z.k75_Q Z.k75_R.name = some (Z.k75_d, []) := by kernel_rfl
theorem Z.k75_4 : Z.k75_R.prog.theDef Z.k75_R.name = some (Z.k75_d.params, Z.k75_d.body, Z.k75_d.scope) := by kernel_rfl
theorem Z.k75_5 : kwWritten? Z.k75_d.params.kwonlyargs Z.k75_d.params.kw_defaults = some [] := by kernel_rfl
theorem Z.k75_6 : (!Z.k75_R.writes || Z.k75_R.records.isEmpty) = true := by rfl
theorem Z.k75_7 : Z.k75_R.wellSaid = true := by decide +kernel
theorem Z.k75_8 : (chainsOk Z.k75_Q && opensWell Z.k75_R.prog && (frees Z.k75_R.toRowW && Z.k75_R.within.isEmpty)) = true := by decide +kernel
theorem Z.k75_9 : Z.k75_R.prog.bare := ⟨rfl, rfl, rfl, rfl, rfl, by decide +kernel⟩
theorem Z.k75_0 : Z.k75_R.toRowW.promised := by w_witness2
theorem Z.k75_dn : Z.k75_d.name = ("law" : PySem.Str) := by kernel_rfl
theorem Z.k75_df : Z.k75_d.params.defaults = [] := by kernel_rfl
theorem Z.k75_nm : Z.k75_R.prog = Z.k75_p := rfl
namespace Z
open PySem PySem.Spec PyProof.Rows L2
theorem k75_law_in : ∃ h ∈ k75_hn, h.f = ("law" : Str) ∧ h.N.take h.ps = [("script" : Str)] := by
  have e : (k75_hn.any fun h => decide (h.f = ("law" : Str)) && decide (h.N.take h.ps = [("script" : Str)])) = true := by kernel_rfl
  obtain ⟨h, h1, h2⟩ := List.any_eq_true.mp e
  have h3 := band h2
  exact ⟨h, h1, of_decide_eq_true h3.1, of_decide_eq_true h3.2⟩
theorem k75_F (P : Prg) (hP : cAll k75_p k75_gl k75_hn = some P) (k : Nat) (pure_ : ∀ ns : List Int, ∃ M, callK P true k "law" [.sc (ns.map .int)] [] = some (.ok (.bl true) M)) (w : World) (mg : Str → Option Value) (fa : Addr) (h : Heap) (Y : k75_hk.says w h) (G : h.Ns mainGlobals mg) (hfa : mg ("law" : Str) = some (.ref fa)) :
    ∃ (K : PySem.W.Frag) (fd : FuncData) (sp : Sp), K.In h ∧ (∀ (s : Shared) (u : Value), BindsTo s fd ⟨[u], []⟩ [(("script" : Str), u)]) ∧
        (∀ (H : Hp) (a : Addr) (ns : List Int), ns.length ≤ 63 → Only H → SqL K H a (ns.map V.int) → sp [.ref a] H (fun v _ => v = .bl true) fun _ _ _ => False) ∧
        ∀ base : Heap, K.In base → base.Ns mainGlobals mg → FnOk k75_R.prog w K mg base (CXw k75_R.prog) k fa fd [("script" : Str)] sp := by
  obtain ⟨K, KX, c⟩ := Y
  have gls := gls_ok KX G c
  have hgf : ∀ f, k75_gl.lookup f = some .fn → ∃ h ∈ k75_hn, h.f = f := fun f hf => by
    have h1 := List.all_eq_true.mp k75_gf_ok _ (PySem.mem_of_lookup hf)
    obtain ⟨h, h2, h3⟩ := List.any_eq_true.mp h1
    exact ⟨h, h2, eq_of_beq h3⟩
  have hgg : ∀ h ∈ k75_hn, k75_gl.lookup h.f = some .fn := fun h hh => by
    have h1 := List.all_eq_true.mp k75_gg_ok h hh
    split at h1
    · rename_i e
      exact e
    · cases h1
  have hnd : ∀ h ∈ k75_hn, ∀ h' ∈ k75_hn, h.f = h'.f → h = h' := by
    have nd : (k75_hn.map (·.f)).Nodup := of_decide_eq_true (band (band k75_hints).2).1
    intro h h1 h' h2 e
    obtain ⟨i, hi, e1⟩ := List.getElem_of_mem h1
    obtain ⟨j, hj, e2⟩ := List.getElem_of_mem h2
    have := nd_ix (i := i) (j := j) (x := h.f) nd (by rw [List.getElem?_map, List.getElem?_eq_getElem hi, e1]; rfl) (by rw [List.getElem?_map, List.getElem?_eq_getElem hj, e2, e]; rfl)
    subst this
    rw [← e1, e2]
  have dfs := defsZ (p := k75_p) KX G c k75_hints hgg
  obtain ⟨hl, h1, h2, h3⟩ := k75_law_in
  have all := fun base => defs_ok (prog := k75_R.prog) (w := w) (base := base) hP hnd hgf dfs gls k hl h1
  obtain ⟨a, name, qual, params, body, scope, dV, kV, doc, pm, cdv, ct, oc, an, od, osl, g1, g2, g3, g4, g5, g6, g7, g8⟩ := dfs hl h1
  rw [h2] at g2
  rw [hfa] at g2
  cases g2
  rw [h3] at g6
  refine ⟨K, PySem.W.fnOf name qual params body scope dV kV doc pm an cdv ct, spR K w mg (callK P true k) "law" 1, KX, fun s u => .of_eq (g6 [u] rfl), fun H a ns hn hO hS => ?_, fun base hb hbn => ?_⟩
  · obtain ⟨M, hM⟩ := pure_ ns
    exact law_sp hM hO hS
  · obtain ⟨a', fd', e1, ⟨oc', od', osl', e2⟩, e3, e4, e5, e6⟩ := all base
    rw [h2, hfa] at e1
    cases e1
    rw [g3] at e2
    cases e2
    rw [h3, h2] at e5
    exact fn_w e5
end Z

open PySem PySem.W PySem.Calls PyProof.Rows
theorem Z.k75_walk (P : Z.Prg) (hP : Z.cAll Z.k75_p Z.k75_gl Z.k75_hn = some P) (k : Nat) (hk : L2.Room k callerA) (pure_ : ∀ ns : List Int, ∃ M, Z.callK P true k "law" [.sc (ns.map .int)] [] = some (.ok (.bl true) M)) :
    WalkO Z.k75_Q Z.k75_loose (XL Z.k75_Q []) Z.k75_hk.says Z.k75_R.toRowW Z.k75_d [] (fun f vs => PySem.call f vs) := by
  refine L2.walk_ofE (l := PySem.Challenge.rw_exchangetowers_k75_claims_judged) (n := 63) (k := k) (x := ("script" : PySem.Str)) (CX := Z.CXw Z.k75_R.prog) rfl (by decide) Z.k75_df hk (fun w mg fa h Y G hm => ?_) Z.cxw_no
  exact Z.k75_F P hP k pure_ w mg fa h Y G (by rw [← Z.k75_dn]; exact hm)
theorem Z.k75_end (P : Z.Prg) (hP : Z.cAll Z.k75_p Z.k75_gl Z.k75_hn = some P) (k : Nat) (hk : L2.Room k callerA) (pure_ : ∀ ns : List Int, ∃ M, Z.callK P true k "law" [.sc (ns.map .int)] [] = some (.ok (.bl true) M)) : PySem.Challenge.rw_exchangetowers_k75_claims_judged.Holds := by
  w_on; o_law
  exact HandSHeadRun.head_any Z.k75_ob_eq Z.k75_1 Z.k75_2 Z.k75_run Z.k75_3 Z.k75_4 Z.k75_5 Z.k75_6 Z.k75_7 Z.k75_8 Z.k75_9 Z.k75_0 (Z.k75_walk P hP k hk pure_)
end
section
set_option Elab.async false
set_option linter.all false
open PySem PySem.W PySem.Calls PyProof.Rows in
theorem Z.k75_room : L2.Room 10 callerA := ⟨rfl, by decide, by decide⟩
theorem PySem.Challenge.cw_exchangetowers_k75_claims_judged_holds : PySem.Challenge.rw_exchangetowers_k75_claims_judged.Holds :=
  Z.k75_end Z.k75_P Z.k75_P_ok 10 Z.k75_room Z.k75_true
end
