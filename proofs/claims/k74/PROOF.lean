import PyProof.Rows.All
import Wide.All
import OpenK.AllK
import Wide.FinOn
import HandS.ForMost
import KE.SortData
import HandS.More
import HandS.Strs
import HandS.SetFor
import HandS.Deep
import HandS.TupAny
import HandS.TupMul
import HandS.Conv
import HandS.Style
import HandS.IsInst
import HandS.CallSlots
import HandS.HeadHook1
import HandS.ExcOwn
import HandS.ExcCtx
import HandS.ExcInit
import HandS.Flow
import HandS.HotCalls
import KE.KSuper
import KE.KExcSuper
import KE.KExcLine
import HandS.Exc
import HandS.ExcSuper
import KE.KIsAll
import KE.KExcIs
import HandS.ExcField
import HandS.ExcIs
import HandS.ExcInitHot
import HandS.Codes
import HandS.Defaults
import HandS.Head0
import HandS.Head1
import HandS.Head2
import HandS.HeadEnd
import HandS.HeadHook2
import HandS.HeadHook3
import PySem.Challenge.RW_exchangetowers_k74_texts_of_trees_with_a
import KE.KStateDown
import HandS.Base
import HandS.Call
import HandS.Ends
import HandS.Words
import HandS.WordsExc
import PyProof.ByEval2
import KE.IntTextLaws
section
set_option Elab.async false
set_option linter.all false
set_option maxRecDepth 100000
/-! An evaluator of our own for the subset of Python that the program and the laws use: values D, memory of the objects that change, compact trees E, S. -/
namespace Z
open PySem

/-! ### values -/
/-- tl: a list that is only read; sc: one that comes from outside; fl: a list just made (it never lies in a slot); dc: a dict that is only read; ref: an object of the memory that changes -/
inductive D where
  | non | bl (b : Bool) | int (i : Int) | str (s : Str) | tup (ds : List D) | tl (ds : List D) | sc (ds : List D) | fl (ds : List D) | dc (ks vs : List D) | st (ds : List D) | ref (n : Nat)
  deriving Inhabited, Repr

mutual
/-- no object of the memory, no list just made within -/
def D.val : D → Bool
  | .non => true
  | .bl _ => true
  | .int _ => true
  | .str _ => true
  | .tup ds => D.vals ds
  | .tl ds => D.vals ds
  | .sc ds => D.vals ds
  | .fl _ => false
  | .dc ks vs => D.vals ks && D.vals vs
  | .st _ => false
  | .ref _ => false
def D.vals : List D → Bool
  | [] => true
  | d :: ds => D.val d && D.vals ds
end
mutual
def D.beq : D → D → Bool
  | .non, .non => true
  | .bl a, .bl b => a == b
  | .int a, .int b => decide (a = b)
  | .str a, .str b => decide (a = b)
  | .tup a, .tup b => D.beqs a b
  | .tl a, .tl b => D.beqs a b
  | .sc a, .sc b => D.beqs a b
  | .fl a, .fl b => D.beqs a b
  | .dc a b, .dc c d => D.beqs a c && D.beqs b d
  | .st a, .st b => D.beqs a b
  | .ref a, .ref b => decide (a = b)
  | _, _ => false
def D.beqs : List D → List D → Bool
  | [], [] => true
  | a :: as, b :: bs => D.beq a b && D.beqs as bs
  | _, _ => false
end
mutual
/-- the library's plain data -/
def D.py : D → PyData
  | .non => .none
  | .bl b => .bool b
  | .int i => .int i
  | .str s => .str s
  | .tup ds => .tuple (D.pys ds)
  | .tl ds => .list (D.pys ds)
  | .sc _ => .none
  | .fl ds => .list (D.pys ds)
  | .dc _ _ => .none
  | .st _ => .none
  | .ref _ => .none
def D.pys : List D → List PyData
  | [] => []
  | d :: ds => D.py d :: D.pys ds
end
mutual
/-- it is such data -/
def D.plain : D → Bool
  | .non => true
  | .bl _ => true
  | .int _ => true
  | .str _ => true
  | .tup ds => D.plains ds
  | .tl ds => D.plains ds
  | .sc _ => false
  | .fl ds => D.plains ds
  | .dc _ _ => false
  | .st _ => false
  | .ref _ => false
def D.plains : List D → Bool
  | [] => true
  | d :: ds => D.plain d && D.plains ds
end

/-- an object of the memory -/
inductive MO where
  | lst (ds : List D)
  | ins (c : Str) (fs : List (Str × D))
  deriving Inhabited, Repr
abbrev Mem := List MO
abbrev Env := List (Option D)

inductive Rs (α : Type) where
  | ok (a : α) (M : Mem)
  | exc (c : Str) (p : List (Str × D)) (M : Mem)
  deriving Repr
abbrev R (α : Type) := Option (Rs α)
def R.bind {α β : Type} (x : R α) (f : α → Mem → R β) : R β := match x with
  | none => none
  | some (.exc c p M) => some (.exc c p M)
  | some (.ok a M) => f a M
def pur {α : Type} (a : α) (M : Mem) : R α := some (.ok a M)

/-! ### trees -/
inductive BOp where | add | sub | mul | mod | fdiv | pow | shl | xor deriving DecidableEq, Repr, Inhabited
inductive COp where | eq | ne | lt | le | gt | ge | mem | nmem | is_ | isn deriving DecidableEq, Repr, Inhabited
inductive Ty where | int | bool | str | tuple | list | cls (x : Str) deriving DecidableEq, Repr, Inhabited
inductive Bi where | len | all | any | sorted | sortedR | tuple | list | set | sum | min | max | int | str | range | abs deriving DecidableEq, Repr, Inhabited
inductive Mt where | append | pop | extend | insert | reverse | index | count | join | strip | split | startswith deriving DecidableEq, Repr, Inhabited

mutual
inductive E where
  | nope
  | c (d : D)
  | var (i : Nat)
  | bin (op : BOp) (a b : E)
  | neg (a : E)
  | cmp (op : COp) (a b : E)
  | chn (o1 o2 : COp) (a b c : E)
  | not (a : E) | and (a b : E) | or (a b : E)
  | ite (t a b : E)
  | tup (es : Es) | lst (es : Es)
  | idx (a i : E)
  | sli (a lo hi : E)
  | comp (g : List Nat) (it : It) (cond elt : E) (own : List Nat)
  | comp2 (g1 : List Nat) (it1 : It) (g2 : List Nat) (it2 : It) (elt : E) (own own2 : List Nat)
  | mat (a : E)
  | call (f : Str) (as : Es)
  | new (c : Str) (as : Es)
  | bi (b : Bi) (as : Es)
  | mth (m : Mt) (o : E) (as : Es)
  | own (c m : Str) (o : E) (as : Es)
  | att (c : Str) (o : E) (f : Str)
  | isi (a : E) (ts : List Ty)
  deriving Repr
inductive Es where
  | nil | cons (e : E) (es : Es)
  deriving Repr
/-- what a loop or a comprehension walks -/
inductive It where
  | seq (e : E) | txt (e : E) | rng (a b : E) | rng3 (a b c : E) | enum (e : E) | zip (a b : E)
  deriving Repr
end
instance : Inhabited E := ⟨.nope⟩
instance : Inhabited Es := ⟨.nil⟩
instance : Inhabited It := ⟨.seq .nope⟩

inductive Tg where
  | name (i : Nat) | tup (is : List Nat) | sub (o i : E) | att (c : Str) (o : E) (f : Str)
  deriving Repr, Inhabited
mutual
inductive S where
  | skip
  | expr (e : E)
  | asg (t : Tg) (e : E)
  | aug (i : Nat) (op : BOp) (e : E)
  | augA (c : Str) (o : E) (f : Str) (op : BOp) (e : E)
  | ret (e : E)
  | ife (t : E) (a b : Ss)
  | whl (t : E) (b : Ss)
  | for_ (g : List Nat) (it : It) (b : Ss)
  | brk | cont
  | raise (c f : Str) (e : E)
  | tryS (b : Ss) (c f : Str) (i : Nat)
  deriving Repr
inductive Ss where
  | nil | cons (s : S) (r : Ss)
  deriving Repr
end
instance : Inhabited S := ⟨.skip⟩
instance : Inhabited Ss := ⟨.nil⟩
end Z
end
section
set_option Elab.async false
set_option linter.all false
set_option maxRecDepth 100000
/-! The evaluator. -/
namespace Z
open PySem

/-! ### what an operation gives -/
def LIM : Nat := 16777216
/-- the items of a list or a tuple -/
def seqOf (d : D) (M : Mem) : Option (List D) := match d with
  | .tup ds => some ds
  | .tl ds => some ds
  | .sc ds => some ds
  | .fl ds => some ds
  | .ref r => match M[r]? with
    | some (.lst ds) => some ds
    | _ => none
  | _ => none
def lstOf (d : D) (M : Mem) : Option (List D) := match d with
  | .tl ds => some ds
  | .fl ds => some ds
  | .ref r => match M[r]? with
    | some (.lst ds) => some ds
    | _ => none
  | _ => none
/-- plain data, a list of the memory read too -/
def view (d : D) (M : Mem) : Option PyData := match d with
  | .ref r => match M[r]? with
    | some (.lst ds) => if D.plains ds then some (.list (D.pys ds)) else none
    | _ => none
  | d => if d.plain then some d.py else none
def viewS (d : D) (M : Mem) : Option PyData := match view d M with
  | some x => if SeqAt.shaped x then some x else none
  | none => none
def truth (d : D) (M : Mem) : Option Bool := match d with
  | .non => some false
  | .bl b => some b
  | .int i => some (i != 0)
  | .str z => if z.length ≤ 16777216 then some ((z.length : Int) != 0) else none
  | .tup ds => some !ds.isEmpty
  | d => match lstOf d M with
    | some ds => some !ds.isEmpty
    | none => none
def mulOk (i j : Int) : Bool := (decide (-(2 ^ 64) < i) && decide (i < 2 ^ 64)) || (decide (-(2 ^ 64) < j) && decide (j < 2 ^ 64))
def powOk (i j : Int) : Bool := decide (0 ≤ j) && (decide (j ≤ 1000000) && decide (i.natAbs < 2 ^ 64))
def binI (op : BOp) (i j : Int) : Option Int := match op with
  | .add => some (i + j)
  | .sub => some (i - j)
  | .mul => if mulOk i j then some (i * j) else none
  | .mod => if 0 < j then some (i % j) else none
  | .fdiv => if 0 < j && decide (j < 1073741824) then some (i / j) else none
  | .pow => if powOk i j then some (i ^ j.toNat) else none
  | .shl => if powOk i j then some (i * 2 ^ j.toNat) else none
  | .xor => some (PySem.Builtin.bitXor i j)
def repL (k : Int) (ds : List D) : Option (List D) :=
  if decide (-(2 ^ 63) ≤ k) && (decide (k < 2 ^ 63) && decide (ds.length * k.toNat ≤ 16777216)) then some (List.replicate k.toNat ds).flatten else none
def binD (op : BOp) (a b : D) (M : Mem) : Option D := match op, a, b with
  | op, .int i, .int j => (binI op i j).map .int
  | .add, .str x, .str y => if x.length + y.length ≤ 16777216 then some (.str (x ++ y)) else none
  | .add, .tup xs, .tup ys => if xs.length + ys.length ≤ 16777216 then some (.tup (xs ++ ys)) else none
  | .mul, .tup xs, .int k => if !xs.isEmpty && (decide (2 ≤ k) && (decide (k ≤ 1000) && decide (xs.length ≤ 1000))) then some (.tup (List.replicate k.toNat xs).flatten) else none
  | .add, a, b => match lstOf a M, lstOf b M with
    | some xs, some ys => if xs.length + ys.length ≤ 16777216 then some (.fl (xs ++ ys)) else none
    | _, _ => none
  | .mul, a, .int k => match lstOf a M with
    | some xs => (repL k xs).map .fl
    | none => none
  | _, _, _ => none
def eqD (a b : D) (M : Mem) : Option Bool := match viewS a M, viewS b M with
  | some x, some y => some (PyData.eqv x y)
  | _, _ => none
def memD (a b : D) (M : Mem) : Option Bool := match b with
  | .str z => match a with
    | .str c => if c.length = 1 then some (decide (c.cps.toList.headD 0 ∈ z.cps.toList)) else none
    | _ => none
  | .dc ks _ => match a with
    | .str x => some (ks.any fun k => D.beq k (.str x))
    | _ => none
  | b => match seqOf b M with
    | some ds => if D.plains ds then match viewS a M with
        | some x => if SeqAt.shaped (.list (D.pys ds)) then some ((D.pys ds).any fun z => PyData.eqv z x) else none
        | none => none
      else none
    | none => none
def isNon : D → Bool
  | .non => true
  | _ => false
def isD (a b : D) : Option Bool := match b, a with
  | .non, a => some (isNon a)
  | .bl c, .bl d => some (c == d)
  | _, _ => none
def ordD (op : COp) (a b : D) : Option Bool := match a, b with
  | .int i, .int j => (match op with
    | .lt => some (decide (i < j))
    | .le => some (decide (i ≤ j))
    | .gt => some (decide (j < i))
    | .ge => some (decide (j ≤ i))
    | _ => none)
  | _, _ => none
def cmpD (op : COp) (a b : D) (M : Mem) : Option Bool := match op with
  | .eq => eqD a b M
  | .ne => (eqD a b M).map not
  | .mem => memD a b M
  | .nmem => (memD a b M).map not
  | .is_ => isD a b
  | .isn => (isD a b).map not
  | op => ordD op a b
inductive TN where | non | bool | int | str | tuple | list deriving DecidableEq
def tyOf (d : D) (M : Mem) : Option TN := match d with
  | .non => some .non
  | .bl _ => some .bool
  | .int _ => some .int
  | .str _ => some .str
  | .tup _ => some .tuple
  | .tl _ => some .list
  | .ref r => match M[r]? with
    | some (.lst _) => some .list
    | _ => none
  | _ => none
def isB : TN → Ty → Bool
  | .int, .int => true | .bool, .int => true | .bool, .bool => true | .str, .str => true | .tuple, .tuple => true | .list, .list => true
  | _, _ => false
def noCls : Ty → Bool
  | .cls _ => false
  | _ => true
def isTs (d : D) (M : Mem) (ts : List Ty) : Option Bool := match tyOf d M with
  | some n => if ts.all noCls then some (ts.any (isB n)) else none
  | none => none
def idxD (a i : D) (M : Mem) : Option D := match a, i with
  | .str z, .int i => if z.length ≤ 16777216 then
      (match seqIndex? i z.length with
        | some k => (match z.cps[k]? with
          | some c => some (.str ⟨#[c]⟩)
          | none => none)
        | none => none) else none
  | .dc ks vs, k => (match k with
    | .str x => (match ks.findIdx? fun k => D.beq k (.str x) with
      | some j => vs[j]?
      | none => none)
    | _ => none)
  | a, .int i => (match seqOf a M with
    | some ds => (match seqIndex? i ds.length with
      | some k => if decide (-(2 ^ 63) ≤ i) && decide (i < 2 ^ 63) then ds[k]? else none
      | none => none)
    | none => none)
  | _, _ => none
def cutD (ds : List D) (lo hi : Option Int) : List D := (ds.drop (HT.sIx ds.length 0 lo)).take (HT.sIx ds.length ds.length hi - HT.sIx ds.length 0 lo)
def sliD (a : D) (lo hi : Option Int) (M : Mem) : Option D := match a with
  | .str z => if z.length ≤ 16777216 then some (.str (L2.cutS z lo hi)) else none
  | .tup ds => some (.tup (cutD ds lo hi))
  | .sc ds => some (.fl (cutD ds lo hi))
  | a => match lstOf a M with
    | some ds => some (.fl (cutD ds lo hi))
    | none => none
/-- sorted(..) -/
def alikes (ds : List D) : Bool := ds.all fun a => ds.all fun b => PySem.W.alike a.py b.py
def sortable (ds : List D) : Bool := (ds.all fun d => match d with | .tup (_ :: _) => true | _ => false) || (ds.all fun d => match d with | .int _ => true | .str _ => true | .bl _ => true | .tl _ => true | _ => false)
def depths (ds : List D) : Bool := ds.all fun d => decide (d.py.depth ≤ 64)
def sortD (rev : Bool) (ds : List D) : Option (List D) :=
  if D.plains ds && (alikes ds && (sortable ds && depths ds)) then some (ds.mergeSort (PySem.W.dataLe rev D.py)) else none
def allB : List D → Option Bool
  | [] => some true
  | .bl b :: ds => match allB ds with
    | some c => some (b && c)
    | none => none
  | _ => none
def anyB : List D → Option Bool
  | [] => some false
  | .bl b :: ds => match anyB ds with
    | some c => some (b || c)
    | none => none
  | _ => none
def intL : List D → Option (List Int)
  | [] => some []
  | .int i :: ds => (intL ds).map (i :: ·)
  | _ => none
def strL : List D → Option (List Str)
  | [] => some []
  | .str i :: ds => (strL ds).map (i :: ·)
  | _ => none
def dedupI : List Int → List Int
  | [] => []
  | i :: r => i :: (dedupI r).filter (· != i)
def lenD (d : D) (M : Mem) : Option Nat := match d with
  | .str z => if z.length ≤ 16777216 then some z.length else none
  | .st ds => some ds.length
  | d => (seqOf d M).map List.length
def rangeL (lo : Int) : Nat → List D
  | 0 => []
  | n + 1 => .int lo :: rangeL (lo + 1) n
/-- those that may be called while an exception is handled -/
def biHot : Bi → Bool
  | .len => true
  | .int => true
  | .str => true
  | .tuple => true
  | .list => true
  | _ => false
def biD (b : Bi) (as : List D) (M : Mem) : Option D := match b, as with
  | .len, [d] => match lenD d M with
    | some n => some (.int (n : Int))
    | none => none
  | .all, [d] => (lstOf d M).bind fun ds => (allB ds).map .bl
  | .any, [d] => (lstOf d M).bind fun ds => (anyB ds).map .bl
  | .sorted, [d] => (seqOf d M).bind fun ds => (sortD false ds).map .fl
  | .sortedR, [d] => (lstOf d M).bind fun ds => (sortD true ds).map .fl
  | .tuple, [d] => (seqOf d M).map .tup
  | .list, [d] => (seqOf d M).map .fl
  | .set, [.tup ds] => if ds.length ≤ 4000 then (intL ds).map fun ns => .st ((dedupI ns).map .int) else none
  | .min, [.int i, .int j] => some (.int (if j < i then j else i))
  | .max, [.int i, .int j] => some (.int (if j > i then j else i))
  | .int, [.int i] => some (.int i)
  | .int, [.bl c] => some (.int (if c then 1 else 0))
  | .int, [.str z] => if z.length ≤ 640 then (PySem.intText? z).map .int else none
  | .str, [.int i] => if i.natAbs.log2 < 1920 then some (.str (toString i)) else none
  | .str, [.str z] => some (.str z)
  | .range, [.int n] => if decide (-(2 ^ 62) ≤ n) && decide (n ≤ 16777216) then some (.fl (rangeL 0 n.toNat)) else none
  | _, _ => none
/-- a built-in's method: its value, the memory behind it -/
def mthD (m : Mt) (o : D) (as : List D) (M : Mem) : Option (D × Mem) := match m, o, as with
  | .append, .ref r, [d] => (match M[r]? with
    | some (.lst ds) => if decide (ds.length < 16777216) then some (.non, M.set r (.lst (ds ++ [d]))) else none
    | _ => none)
  | .pop, .ref r, [] => (match M[r]? with
    | some (.lst ds) => (match ds[ds.length - 1]? with
      | some d => some (d, M.set r (.lst ds.dropLast))
      | none => none)
    | _ => none)
  | .pop, .ref r, [.int i] => (match M[r]? with
    | some (.lst ds) => if decide (-(2 ^ 63) ≤ i) && decide (i < 2 ^ 63) then
        (match seqIndex? i ds.length with
          | some k => (match ds[k]? with
            | some d => some (d, M.set r (.lst (ds.eraseIdx k)))
            | none => none)
          | none => none) else none
    | _ => none)
  | .reverse, .ref r, [] => (match M[r]? with
    | some (.lst ds) => some (.non, M.set r (.lst ds.reverse))
    | _ => none)
  | .join, .str z, [d] => (match seqOf d M with
    | some ds => (match strL ds with
      | some xs => if (xs.map (·.length)).sum + xs.length * z.length ≤ 16777216 then some (.str (Txt.join z xs), M) else none
      | none => none)
    | none => none)
  | _, _, _ => none

/-- the receiver is of the method's type -/
def isLst (M : Mem) (r : Nat) : Bool := match M[r]? with
  | some (.lst _) => true
  | _ => false
def mthOk (m : Mt) (o : D) (M : Mem) : Bool := match m, o with
  | .append, .ref r => isLst M r
  | .pop, .ref r => isLst M r
  | .reverse, .ref r => isLst M r
  | .join, .str _ => true
  | _, _ => false

/-! ### binding -/
/-- a value as it is bound: a list just made is only read from then on; a set is not bound -/
def frz : D → Option D
  | .fl ds => some (.tl ds)
  | .st _ => none
  | d => some d
def frzs : List D → Option (List D)
  | [] => some []
  | d :: ds => match frz d, frzs ds with
    | some e, some es => some (e :: es)
    | _, _ => none
def wipeE (env : Env) : List Nat → Env
  | [] => env
  | i :: is => (wipeE env is).set i none
def bindT : List Nat → List D → Env → Option Env
  | [], [], env => some env
  | i :: is, d :: ds, env => bindT is ds (env.set i (some d))
  | _, _, _ => none
/-- a target's names: one name, or several of a tuple (a list is not unpacked) -/
def bindG (g : List Nat) (d : D) (M : Mem) (env : Env) : Option Env := match g with
  | [i] => some (env.set i (some d))
  | is => match d with
    | .tup ds => bindT is ds env
    | _ => none
/-! ### calls -/
abbrev Fn := Str → List D → Mem → R D
def flat : MO → Bool
  | .lst ds => D.vals ds
  | .ins _ fs => fs.all fun p => p.2.val
def flats (os : List MO) : Bool := os.all flat
def refs1 : D → List Nat
  | .ref r => [r]
  | _ => []
def refsOf (ds : List D) : List Nat := (ds.flatMap refs1).eraseDups
def argOk : D → Bool
  | .ref _ => true
  | d => d.val
def ren (rs : List Nat) : D → D
  | .ref r => .ref (rs.idxOf r)
  | d => d
def putBack : List Nat → List MO → Mem → Mem
  | r :: rs, o :: os, M => putBack rs os (M.set r o)
  | _, _, M => M
mutual
/-- a value of a memory that ends, its own lists (behind the first m, not the one at av) as lists that are only read -/
def deep (m av : Nat) (M : Mem) : Nat → D → Option D
  | 0, _ => none
  | n + 1, d => if d.val then some d else match d with
    | .ref r => if r < m || r == av then none else (match M[r]? with
      | some (.lst ds) => (deeps m av M n ds).map .tl
      | _ => none)
    | .tup ds => (deeps m av M n ds).map .tup
    | .tl ds => (deeps m av M n ds).map .tl
    | _ => none
def deeps (m av : Nat) (M : Mem) : Nat → List D → Option (List D)
  | 0, _ => none
  | _ + 1, [] => some []
  | n + 1, d :: ds => match deep m av M n d, deeps m av M n ds with
    | some e, some es => some (e :: es)
    | _, _ => none
end
def outD (m : Nat) (M : Mem) (d : D) : Option D := match d with
  | .fl ds => if D.vals ds then some (.fl ds) else (deeps m M.length M 100000 ds).map .fl
  | .ref r => if r < m then none else (match M[r]? with
    | some (.lst ds) => if D.vals ds then some (.fl ds) else (deeps m r M 100000 ds).map .fl
    | _ => none)
  | d => deep m M.length M 100000 d
def backR (rs : List Nat) (M : Mem) (x : R D) : R D := match x with
  | none => none
  | some (.ok d M1) => if flats (M1.take rs.length) then
      (match outD rs.length M1 d with
        | some d' => some (.ok d' (putBack rs (M1.take rs.length) M))
        | none => none) else none
  | some (.exc c p M1) => if flats (M1.take rs.length) && p.all (fun q => q.2.val) then some (.exc c p (putBack rs (M1.take rs.length) M)) else none
def objs (M : Mem) : List Nat → Option (List MO)
  | [] => some []
  | r :: rs => match M[r]?, objs M rs with
    | some o, some os => some (o :: os)
    | _, _ => none
/-- a call of an own def: over the objects that are handed over, if these hold values alone; else over the whole memory -/
def inv (F : Fn) (f : Str) (ds : List D) (M : Mem) : R D :=
  if ds.all argOk then match objs M (refsOf ds) with
    | none => none
    | some os => if flats os then backR (refsOf ds) M (F f (ds.map (ren (refsOf ds))) os) else F f ds M
  else none

/-! ### expressions -/
def optI (d : D) : Option (Option Int) := match d with
  | .int i => some (some i)
  | .non => some none
  | _ => none
def lift1 (x : Option D) (M : Mem) : R D := match x with
  | some d => some (.ok d M)
  | none => none
def liftB (x : Option Bool) (M : Mem) : R D := match x with
  | some d => some (.ok (.bl d) M)
  | none => none
/-- the turns of a comprehension -/
def compL (watch : Mem → Bool) (body : D → Mem → R (Option D)) : List D → Mem → R (List D)
  | [], M => if watch M then some (.ok [] M) else none
  | x :: xs, M => if watch M then (match body x M with
    | some (.ok y M1) => (match compL watch body xs M1 with
      | some (.ok ys M2) => some (.ok (match y with
        | some y => y :: ys
        | none => ys) M2)
      | _ => none)
    | _ => none) else none
/-- the turns of the outer clause of two -/
def compF (watch : Mem → Bool) (body : D → Mem → R (List D)) : List D → Mem → R (List D)
  | [], M => if watch M then some (.ok [] M) else none
  | x :: xs, M => if watch M then (match body x M with
    | some (.ok y M1) => (match compF watch body xs M1 with
      | some (.ok ys M2) => some (.ok (y ++ ys) M2)
      | _ => none)
    | _ => none) else none
def watchOf (d : D) (ds : List D) (M : Mem) : Bool := match d with
  | .ref r => (match M[r]? with
    | some (.lst es) => D.beqs es ds
    | _ => false)
  | _ => true
/-- the turns' items, and whether they still stand -/
structure Wk where
  items : List D
  watch : Mem → Bool
def still : Mem → Bool := fun _ => true
def signs (z : Str) : List D := z.cps.toList.map fun c => .str ⟨#[c]⟩
def wkSeq (d : D) (M : Mem) : Option Wk := match seqOf d M with
  | some ds => some ⟨ds, watchOf d ds⟩
  | none => none
def wkTxt (d : D) : Option Wk := match d with
  | .str z => some ⟨signs z, still⟩
  | _ => none
def enumL : Int → List D → List D
  | _, [] => []
  | k, d :: ds => .tup [.int k, d] :: enumL (k + 1) ds
def zipL : List D → List D → List D
  | a :: as, b :: bs => .tup [a, b] :: zipL as bs
  | _, _ => []
def rngOk (lo hi : Int) : Bool := decide (-(2 ^ 62) ≤ lo) && (decide (lo < 2 ^ 62) && (decide (-(2 ^ 62) ≤ hi) && decide (hi < 2 ^ 62)))
def wkRng (a b : D) : Option Wk := match a, b with
  | .int lo, .int hi => if rngOk lo hi then some ⟨rangeL lo (hi - lo).toNat, still⟩ else none
  | _, _ => none
def rangeD (lo : Int) (c : Int) : Nat → List D
  | 0 => []
  | n + 1 => .int lo :: rangeD (lo + c) c n
def wkRng3 (a b c : D) : Option Wk := match a, b, c with
  | .int lo, .int hi, .int (-1) => if rngOk lo hi then some ⟨rangeD lo (-1) (lo - hi).toNat, still⟩ else none
  | _, _, _ => none
def wkEnum (d : D) (M : Mem) : Option Wk := match seqOf d M with
  | some ds => some ⟨enumL 0 ds, watchOf d ds⟩
  | none => none
def wkZip (a b : D) (M : Mem) : Option Wk := match seqOf a M, seqOf b M with
  | some xs, some ys => some ⟨zipL xs ys, fun M => watchOf a xs M && watchOf b ys M⟩
  | _, _ => none
def liftW (x : Option Wk) (M : Mem) : R Wk := match x with
  | some w => some (.ok w M)
  | none => none
/-- ini: calls by which an instance is made -/
structure G where
  call : Fn
  calm : Bool
  ini : Fn := fun _ _ _ => none
  room : Nat := 0
/-- a class's def -/
def qual (c m : Str) : Str := c ++ ("." ++ m)
/-- an instance of the class: where it stands, its fields -/
def insOf (c : Str) (d : D) (M : Mem) : Option (Nat × List (Str × D)) := match d with
  | .ref r => (match M[r]? with
    | some (.ins c' fs) => if c = c' ∧ fs.length < 1000 then some (r, fs) else none
    | _ => none)
  | _ => none
def putA (f : Str) (d : D) : List (Str × D) → List (Str × D)
  | [] => [(f, d)]
  | (g, x) :: r => if g = f then (g, d) :: r else (g, x) :: putA f d r
mutual
def exE (g : G) : E → Env → Mem → R D
  | .nope, _, M => some (.ok .non M)
  | .c d, _, M => some (.ok d M)
  | .var i, env, M => match env[i]? with
    | some (some d) => some (.ok d M)
    | _ => none
  | .bin op a b, env, M => (exE g a env M).bind fun x M => (exE g b env M).bind fun y M => lift1 (binD op x y M) M
  | .neg a, env, M => (exE g a env M).bind fun x M => match x with
    | .int i => some (.ok (.int (-i)) M)
    | _ => none
  | .cmp op a b, env, M => (exE g a env M).bind fun x M => (exE g b env M).bind fun y M => liftB (cmpD op x y M) M
  | .chn o1 o2 a b c, env, M => (exE g a env M).bind fun x M => (exE g b env M).bind fun y M => match cmpD o1 x y M with
    | none => none
    | some false => some (.ok (.bl false) M)
    | some true => (exE g c env M).bind fun z M => liftB (cmpD o2 y z M) M
  | .not a, env, M => (exE g a env M).bind fun x M => (truth x M).bind fun t => some (.ok (.bl (!t)) M)
  | .and a b, env, M => (exE g a env M).bind fun x M => match x with
    | .bl true => exE g b env M
    | .bl false => some (.ok (.bl false) M)
    | _ => none
  | .or a b, env, M => (exE g a env M).bind fun x M => match x with
    | .bl true => some (.ok (.bl true) M)
    | .bl false => exE g b env M
    | _ => none
  | .ite t a b, env, M => (exT g t env M).bind fun x M => if x then exE g a env M else exE g b env M
  | .tup es, env, M => (exEs g es env M).bind fun ds M => (frzs ds).bind fun ds => if ds.length ≤ 16777216 then some (.ok (.tup ds) M) else none
  | .lst es, env, M => (exEs g es env M).bind fun ds M => (frzs ds).bind fun ds => if ds.length ≤ 16777216 then some (.ok (.fl ds) M) else none
  | .idx a i, env, M => (exE g a env M).bind fun x M => (exE g i env M).bind fun y M => lift1 (idxD x y M) M
  | .sli a lo hi, env, M => (exE g a env M).bind fun x M => (exE g lo env M).bind fun l M => (optI l).bind fun l => (exE g hi env M).bind fun h M => (optI h).bind fun h => lift1 (sliD x l h M) M
  | .comp gt it cond elt own, env, M => if g.calm then (exI g it env M).bind fun w M =>
      (compL w.watch (fun d M => match bindG gt d M (wipeE env own) with
        | some env1 => (exT g cond env1 M).bind fun t M => if t then (exE g elt env1 M).bind fun y M => (match frz y with
          | some y => some (.ok (some y) M)
          | none => none) else some (.ok none M)
        | none => none) w.items M).bind fun ds M => if ds.length ≤ 16777216 then some (.ok (.fl ds) M) else none else none
  | .comp2 gt1 it1 gt2 it2 elt own own2, env, M => if g.calm then (exI g it1 env M).bind fun w M =>
      (compF w.watch (fun d M => match bindG gt1 d M (wipeE env own) with
        | some env1 => (exI g it2 env1 M).bind fun w2 M => (compL w2.watch (fun d2 M => match bindG gt2 d2 M (wipeE env1 own2) with
          | some env2 => (exE g elt env2 M).bind fun y M => (match frz y with
            | some y => some (.ok (some y) M)
            | none => none)
          | none => none) w2.items M)
        | none => none) w.items M).bind fun ds M => if ds.length ≤ 16777216 then some (.ok (.fl ds) M) else none else none
  | .mat a, env, M => (exE g a env M).bind fun x M => match x with
    | .fl ds => some (.ok (.ref M.length) (M ++ [.lst ds]))
    | _ => none
  | .call f as, env, M => if g.calm then (exEs g as env M).bind fun ds M => (frzs ds).bind fun ds => inv g.call f ds M else none
  | .new c as, env, M => if g.calm && decide (1 ≤ g.room) then (exEs g as env M).bind fun ds M => (frzs ds).bind fun ds => (inv g.ini (qual c "__init__") (.ref M.length :: ds) (M ++ [.ins c []])).bind fun v M' => (match v with
    | .non => some (.ok (.ref M.length) M')
    | _ => none) else none
  | .bi b as, env, M => if biHot b || g.calm then (exEs g as env M).bind fun ds M => lift1 (biD b ds M) M else none
  | .mth m o as, env, M => (exE g o env M).bind fun x M => if mthOk m x M then (exEs g as env M).bind fun ds M => (frzs ds).bind fun ds => (if ds.all argOk then (match mthD m x ds M with
    | some (d, M) => some (.ok d M)
    | none => none) else none) else none
  | .own c m o as, env, M => if g.calm then (exE g o env M).bind fun x M => (match insOf c x M with
    | some (_, fs) => if (fs.lookup m).isNone then (exEs g as env M).bind fun ds M => (frzs ds).bind fun ds => inv g.call (qual c m) (x :: ds) M else none
    | none => none) else none
  | .att c o f, env, M => (exE g o env M).bind fun x M => (match insOf c x M with
    | some (_, fs) => lift1 (fs.lookup f) M
    | none => none)
  | .isi a ts, env, M => (exE g a env M).bind fun x M => liftB (isTs x M ts) M
/-- as a test -/
def exT (g : G) : E → Env → Mem → R Bool
  | .nope, _, M => some (.ok true M)
  | .not a, env, M => (exT g a env M).bind fun x M => some (.ok (!x) M)
  | .and a b, env, M => (exT g a env M).bind fun x M => if x then exT g b env M else some (.ok false M)
  | .or a b, env, M => (exT g a env M).bind fun x M => if x then some (.ok true M) else exT g b env M
  | .ite t a b, env, M => (exT g t env M).bind fun x M => if x then exT g a env M else exT g b env M
  | .c d, _, M => (truth d M).bind fun t => some (.ok t M)
  | .var i, env, M => match env[i]? with
    | some (some d) => (truth d M).bind fun t => some (.ok t M)
    | _ => none
  | .cmp op a b, env, M => (exE g a env M).bind fun x M => (exE g b env M).bind fun y M => match cmpD op x y M with
    | some t => some (.ok t M)
    | none => none
  | .chn o1 o2 a b c, env, M => (exE g a env M).bind fun x M => (exE g b env M).bind fun y M => match cmpD o1 x y M with
    | none => none
    | some false => some (.ok false M)
    | some true => (exE g c env M).bind fun z M => match cmpD o2 y z M with
      | some t => some (.ok t M)
      | none => none
  | .idx a i, env, M => (exE g a env M).bind fun x M => (exE g i env M).bind fun y M => (idxD x y M).bind fun d => (truth d M).bind fun t => some (.ok t M)
  | .call f as, env, M => if g.calm then (exEs g as env M).bind fun ds M => (frzs ds).bind fun ds => (inv g.call f ds M).bind fun d M => (truth d M).bind fun t => some (.ok t M) else none
  | .bi b as, env, M => if biHot b || g.calm then (exEs g as env M).bind fun ds M => (biD b ds M).bind fun d => (truth d M).bind fun t => some (.ok t M) else none
  | .own c m o as, env, M => if g.calm then (exE g o env M).bind fun x M => (match insOf c x M with
    | some (_, fs) => if (fs.lookup m).isNone then (exEs g as env M).bind fun ds M => (frzs ds).bind fun ds => (inv g.call (qual c m) (x :: ds) M).bind fun d M => (truth d M).bind fun t => some (.ok t M) else none
    | none => none) else none
  | .isi a ts, env, M => (exE g a env M).bind fun x M => match isTs x M ts with
    | some t => some (.ok t M)
    | none => none
  | _, _, _ => none
def exEs (g : G) : Es → Env → Mem → R (List D)
  | .nil, _, M => some (.ok [] M)
  | .cons e es, env, M => (exE g e env M).bind fun x M => (exEs g es env M).bind fun ds M => some (.ok (x :: ds) M)
def exI (g : G) : It → Env → Mem → R Wk
  | .seq e, env, M => (exE g e env M).bind fun x M => liftW (wkSeq x M) M
  | .txt e, env, M => (exE g e env M).bind fun x M => liftW (wkTxt x) M
  | .rng a b, env, M => (exE g a env M).bind fun x M => (exE g b env M).bind fun y M => liftW (wkRng x y) M
  | .rng3 a b c, env, M => (exE g a env M).bind fun x M => (exE g b env M).bind fun y M => (exE g c env M).bind fun z M => liftW (wkRng3 x y z) M
  | .enum e, env, M => (exE g e env M).bind fun x M => liftW (wkEnum x M) M
  | .zip a b, env, M => (exE g a env M).bind fun x M => (exE g b env M).bind fun y M => liftW (wkZip x y M) M
end

/-! ### statements -/
inductive Fl where
  | nx (env : Env) (M : Mem) | bk (env : Env) (M : Mem) | ct (env : Env) (M : Mem) | rt (d : D) (M : Mem) | ex (env : Env) (c : Str) (p : List (Str × D)) (M : Mem)
def onR {α : Type} (env : Env) (x : R α) (f : α → Mem → Option Fl) : Option Fl := match x with
  | none => none
  | some (.exc c p M) => some (.ex env c p M)
  | some (.ok a M) => f a M
def loopM {α β : Type} (step : α → Option (α ⊕ β)) (a : α) : Option β := match step a with
  | none => none
  | some (.inl a') => loopM step a'
  | some (.inr b) => some b
partial_fixpoint
def forM (watch : Mem → Bool) (body : D → Env → Mem → Option Fl) : List D → Env → Mem → Option Fl
  | [], env, M => if watch M then some (.nx env M) else none
  | x :: xs, env, M => if watch M then (match body x env M with
    | some (.nx env1 M1) => forM watch body xs env1 M1
    | some (.ct env1 M1) => forM watch body xs env1 M1
    | some (.bk env1 M1) => some (.nx env1 M1)
    | some (.rt d M1) => some (.rt d M1)
    | some (.ex env1 c p M1) => some (.ex env1 c p M1)
    | none => none) else none
def setSub (o i v : D) (M : Mem) : Option Mem := match o, i with
  | .ref r, .int i => (match M[r]? with
    | some (.lst ds) => (match seqIndex? i ds.length with
      | some k => if decide (-(2 ^ 63) ≤ i) && decide (i < 2 ^ 63) then some (M.set r (.lst (ds.set k v))) else none
      | none => none)
    | _ => none)
  | _, _ => none
def wStep (test : Env → Mem → R Bool) (body : Env → Mem → Option Fl) (p : Env × Mem) : Option ((Env × Mem) ⊕ Fl) := match test p.1 p.2 with
  | none => none
  | some (.exc c q M) => some (.inr (.ex p.1 c q M))
  | some (.ok false M) => some (.inr (.nx p.1 M))
  | some (.ok true M) => match body p.1 M with
    | none => none
    | some (.nx env M) => some (.inl (env, M))
    | some (.ct env M) => some (.inl (env, M))
    | some (.bk env M) => some (.inr (.nx env M))
    | some (.rt d M) => some (.inr (.rt d M))
    | some (.ex env c q M) => some (.inr (.ex env c q M))
/-- a turn: the target is bound, then the body -/
def forB (gt : List Nat) (b : Env → Mem → Option Fl) : D → Env → Mem → Option Fl := fun d env M => match bindG gt d M env with
  | some env1 => b env1 M
  | none => none
def tgOk (calm : Bool) : Tg → Bool
  | .tup _ => calm
  | _ => true
mutual
def exS (g : G) : S → Env → Mem → Option Fl
  | .skip, env, M => some (.nx env M)
  | .expr e, env, M => onR env (exE g e env M) fun _ M => some (.nx env M)
  | .asg t e, env, M => if tgOk g.calm t then onR env (exE g e env M) fun x M => match frz x with
    | none => none
    | some x => match t with
      | .name i => some (.nx (env.set i (some x)) M)
      | .tup is => (match bindG is x M env with
        | some env1 => some (.nx env1 M)
        | none => none)
      | .sub o i => onR env (exE g o env M) fun od M => onR env (exE g i env M) fun id M => (match setSub od id x M with
        | some M1 => some (.nx env M1)
        | none => none)
      | .att c o f => onR env (exE g o env M) fun od M => (match insOf c od M with
        | some (r, fs) => some (.nx env (M.set r (.ins c (putA f x fs))))
        | none => none)
    else none
  | .aug i op e, env, M => match env[i]? with
    | some (some d) => onR env (exE g e env M) fun x M => (match d, x with
      | .int a, .int b => (match binI op a b with
        | some c => some (.nx (env.set i (some (.int c))) M)
        | none => none)
      | _, _ => none)
    | _ => none
  | .augA c o f op e, env, M => onR env (exE g o env M) fun od M => (match insOf c od M with
    | some (_, fs) => (match fs.lookup f with
      | some (.int a) => onR env (exE g e env M) fun x M => (match x with
        | .int b => (match binI op a b, insOf c od M with
          | some z, some (r, fs) => some (.nx env (M.set r (.ins c (putA f (.int z) fs))))
          | _, _ => none)
        | _ => none)
      | _ => none)
    | none => none)
  | .ret e, env, M => onR env (exE g e env M) fun x M => some (.rt x M)
  | .ife t a b, env, M => onR env (exT g t env M) fun x M => if x then exSs g a env M else exSs g b env M
  | .whl t b, env, M => loopM (wStep (exT g t) (exSs g b)) (env, M)
  | .for_ gt it b, env, M => if g.calm then onR env (exI g it env M) fun w M => forM w.watch (forB gt (exSs g b)) w.items env M else none
  | .brk, env, M => some (.bk env M)
  | .cont, env, M => some (.ct env M)
  | .raise c f e, env, M => if g.calm && decide (3 ≤ g.room) then onR env (exE g e env M) fun d M => (match frz d with
    | some d => some (.ex env c [(f, d)] M)
    | none => none) else none
  | .tryS b c f i, env, M => if g.calm && decide (3 ≤ g.room) then (match exSs g b env M with
    | some (.ex env1 c1 p M1) => if c1 = c then (match p.lookup f, env1[i]? with
      | some (.int x), some (some (.int y)) => some (.rt (.bl (decide (x = y))) M1)
      | _, _ => none) else none
    | x => x) else none
def exSs (g : G) : Ss → Env → Mem → Option Fl
  | .nil, env, M => some (.nx env M)
  | .cons s r, env, M => match exS g s env M with
    | some (.nx env1 M1) => exSs g r env1 M1
    | x => x
end

/-! ### defs -/
structure Df where
  ps : Nat
  n : Nat
  body : Ss
abbrev Prg := List (Str × Df)
def startE (n : Nat) (ds : List D) : Env := ds.map some ++ List.replicate (n - ds.length) none
def fin (x : Option Fl) : R D := match x with
  | some (.rt d M) => some (.ok d M)
  | some (.nx _ M) => some (.ok .non M)
  | some (.ex _ c p M) => some (.exc c p M)
  | _ => none
def runDf (P : Prg) (g : G) (f : Str) (ds : List D) (M : Mem) : R D := match P.lookup f with
  | some d => if ds.length = d.ps then fin (exSs g d.body (startE d.n ds) M) else none
  | none => none
def callK (P : Prg) (calm : Bool) : Nat → Fn
  | 0, _, _, _ => none
  | 1, f, ds, M => runDf P ⟨callK P calm 0, calm, callK P calm 0, 0⟩ f ds M
  | k + 2, f, ds, M => runDf P ⟨callK P calm (k + 1), calm, callK P calm k, k + 1⟩ f ds M
theorem callK_succ {P : Prg} {calm : Bool} {k : Nat} {f : Str} {ds : List D} {M : Mem} : callK P calm (k + 1) f ds M = runDf P ⟨callK P calm k, calm, callK P calm (k - 1), k⟩ f ds M := by
  cases k with
  | zero => rfl
  | succ k => rfl
end Z
end
section
set_option Elab.async false
set_option linter.all false
set_option maxRecDepth 100000
/-! From the row's trees to ours. -/
namespace Z
open PySem

/-- a class: its fields, its methods; an exception's class: its field -/
inductive GK where
  | fn | cls (fl ms : List Str) | exc (f : Str) | con (d : D)
structure Ctx where
  N : List Str
  sc : Scope
  gl : List (Str × GK)
  mats : List (Nat × Nat × Nat)
  own : Option (List Str) := none
  tys : List (Str × Str) := []
def idxStr (x : Str) : List Str → Option Nat
  | [] => none
  | y :: r => if x = y then some 0 else (idxStr x r).map (· + 1)
def isVis (sc : Scope) (x : Str) : Bool := match sc.names.lookup x with
  | some .local => true
  | some .cell => true
  | some .free => true
  | _ => false
def isLoc (sc : Scope) (x : Str) : Bool := match sc.names.lookup x with
  | some .local => true
  | some .cell => true
  | _ => false
def isGl (sc : Scope) (x : Str) : Bool := match sc.names.lookup x with
  | some .globalImplicit => true
  | _ => false
def glk (gl : List (Str × GK)) (x : Str) : Option GK := gl.lookup x
def notDebug (x : Str) : Bool := !(x == ("__debug__" : Str)) && !(x == ("__classdict__" : Str))
def slot (c : Ctx) (x : Str) : Option Nat := if isVis c.sc x && notDebug x then idxStr x c.N else none
/-- a name that a def stores -/
def mayStore (c : Ctx) (x : Str) : Bool := isLoc c.sc x && (notDebug x && (match c.own with
  | none => true
  | some l => l.contains x))
def slotL (c : Ctx) (x : Str) : Option Nat := if mayStore c x then idxStr x c.N else none
/-- the built-ins' names that are looked up -/
def biNames : List Str := ["len", "all", "any", "sorted", "tuple", "list", "set", "sum", "min", "max", "int", "str", "range", "enumerate", "zip", "isinstance", "bool", "reversed"]
/-- a built-in's name -/
def isBi (c : Ctx) (x : Str) : Bool := isGl c.sc x && ((c.gl.lookup x).isNone && biNames.contains x)
def cOp : Operator → Option BOp
  | .Add => some .add | .Sub => some .sub | .Mult => some .mul | .Mod => some .mod | .FloorDiv => some .fdiv | .Pow => some .pow | .LShift => some .shl | .BitXor => some .xor
  | _ => none
def cCmp : CmpOp → COp
  | .Eq => .eq | .NotEq => .ne | .Lt => .lt | .LtE => .le | .Gt => .gt | .GtE => .ge | .In => .mem | .NotIn => .nmem | .Is => .is_ | .IsNot => .isn
def cBi (x : Str) : Option Bi :=
  if x = "len" then some .len else if x = "all" then some .all else if x = "any" then some .any else if x = "sorted" then some .sorted else if x = "tuple" then some .tuple else
  if x = "list" then some .list else if x = "set" then some .set else if x = "sum" then some .sum else if x = "min" then some .min else if x = "max" then some .max else
  if x = "int" then some .int else if x = "str" then some .str else none
def cMt (x : Str) : Option Mt :=
  if x = "append" then some .append else if x = "pop" then some .pop else if x = "extend" then some .extend else if x = "insert" then some .insert else if x = "reverse" then some .reverse else
  if x = "index" then some .index else if x = "count" then some .count else if x = "join" then some .join else if x = "strip" then some .strip else if x = "split" then some .split else
  if x = "startswith" then some .startswith else none
def cTy (c : Ctx) : Expr → Option Ty
  | .Name x _ => if isBi c x then
      (if x = "int" then some .int else if x = "bool" then some .bool else if x = "str" then some .str else if x = "tuple" then some .tuple else if x = "list" then some .list else none) else none
  | _ => none
def cTys (c : Ctx) : List Expr → Option (List Ty)
  | [] => some []
  | e :: es => match cTy c e, cTys c es with
    | some t, some ts => some (t :: ts)
    | _, _ => none
def relS (scope sc : Scope) : Scope :=
  { scope with names := scope.names.map fun (n, k) => if (k == .free && sc.kind == .function && sc.names.lookup n == some .cell) then (n, .cell) else (n, k) }
def ownOf (c : Ctx) (scope : Scope) : List (Str × Nat) := scope.names.filterMap fun p => match p.2 with
  | .local => (idxStr p.1 c.N).map fun i => (p.1, i)
  | .cell => (idxStr p.1 c.N).map fun i => (p.1, i)
  | _ => none
/-- what a target's names are -/
def cNames (c : Ctx) : List Expr → Option (List Nat)
  | [] => some []
  | .Name x _ :: es => match slotL c x, cNames c es with
    | some i, some is => some (i :: is)
    | _, _ => none
  | _ => none
def cTgt (c : Ctx) : Expr → Option (List Nat)
  | .Name x _ => (slotL c x).map fun i => [i]
  | .Tuple es _ _ => if 2 ≤ es.length then cNames c es else none
  | _ => none
def matAt (c : Ctx) (p : Pos) (e : E) : E := if c.mats.contains (p.line, p.col, p.endCol) then .mat e else e
def esOf : List E → Es
  | [] => .nil
  | e :: r => .cons e (esOf r)
/-- what is said of a name: the class of its value; str: a text -/
def clsOf (c : Ctx) : Expr → Option Str
  | .Name x _ => c.tys.lookup x
  | _ => none
def hasF (c : Ctx) (C f : Str) : Bool := match c.gl.lookup C with
  | some (.cls fl _) => fl.contains f
  | _ => false
def hasM (c : Ctx) (C m : Str) : Bool := match c.gl.lookup C with
  | some (.cls _ ms) => ms.contains m
  | _ => false
/-- not super() -/
def okBase : Expr → Bool
  | .Call (.Name _ _) [] [] _ => false
  | _ => true
mutual
def cE : Nat → Ctx → Expr → Option E
  | 0, _, _ => none
  | n + 1, c, e => (cE1 n c e).map (matAt c e.pos)
def cEs : Nat → Ctx → List Expr → Option Es
  | 0, _, _ => none
  | _ + 1, _, [] => some .nil
  | n + 1, c, e :: es => match cE n c e, cEs n c es with
    | some a, some b => some (.cons a b)
    | _, _ => none
def cE1 : Nat → Ctx → Expr → Option E
  | 0, _, _ => none
  | n + 1, c, e => match e with
    | .Constant .none _ _ => some (.c .non)
    | .Constant (.bool b) _ _ => some (.c (.bl b))
    | .Constant (.int i) _ _ => some (.c (.int i))
    | .Constant (.str s) _ _ => some (.c (.str s))
    | .Name x _ => match slot c x with
      | some i => some (.var i)
      | none => if isGl c.sc x && notDebug x then (match c.gl.lookup x with
        | some (.con d) => some (.c d)
        | _ => none) else none
    | .BinOp a op b _ => match cE n c a, cOp op, cE n c b with
      | some a, some op, some b => some (.bin op a b)
      | _, _, _ => none
    | .UnaryOp .USub a _ => (cE n c a).map .neg
    | .UnaryOp .Not a _ => (cE n c a).map .not
    | .BoolOp .And (a :: r) _ => match cE n c a, cAnd n c r with
      | some a, some r => some (r.elim a (.and a))
      | _, _ => none
    | .BoolOp .Or (a :: r) _ => match cE n c a, cOr n c r with
      | some a, some r => some (r.elim a (.or a))
      | _, _ => none
    | .IfExp t a b _ => match cE n c t, cE n c a, cE n c b with
      | some t, some a, some b => some (.ite t a b)
      | _, _, _ => none
    | .Compare a [op] [b] _ => match cE n c a, cE n c b with
      | some a, some b => some (.cmp (cCmp op) a b)
      | _, _ => none
    | .Compare a [o1, o2] [b, d] _ => match cE n c a, cE n c b, cE n c d with
      | some a, some b, some d => some (.chn (cCmp o1) (cCmp o2) a b d)
      | _, _, _ => none
    | .Tuple es _ _ => (cEs n c es).map .tup
    | .List es _ => (cEs n c es).map .lst
    | .Subscript a (.Slice lo hi none _) _ => match cE n c a, cOpt n c lo, cOpt n c hi with
      | some a, some lo, some hi => some (.sli a lo hi)
      | _, _, _ => none
    | .Subscript a i _ => match cE n c a, cE n c i with
      | some a, some i => some (.idx a i)
      | _, _ => none
    | .ListComp elt [⟨tg, it, ifs, 0⟩] scope _ =>
      let own := ownOf c scope
      let c2 : Ctx := { c with sc := relS scope c.sc, own := some (own.map (·.1)) }
      if L2.blkC c.N c.sc scope own then match cTgt c2 tg, cIt n c it, cIfs n c2 ifs, cE n c2 elt with
        | some g, some w, some t, some e => if g.all (fun i => (own.map (·.2)).contains i) then some (.comp g w t e (own.map (·.2))) else none
        | _, _, _, _ => none
      else none
    | .ListComp elt [⟨tg, it, [], 0⟩, ⟨tg2, it2, [], 0⟩] scope _ =>
      let own := ownOf c scope
      let c2 : Ctx := { c with sc := relS scope c.sc, own := some (own.map (·.1)) }
      if L2.blkC c.N c.sc scope own then match cTgt c2 tg, cIt n c it, cTgt c2 tg2, cIt n c2 it2, cE n c2 elt with
        | some g, some w, some g2, some w2, some e => if (g ++ g2).all (fun i => (own.map (·.2)).contains i) then some (.comp2 g w g2 w2 e (own.map (·.2)) g2) else none
        | _, _, _, _, _ => none
      else none
    | .Call (.Name f _) args [] _ =>
      if isGl c.sc f && notDebug f then match c.gl.lookup f with
        | some .fn => (cEs n c args).map (.call f)
        | some (.cls _ _) => (cEs n c args).map (.new f)
        | some _ => none
        | none => if !biNames.contains f then none else
          match args with
          | [a, .Tuple ts _ _] => if f = "isinstance" then (match cE n c a, cTys c ts with
              | some a, some ts => if ts.length ≤ 30 then some (.isi a ts) else none
              | _, _ => none) else (match cBi f, cEs n c args with
                | some b, some as => some (.bi b as)
                | _, _ => none)
          | [a, t] => if f = "isinstance" then (match cE n c a, cTy c t with
              | some a, some t => some (.isi a [t])
              | _, _ => none) else (match cBi f, cEs n c args with
                | some b, some as => some (.bi b as)
                | _, _ => none)
          | [.Call (.Name r _) [a] [] _] => if f = "list" && (r = "range" && isBi c r) then (cE n c a).map fun a => .bi .range (.cons a .nil) else
              (match cBi f, cEs n c args with
                | some b, some as => some (.bi b as)
                | _, _ => none)
          | _ => match cBi f, cEs n c args with
            | some b, some as => some (.bi b as)
            | _, _ => none
      else none
    | .Call (.Attribute o m ap) args [] pos => if okBase o && (ap.endLine == pos.line && decide (args.length < 30)) then (match clsOf c o with
      | some C => if hasM c C m then (match cE n c o, cEs n c args with
        | some o, some as => some (.own C m o as)
        | _, _ => none) else none
      | none => match cMt m, cE n c o, cEs n c args with
        | some m, some o, some as => some (.mth m o as)
        | _, _, _ => none)
      else none
    | .Attribute o f _ => if okBase o then (match clsOf c o with
      | some C => if hasF c C f then (cE n c o).map fun o => .att C o f else none
      | none => none) else none
    | _ => none
def cOpt : Nat → Ctx → Option Expr → Option E
  | 0, _, _ => none
  | _ + 1, _, none => some .nope
  | n + 1, c, some e => cE n c e
def cAnd : Nat → Ctx → List Expr → Option (Option E)
  | 0, _, _ => none
  | _ + 1, _, [] => some none
  | n + 1, c, a :: r => match cE n c a, cAnd n c r with
    | some a, some r => some (some (r.elim a (.and a)))
    | _, _ => none
def cOr : Nat → Ctx → List Expr → Option (Option E)
  | 0, _, _ => none
  | _ + 1, _, [] => some none
  | n + 1, c, a :: r => match cE n c a, cOr n c r with
    | some a, some r => some (some (r.elim a (.or a)))
    | _, _ => none
def cIfs : Nat → Ctx → List Expr → Option E
  | 0, _, _ => none
  | _ + 1, _, [] => some .nope
  | n + 1, c, [e] => cE n c e
  | _, _, _ => none
def cIt : Nat → Ctx → Expr → Option It
  | 0, _, _ => none
  | n + 1, c, e => match e with
    | .Call (.Name f _) [a] [] _ => if f = "range" && isBi c f then (cE n c a).map fun a => .rng (.c (.int 0)) a else (cE n c e).map .seq
    | .Call (.Name f _) [a, b] [] _ => if f = "range" && isBi c f then (match cE n c a, cE n c b with
        | some a, some b => some (.rng a b)
        | _, _ => none) else (cE n c e).map .seq
    | e => if clsOf c e = some "str" then (cE n c e).map .txt else (cE n c e).map .seq
end
/-- += , -= of whole numbers -/
def augOp : Operator → Option BOp
  | .Add => some .add
  | .Sub => some .sub
  | _ => none
/-! ### statements -/
/-- x, y = a, b of two local names -/
def par2 (c : Ctx) (ts vs : List Expr) : Bool := match ts, vs with
  | [.Name x px, .Name y py], [a, b] => (c.sc.names.lookup x == some .local) && ((c.sc.names.lookup y == some .local) && ((px.line == py.line) && (!(x == y) && (!([a, b].all (foldedForSure 8)) && !([a, b].all (constantsAlone 8))))))
  | _, _ => false
def isLC : Expr → Bool
  | .ListComp _ _ _ _ => true
  | _ => false
def isTup : Expr → Bool
  | .Tuple _ _ _ => true
  | _ => false
/-- the suite that looks at a BadText -/
def tryChk (c : Ctx) (D n o o2 : Str) (e0 eA eB eC : Expr) : Option Nat := match e0, eA, eB, eC with
  | .Call (.Name is1 _) [.Name e1 _, .Tuple [.Name n1 _, .Name n2 _, .Name n3 _] _ _] [] _, .Call (.Name sm _) [.Attribute (.Name e2 _) f _, .Name sp _] [] _, .Call (.Name is2 _) [.Name e3 _, .Name t _] [] _, .Call (.Name is3 _) [.Name e4 _, .Name v _] [] _ =>
    if [is1, is2, is3, e1, e2, e3, e4, o2] = (["isinstance", "isinstance", "isinstance", n, n, n, n, o] : List Str) ∧ [n1, n2, n3, t, v, D, f, sm] = (["NoMap", "NoExchange", "NoGroup", "TowerError", "ValueError", "BadText", "spot", "_law_same"] : List Str) then
      if (["isinstance", "NoMap", "NoExchange", "NoGroup", "TowerError", "ValueError", "BadText", "_law_same"] : List Str).all (fun x => isGl c.sc x && notDebug x) && ((match c.gl.lookup ("_law_refused" : Str) with | some .fn => true | _ => false) && (decide (c.sc.names.lookup n = some .local) && (notDebug n && (decide (o ≠ n) && (decide (o ≠ sp) && decide (n ≠ sp)))))) then
        (match slotL c o, idxStr n c.N, slot c sp with
          | some _, some _, some j => some j
          | _, _, _ => none) else none
    else none
  | _, _, _, _ => none
mutual
def cS : Nat → Ctx → Stmt → Option S
  | 0, _, _ => none
  | n + 1, c, s => match s with
    | .Pass _ => some .skip
    | .Break _ => some .brk
    | .Continue _ => some .cont
    | .Expr (.Constant (.str _) _ _) _ => some .skip
    | .Expr e _ => if isLC e then none else (cE n c e).map .expr
    | .Return none _ => some (.ret (.c .non))
    | .Return (some e) _ => (cE n c e).map .ret
    | .Assign [.Name x _] e _ => match slotL c x, cE n c e with
      | some i, some v => some (.asg (.name i) v)
      | _, _ => none
    | .Assign [.Tuple ts _ _] (.Tuple vs _ _) _ => if par2 c ts vs then match cNames c ts, cEs n c vs with
      | some is, some es => some (.asg (.tup is) (.tup es))
      | _, _ => none
      else none
    | .Assign [.Tuple ts _ _] e _ => if 2 ≤ ts.length && !isTup e then match cNames c ts, cE n c e with
      | some is, some v => some (.asg (.tup is) v)
      | _, _ => none
      else none
    | .Assign [.Subscript o i _] e _ => match cE n c o, cE n c i, cE n c e with
      | some o, some i, some v => some (.asg (.sub o i) v)
      | _, _, _ => none
    | .If t a b _ => match cE n c t, cSs n c a, cSs n c b with
      | some t, some a, some b => some (.ife t a b)
      | _, _, _ => none
    | .While t b [] _ => match cE n c t, cSs n c b with
      | some t, some b => some (.whl t b)
      | _, _ => none
    | .AugAssign (.Name x _) op e _ => match slotL c x, augOp op, cE n c e with
      | some i, some op, some e => some (.aug i op e)
      | _, _, _ => none
    | .AugAssign (.Attribute o f _) op e _ => (match clsOf c o with
      | some C => if hasF c C f then (match augOp op, cE n c o, cE n c e with
        | some op, some o, some e => some (.augA C o f op e)
        | _, _, _ => none) else none
      | none => none)
    | .Assign [.Attribute o f _] e _ => (match clsOf c o with
      | some C => if hasF c C f then (match cE n c o, cE n c e with
        | some o, some e => some (.asg (.att C o f) e)
        | _, _ => none) else none
      | none => none)
    | .Raise (some (.Call (.Name x _) [e] [] _)) none _ => if isGl c.sc x && notDebug x then (match c.gl.lookup x, cE n c e with
      | some (.exc f), some e => some (.raise x f e)
      | _, _ => none) else none
    | .Try body [.ExceptHandler (some (.Name Dn _)) (some ne) [.Assign [.Name o _] e0 _, .Return (some (.BoolOp .And [eA, eB, eC, .UnaryOp .Not (.Name o2 _) _] _)) _] _] [] [] _ => match tryChk c Dn ne o o2 e0 eA eB eC, cSs n c body with
      | some j, some b => some (.tryS b Dn "spot" j)
      | _, _ => none
    | .For tg it b [] _ => match cTgt c tg, cIt n c it, cSs n c b with
      | some g, some w, some b => some (.for_ g w b)
      | _, _, _ => none
    | _ => none
def cSs : Nat → Ctx → List Stmt → Option Ss
  | 0, _, _ => none
  | _ + 1, _, [] => some .nil
  | n + 1, c, s :: r => match cS n c s, cSs n c r with
    | some s, some r => some (.cons s r)
    | _, _ => none
end
/-- what is said of a def: its name, its names by slot (the parameters first), how many parameters, the lists that are made to change -/
structure Hn where
  f : Str
  N : List Str
  ps : Nat
  mats : List (Nat × Nat × Nat)
  tys : List (Str × Str) := []
  cm : Option (Str × Str) := none
def defIn (b : List Stmt) (f : Str) : Option (Arguments × List Stmt × Scope) := b.findSome? fun s => match s with
  | .FunctionDef n a b _ _ _ sc _ _ _ => if n = f then some (a, b, sc) else none
  | _ => none
def defCls (p : Program) (C m : Str) : Option (Arguments × List Stmt × Scope) := p.main.body.findSome? fun s => match s with
  | .ClassDef n _ _ b _ _ _ _ _ _ _ => if n = C then defIn b m else none
  | _ => none
def defAll (p : Program) (h : Hn) : Option (Arguments × List Stmt × Scope) := match h.cm with
  | none => defIn p.main.body h.f
  | some (C, m) => defCls p C m
def defOf (p : Program) (h : Hn) : Option (List Stmt × Scope) := (defAll p h).map fun x => (x.2.1, x.2.2)
def cDef (p : Program) (gl : List (Str × GK)) (h : Hn) : Option (Str × Df) := match defOf p h with
  | some (b, sc) => (cSs 400 { N := h.N, sc := sc, gl := gl, mats := h.mats, tys := h.tys } b).map fun s => (h.f, ⟨h.ps, h.N.length, s⟩)
  | none => none
def cAll (p : Program) (gl : List (Str × GK)) : List Hn → Option Prg
  | [] => some []
  | h :: r => match cDef p gl h, cAll p gl r with
    | some d, some ds => some (d :: ds)
    | _, _ => none
end Z
end
section
set_option Elab.async false
set_option linter.all false
set_option maxRecDepth 100000
set_option maxHeartbeats 1000000
set_option autoImplicit false
/-! How values, slots and the memory lie in the hand layer's heap. -/
namespace Z
open PySem PySem.Spec PyProof.Rows L2

/-- a dict of the text with text keys and plain values -/
structure DcOk (K : PySem.W.Frag) (w : World) (a : Addr) (ks vs : List D) : Prop where
  at_ : ∃ es n, KDict K w a es n
  no : ∀ z : Str, (ks.findIdx? fun k => D.beq k (.str z)) = none → PySem.W.nsIn K a z = some none
  yes : ∀ (z : Str) (j : Nat), (ks.findIdx? fun k => D.beq k (.str z)) = some j → ∃ (u : Value) (y : Str), PySem.W.nsIn K a z = some (some u) ∧ vs[j]? = some (.str y) ∧ RelV (.str y) u

/-- a list from outside: frozen, or an object of the module -/
def ScL (K : PySem.W.Frag) (H : Hp) (a : Addr) (vs : List V) : Prop := (∃ o : Obj, H a = some (.frz o (.lst vs))) ∨
  ∃ (o : Obj) (its : Array Value) (n : Nat), K.lookup a = some o ∧ o.cls = .type "list" ∧ o.dict = none ∧ o.data = .seq its n ∧ its.size ≤ sizeLine ∧ Vals vs its.toList
theorem ScL.sql {K : PySem.W.Frag} {H : Hp} {a : Addr} {vs : List V} (h : ScL K H a vs) : SqL K H a vs := h.imp .inr id
theorem ScL.keep {K : PySem.W.Frag} {H H' : Hp} {a : Addr} {vs : List V} (h : ScL K H a vs) (k : ∀ o, H a = some (.frz o (.lst vs)) → H' a = some (.frz o (.lst vs))) : ScL K H' a vs := h.imp (fun ⟨o, e⟩ => ⟨o, k o e⟩) id
section
variable (K : PySem.W.Frag) (w : World)
mutual
/-- as: where the memory's objects stand; F: addresses that no value names as a list that is only read -/
inductive Rep (as F : List Addr) (H : Hp) : V → D → Prop
  | non : Rep as F H .non .non
  | bl (b : Bool) : Rep as F H (.bl b) (.bl b)
  | int (i : Int) : Rep as F H (.int i) (.int i)
  | str (s : Str) : Rep as F H (.str s) (.str s)
  | tup {a : Addr} {vs : List V} {ds : List D} : SqT K H a vs → Reps as F H vs ds → Rep as F H (.ref a) (.tup ds)
  | tl {a : Addr} {vs : List V} {ds : List D} : H a = some (.lst vs) → a ∉ as → a ∉ F → Reps as F H vs ds → Rep as F H (.ref a) (.tl ds)
  | sc {a : Addr} {vs : List V} {ds : List D} : ScL K H a vs → Reps as F H vs ds → Rep as F H (.ref a) (.sc ds)
  | dc {a : Addr} {ks vs : List D} : DcOk K w a ks vs → Rep as F H (.ref a) (.dc ks vs)
  | ref {n : Nat} {a : Addr} : as[n]? = some a → Rep as F H (.ref a) (.ref n)
inductive Reps (as F : List Addr) (H : Hp) : List V → List D → Prop
  | nil : Reps as F H [] []
  | cons {v : V} {vs : List V} {d : D} {ds : List D} : Rep as F H v d → Reps as F H vs ds → Reps as F H (v :: vs) (d :: ds)
end
/-- an object of the memory -/
inductive RelM (as F : List Addr) (H : Hp) (a : Addr) : MO → Prop
  | lst {vs : List V} {ds : List D} : H a = some (.lst vs) → Reps K w as F H vs ds → RelM as F H a (.lst ds)
  | ins {dx : Addr} {c : Str} {fs : List (Str × V)} {ps : List (Str × D)} : H a = some (.ins (He.ga K c) dx fs) → fs.map (·.1) = ps.map (·.1) → Reps K w as F H (fs.map (·.2)) (ps.map (·.2)) → RelM as F H a (.ins c ps)
structure RelH (as F : List Addr) (H : Hp) (M : Mem) : Prop where
  len : as.length = M.length
  nd : as.Nodup
  fex : ∀ a ∈ F, H a ≠ none
  obj : ∀ (n : Nat) (a : Addr) (o : MO), as[n]? = some a → M[n]? = some o → RelM K w as F H a o
/-- the slots -/
structure RelE (as F : List Addr) (H : Hp) (σ : L2.St) (env : Env) : Prop where
  len : σ.length = env.length
  at_ : ∀ (i : Nat) (d : D), env[i]? = some (some d) → ∃ v, σ[i]? = some (some v) ∧ Rep K w as F H v d
/-- a value just reckoned, as it may be used behind further steps -/
inductive RepW (as F : List Addr) (H : Hp) : V → D → Prop
  | val {v : V} {d : D} : Rep K w as F H v d → RepW as F H v d
  | fl {a : Addr} {vs : List V} {ds : List D} : H a = some (.lst vs) → a ∉ as → a ∉ F → Reps K w as F H vs ds → RepW as F H (.ref a) (.fl ds)
  | st {a : Addr} {ns : List Int} : H a = some (SetO w a (fun i => decide (i ∈ ns)) ns.length) → a ∉ as → a ∉ F → ns.Nodup → RepW as F H (.ref a) (.st (ns.map .int))
/-- .. at once; H₀: the heap ahead -/
inductive RepR (as F : List Addr) (H₀ H : Hp) (M : Mem) : V → D → Prop
  | val {v : V} {d : D} : Rep K w as F H v d → RepR as F H₀ H M v d
  | fl {a : Addr} {vs : List V} {ds : List D} : H₀ a = none → H a = some (.lst vs) → a ∉ as → Reps K w as (a :: F) H vs ds → RelH K w as (a :: F) H M → RepR as F H₀ H M (.ref a) (.fl ds)
  | st {a : Addr} {ns : List Int} : H₀ a = none → H a = some (SetO w a (fun i => decide (i ∈ ns)) ns.length) → a ∉ as → ns.Nodup → RepR as F H₀ H M (.ref a) (.st (ns.map .int))
end
/-- what changes: a list, an instance -/
def Chg (o : HO) : Prop := (∃ xs, o = .lst xs) ∨ ∃ C dx fs, o = .ins C dx fs
/-- what is kept: all that is not told -/
structure Later (as : List Addr) (H : Hp) (as' : List Addr) (H' : Hp) : Prop where
  pre : ∃ new, as' = as ++ new ∧ ∀ a ∈ new, H a = none
  keep : ∀ (a : Addr) (o : HO), H a = some o → a ∉ as → H' a = some o
  there : ∀ a ∈ as, ∃ o, H a = some o ∧ Chg o

variable {K : PySem.W.Frag} {w : World} {as as' as'' F : List Addr} {H H₀ H' H'' : Hp} {M M' : Mem} {v : V} {vs : List V} {d : D} {ds : List D} {σ : L2.St} {env : Env}

theorem Later.rd (L : Later as H as' H') {a : Addr} {o : HO} (h : Rd H a o) (n : a ∉ as) : Rd H' a o := by
  rcases h with h | ⟨ob, h⟩
  · exact .inl (L.keep a o h n)
  · exact .inr ⟨ob, L.keep a _ h n⟩
theorem Later.nin (L : Later as H as' H') {a : Addr} {o : HO} (h : H a = some o) (n : a ∉ as) : a ∉ as' := by
  obtain ⟨new, e, hn⟩ := L.pre
  intro z
  rw [e] at z
  rcases List.mem_append.mp z with z | z
  · exact n z
  · rw [hn a z] at h
    cases h
theorem Later.ninR (L : Later as H as' H') {a : Addr} {o : HO} (h : Rd H a o) (n : a ∉ as) : a ∉ as' := by
  rcases h with h | ⟨ob, h⟩
  · exact L.nin h n
  · exact L.nin h n
theorem Later.tup (L : Later as H as' H') {a : Addr} {xs : List V} (h : SqT K H a xs) : SqT K H' a xs := by
  rcases h with h | h
  · refine .inl (L.rd h fun z => ?_)
    obtain ⟨y, e, hc⟩ := L.there a z
    rcases h with h | ⟨ob, h⟩
    · rw [e] at h
      cases h
      rcases hc with ⟨_, q⟩ | ⟨_, _, _, q⟩ <;> cases q
    · rw [e] at h
      cases h
      rcases hc with ⟨_, q⟩ | ⟨_, _, _, q⟩ <;> cases q
  · exact .inr h
theorem Later.at_ (L : Later as H as' H') {n : Nat} {a : Addr} (h : as[n]? = some a) : as'[n]? = some a := by
  obtain ⟨new, e, _⟩ := L.pre
  rw [e, List.getElem?_append_left (List.getElem?_eq_some_iff.mp h).1]
  exact h
mutual
theorem Rep.later (L : Later as H as' H') : ∀ {v : V} {d : D}, Rep K w as F H v d → Rep K w as' F H' v d
  | _, _, .non => .non
  | _, _, .bl b => .bl b
  | _, _, .int i => .int i
  | _, _, .str s => .str s
  | _, _, .tup h r => .tup (L.tup h) (Reps.later L r)
  | _, _, .tl h n f r => .tl (L.keep _ _ h n) (L.nin h n) f (Reps.later L r)
  | _, _, .sc h r => .sc (h.keep fun o h => L.keep _ _ h fun z => by obtain ⟨y, e, hc⟩ := L.there _ z; rw [e] at h; cases h; rcases hc with ⟨_, q⟩ | ⟨_, _, _, q⟩ <;> cases q) (Reps.later L r)
  | _, _, .dc h => .dc h
  | _, _, .ref h => .ref (L.at_ h)
theorem Reps.later (L : Later as H as' H') : ∀ {vs : List V} {ds : List D}, Reps K w as F H vs ds → Reps K w as' F H' vs ds
  | _, _, .nil => .nil
  | _, _, .cons h r => .cons (Rep.later L h) (Reps.later L r)
end
theorem Rd.some {a : Addr} {o : HO} (h : Rd H a o) : H a ≠ none := by
  rcases h with h | ⟨ob, h⟩
  · rw [h]
    exact fun z => nomatch z
  · rw [h]
    exact fun z => nomatch z
mutual
/-- a fresh address is named by no value -/
theorem Rep.shun {p : Addr} (hp : H p = none) : ∀ {v : V} {d : D}, Rep K w as F H v d → Rep K w as (p :: F) H v d
  | _, _, .non => .non
  | _, _, .bl b => .bl b
  | _, _, .int i => .int i
  | _, _, .str s => .str s
  | _, _, .tup h r => .tup h (Reps.shun hp r)
  | _, _, .tl h n f r => .tl h n (fun z => (List.mem_cons.mp z).elim (fun e => Rd.some (.inl h) (e ▸ hp)) f) (Reps.shun hp r)
  | _, _, .sc h r => .sc h (Reps.shun hp r)
  | _, _, .dc h => .dc h
  | _, _, .ref h => .ref h
theorem Reps.shun {p : Addr} (hp : H p = none) : ∀ {vs : List V} {ds : List D}, Reps K w as F H vs ds → Reps K w as (p :: F) H vs ds
  | _, _, .nil => .nil
  | _, _, .cons h r => .cons (Rep.shun hp h) (Reps.shun hp r)
end
mutual
theorem Rep.less {G : List Addr} (hg : ∀ a ∈ F, a ∈ G) : ∀ {v : V} {d : D}, Rep K w as G H v d → Rep K w as F H v d
  | _, _, .non => .non
  | _, _, .bl b => .bl b
  | _, _, .int i => .int i
  | _, _, .str s => .str s
  | _, _, .tup h r => .tup h (Reps.less hg r)
  | _, _, .tl h n f r => .tl h n (fun z => f (hg _ z)) (Reps.less hg r)
  | _, _, .sc h r => .sc h (Reps.less hg r)
  | _, _, .dc h => .dc h
  | _, _, .ref h => .ref h
theorem Reps.less {G : List Addr} (hg : ∀ a ∈ F, a ∈ G) : ∀ {vs : List V} {ds : List D}, Reps K w as G H vs ds → Reps K w as F H vs ds
  | _, _, .nil => .nil
  | _, _, .cons h r => .cons (Rep.less hg h) (Reps.less hg r)
end
mutual
/-- a value that names no object of the memory -/
theorem Rep.vals : ∀ {v : V} {d : D}, d.val = true → (∀ a ∈ as', a ∈ as ∨ a ∈ F) → Rep K w as F H v d → Rep K w as' F H v d
  | _, _, _, _, .non => .non
  | _, _, _, _, .bl b => .bl b
  | _, _, _, _, .int i => .int i
  | _, _, _, _, .str s => .str s
  | _, _, e, q, .tup h r => .tup h (Reps.vals e q r)
  | _, _, e, q, .tl h n f r => .tl h (fun z => (q _ z).elim n f) f (Reps.vals e q r)
  | _, _, e, q, .sc h r => .sc h (Reps.vals e q r)
  | _, _, _, _, .dc h => .dc h
  | _, _, e, _, .ref h => by cases e
theorem Reps.vals : ∀ {vs : List V} {ds : List D}, D.vals ds = true → (∀ a ∈ as', a ∈ as ∨ a ∈ F) → Reps K w as F H vs ds → Reps K w as' F H vs ds
  | _, _, _, _, .nil => .nil
  | _, _, e, q, .cons h r => by
    have e' := (Bool.and_eq_true_iff.mp (show (D.val _ && D.vals _) = true from e))
    exact .cons (Rep.vals e'.1 q h) (Reps.vals e'.2 q r)
end
theorem Later.free (L : Later as H as' H') {a : Addr} (h : H' a = none) (n : a ∉ as) : H a = none := by
  cases e : H a with
  | none => rfl
  | some o =>
    rw [L.keep a o e n] at h
    cases h
theorem Later.sub (L : Later as H as' H') : ∀ a ∈ as, a ∈ as' := fun a ha => by
  obtain ⟨new, e, _⟩ := L.pre
  rw [e]
  exact List.mem_append_left _ ha
theorem Later.trans (L : Later as H as' H') (L' : Later as' H' as'' H'') : Later as H as'' H'' := by
  obtain ⟨n1, e1, h1⟩ := L.pre
  obtain ⟨n2, e2, h2⟩ := L'.pre
  refine ⟨⟨n1 ++ n2, by rw [e2, e1, List.append_assoc], fun a ha => ?_⟩, fun a o h n => L'.keep a o (L.keep a o h n) (L.nin h n), L.there⟩
  rcases List.mem_append.mp ha with ha | ha
  · exact h1 a ha
  · refine L.free (h2 a ha) fun z => ?_
    obtain ⟨xs, e, _⟩ := L'.there a (by rw [e1]; exact List.mem_append_left _ z)
    rw [h2 a ha] at e
    cases e
theorem RepW.later (L : Later as H as' H') : RepW K w as F H v d → RepW K w as' F H' v d
  | .val h => .val (h.later L)
  | .fl h n f r => .fl (L.keep _ _ h n) (L.nin h n) f (r.later L)
  | .st h n f r => .st (L.keep _ _ h n) (L.nin h n) f r
theorem sub_cons {a : Addr} : ∀ b ∈ F, b ∈ a :: F := fun _ z => List.mem_cons_of_mem _ z
theorem RelH.less {G : List Addr} (hg : ∀ a ∈ F, a ∈ G) (h : RelH K w as G H M) : RelH K w as F H M := ⟨h.len, h.nd, fun a ha => h.fex a (hg a ha), fun n a o e1 e2 => by
  cases h.obj n a o e1 e2 with
  | lst h1 r => exact .lst h1 (r.less hg)
  | ins h1 e r => exact .ins h1 e (r.less hg)⟩
theorem RepR.weak (h : RepR K w as F H₀ H M v d) (hf : ∀ a ∈ F, H₀ a ≠ none) : RepW K w as F H v d := by
  cases h with
  | val h => exact .val h
  | fl h0 h n r _ => exact .fl h n (fun z => hf _ z h0) (r.less sub_cons)
  | st h0 h n r => exact .st h n (fun z => hf _ z h0) r
/-- looked at from further ahead -/
theorem RepR.back (L : Later as H as' H') (h : RepR K w as'' F H' H'' M v d) (h' : ∀ a ∈ as', a ∈ as'') : RepR K w as'' F H H'' M v d := by
  cases h with
  | val h => exact .val h
  | fl h0 h n r m => exact .fl (L.free h0 fun z => n (h' _ (L.sub _ z))) h n r m
  | st h0 h n r => exact .st (L.free h0 fun z => n (h' _ (L.sub _ z))) h n r
theorem RelE.later (L : Later as H as' H') (h : RelE K w as F H σ env) : RelE K w as' F H' σ env := ⟨h.len, fun i d e => by
  obtain ⟨v, e1, r⟩ := h.at_ i d e
  exact ⟨v, e1, r.later L⟩⟩
theorem RelH.there (h : RelH K w as F H M) : ∀ a ∈ as, ∃ o, H a = some o ∧ Chg o := fun a ha => by
  obtain ⟨n, hn, e⟩ := List.getElem_of_mem ha
  have hl := h.len
  have e1 : as[n]? = some a := by rw [List.getElem?_eq_getElem hn, e]
  have hm : n < M.length := by omega
  have q := h.obj n a M[n] e1 (List.getElem?_eq_getElem hm)
  generalize M[n] = o at q
  cases q with
  | lst h1 _ => exact ⟨_, h1, .inl ⟨_, rfl⟩⟩
  | ins h1 _ _ => exact ⟨_, h1, .inr ⟨_, _, _, rfl⟩⟩
theorem Later.refl (h : RelH K w as F H M) : Later as H as H := ⟨⟨[], by simp, fun a ha => by cases ha⟩, fun a o e _ => e, h.there⟩
theorem nin_new (h : RelH K w as F H M) {p : Addr} (hp : H p = none) : p ∉ as := fun z => by
  obtain ⟨xs, e, _⟩ := h.there p z
  rw [hp] at e
  cases e
/-- a new thing is laid -/
theorem Later.upd (h : RelH K w as F H M) {p : Addr} {o : HO} (hp : H p = none) : Later as H as (L2.upd H p o) := ⟨⟨[], by simp, fun a ha => by cases ha⟩, fun a o e _ => by rw [upd_ne (ne_of_none e hp)]; exact e, h.there⟩
theorem RelM.later (L : Later as H as' H') {a : Addr} {o : MO} (h : RelM K w as F H a o) (e : ∀ xs, H a = some xs → H' a = some xs) : RelM K w as' F H' a o := by
  cases h with
  | lst h1 r => exact .lst (e _ h1) (r.later L)
  | ins h1 q r => exact .ins (e _ h1) q (r.later L)
theorem RelM.shun {p : Addr} (hp : H p = none) {a : Addr} {o : MO} (h : RelM K w as F H a o) : RelM K w as (p :: F) H a o := by
  cases h with
  | lst h1 r => exact .lst h1 (r.shun hp)
  | ins h1 e r => exact .ins h1 e (r.shun hp)
theorem fex_laid (h : RelH K w as F H M) {p : Addr} {o : HO} (hp : H p = none) : ∀ a ∈ p :: F, L2.upd H p o a ≠ none := fun a ha => by
    rcases List.mem_cons.mp ha with e | ha
    · rw [e, upd_same]
      exact (fun z => nomatch z)
    · cases q : H a with
      | none => exact absurd q (h.fex a ha)
      | some u =>
        rw [upd_ne (ne_of_none q hp), q]
        exact (fun z => nomatch z)
theorem RelH.laid (h : RelH K w as F H M) {p : Addr} {o : HO} (hp : H p = none) : RelH K w as (p :: F) (L2.upd H p o) M := ⟨h.len, h.nd, fex_laid h hp, fun n a o' e1 e2 => ((h.obj n a o' e1 e2).shun hp).later (Later.upd h hp) fun xs e => by rw [upd_ne (ne_of_none e hp)]; exact e⟩
theorem RelH.laid0 (h : RelH K w as F H M) {p : Addr} {o : HO} (hp : H p = none) : RelH K w as F (L2.upd H p o) M := (h.laid hp).less sub_cons
theorem Reps.length : ∀ {vs : List V} {ds : List D}, Reps K w as F H vs ds → vs.length = ds.length
  | _, _, .nil => rfl
  | _, _, .cons _ r => by rw [List.length_cons, List.length_cons, Reps.length r]
theorem Reps.get : ∀ {vs : List V} {ds : List D} {i : Nat} {d : D}, Reps K w as F H vs ds → ds[i]? = some d → ∃ v, vs[i]? = some v ∧ Rep K w as F H v d
  | _, _, _, _, .nil, e => by simp at e
  | _, _, 0, _, .cons h _, e => by
    simp at e
    subst e
    exact ⟨_, rfl, h⟩
  | _, _, i + 1, d, .cons _ r, e => by
    obtain ⟨v, e1, h⟩ := Reps.get (i := i) (d := d) r (by simpa using e)
    exact ⟨v, by simpa using e1, h⟩
theorem Reps.get' : ∀ {vs : List V} {ds : List D} {i : Nat} {v : V}, Reps K w as F H vs ds → vs[i]? = some v → ∃ d, ds[i]? = some d ∧ Rep K w as F H v d
  | _, _, _, _, .nil, e => by simp at e
  | _, _, 0, _, .cons h _, e => by
    simp at e
    subst e
    exact ⟨_, rfl, h⟩
  | _, _, i + 1, v, .cons _ r, e => by
    obtain ⟨d, e1, h⟩ := Reps.get' (i := i) (v := v) r (by simpa using e)
    exact ⟨d, by simpa using e1, h⟩
theorem Reps.append : ∀ {vs us : List V} {ds es : List D}, Reps K w as F H vs ds → Reps K w as F H us es → Reps K w as F H (vs ++ us) (ds ++ es)
  | _, _, _, _, .nil, r => r
  | _, _, _, _, .cons h t, r => .cons h (Reps.append t r)
theorem Reps.drop : ∀ {vs : List V} {ds : List D} (n : Nat), Reps K w as F H vs ds → Reps K w as F H (vs.drop n) (ds.drop n)
  | _, _, 0, r => r
  | _, _, _ + 1, .nil => .nil
  | _, _, n + 1, .cons _ t => Reps.drop n t
theorem Reps.take : ∀ {vs : List V} {ds : List D} (n : Nat), Reps K w as F H vs ds → Reps K w as F H (vs.take n) (ds.take n)
  | _, _, 0, _ => .nil
  | _, _, _ + 1, .nil => .nil
  | _, _, n + 1, .cons h t => .cons h (Reps.take n t)
theorem Reps.set : ∀ {vs : List V} {ds : List D} (n : Nat) {v : V} {d : D}, Reps K w as F H vs ds → Rep K w as F H v d → Reps K w as F H (vs.set n v) (ds.set n d)
  | _, _, _, _, _, .nil, _ => .nil
  | _, _, 0, _, _, .cons _ t, r => .cons r t
  | _, _, n + 1, _, _, .cons h t, r => .cons h (Reps.set n t r)
theorem Reps.eraseIdx : ∀ {vs : List V} {ds : List D} (n : Nat), Reps K w as F H vs ds → Reps K w as F H (vs.eraseIdx n) (ds.eraseIdx n)
  | _, _, _, .nil => .nil
  | _, _, 0, .cons _ t => t
  | _, _, n + 1, .cons h t => .cons h (Reps.eraseIdx n t)
theorem Reps.dropLast {vs : List V} {ds : List D} (h : Reps K w as F H vs ds) : Reps K w as F H vs.dropLast ds.dropLast := by
  rw [List.dropLast_eq_take, List.dropLast_eq_take, h.length]
  exact h.take _
theorem Reps.reverse : ∀ {vs : List V} {ds : List D}, Reps K w as F H vs ds → Reps K w as F H vs.reverse ds.reverse
  | _, _, .nil => .nil
  | _, _, .cons h t => by
    rw [List.reverse_cons, List.reverse_cons]
    exact (Reps.reverse t).append (.cons h .nil)
theorem Reps.rep {vs : List V} {ds : List D} (h : Reps K w as F H vs ds) : ∀ k : Nat, Reps K w as F H (List.replicate k vs).flatten (List.replicate k ds).flatten
  | 0 => .nil
  | k + 1 => by
    rw [List.replicate_succ, List.replicate_succ, List.flatten_cons, List.flatten_cons]
    exact h.append (Reps.rep h k)
theorem RepW.frz {e : D} (h : RepW K w as F H v d) (q : Z.frz d = some e) : Rep K w as F H v e := by
  cases h with
  | val h => cases h <;> first | (cases q; constructor <;> assumption) | cases q
  | fl h n f r =>
    cases q
    exact .tl h n f r
  | st => cases q
theorem RelE.set {i : Nat} (h : RelE K w as F H σ env) (r : Rep K w as F H v d) : RelE K w as F H (σ.set i (some v)) (env.set i (some d)) := by
  refine ⟨by rw [List.length_set, List.length_set]; exact h.len, fun j e q => ?_⟩
  have hl := h.len
  by_cases hj : i = j
  · subst hj
    by_cases hi : i < env.length
    · rw [List.getElem?_set_self hi] at q
      cases q
      exact ⟨v, List.getElem?_set_self (by omega), r⟩
    · rw [List.getElem?_eq_none (by rw [List.length_set]; omega)] at q
      cases q
  · rw [List.getElem?_set_ne hj] at q
    obtain ⟨u, e1, r1⟩ := h.at_ j e q
    exact ⟨u, by rw [List.getElem?_set_ne hj]; exact e1, r1⟩
theorem RelE.clear {i : Nat} (h : RelE K w as F H σ env) : RelE K w as F H (σ.set i none) (env.set i none) := by
  refine ⟨by rw [List.length_set, List.length_set]; exact h.len, fun j e q => ?_⟩
  have hl := h.len
  by_cases hj : i = j
  · subst hj
    by_cases hi : i < env.length
    · rw [List.getElem?_set_self hi] at q
      cases q
    · rw [List.getElem?_eq_none (by rw [List.length_set]; omega)] at q
      cases q
  · rw [List.getElem?_set_ne hj] at q
    obtain ⟨u, e1, r1⟩ := h.at_ j e q
    exact ⟨u, by rw [List.getElem?_set_ne hj]; exact e1, r1⟩
theorem RelE.wipe (h : RelE K w as F H σ env) : ∀ is : List Nat, RelE K w as F H (wipe σ is) (wipeE env is)
  | [] => h
  | i :: is => (RelE.wipe h is).clear
theorem RelE.shun {p : Addr} (hp : H p = none) (h : RelE K w as F H σ env) : RelE K w as (p :: F) H σ env := ⟨h.len, fun i d e => by
  obtain ⟨v, e1, r⟩ := h.at_ i d e
  exact ⟨v, e1, r.shun hp⟩⟩
theorem RelE.less {G : List Addr} (hg : ∀ a ∈ F, a ∈ G) (h : RelE K w as G H σ env) : RelE K w as F H σ env := ⟨h.len, fun i d e => by
  obtain ⟨v, e1, r⟩ := h.at_ i d e
  exact ⟨v, e1, r.less hg⟩⟩
theorem nd_ix {α : Type} : ∀ {l : List α} {i j : Nat} {x : α}, l.Nodup → l[i]? = some x → l[j]? = some x → i = j
  | [], _, _, _, _, e, _ => by simp at e
  | y :: r, 0, 0, _, _, _, _ => rfl
  | y :: r, 0, j + 1, x, n, e, q => by
    simp at e q
    subst e
    exact absurd (List.mem_of_getElem? q) (List.nodup_cons.mp n).1
  | y :: r, i + 1, 0, x, n, e, q => by
    simp at e q
    subst q
    exact absurd (List.mem_of_getElem? e) (List.nodup_cons.mp n).1
  | y :: r, i + 1, j + 1, x, n, e, q => by
    rw [nd_ix (i := i) (j := j) (List.nodup_cons.mp n).2 (by simpa using e) (by simpa using q)]
/-- an object of the memory is written -/
theorem RelH.putO (h : RelH K w as F H M) {n : Nat} {a : Addr} {o : HO} {mo : MO} (ha : as[n]? = some a) (r : ∀ {H'}, H' a = some o → Later as H as H' → RelM K w as F H' a mo) :
    Later as H as (L2.upd H a o) ∧ RelH K w as F (L2.upd H a o) (M.set n mo) := by
  have hm : a ∈ as := List.mem_of_getElem? ha
  have L : Later as H as (L2.upd H a o) := ⟨⟨[], by simp, fun a ha => by cases ha⟩, fun b o e nb => by rw [upd_ne (fun z => nb (by rw [z]; exact hm))]; exact e, h.there⟩
  refine ⟨L, by rw [List.length_set]; exact h.len, h.nd, fun b hb => ?_, fun m b o e1 e2 => ?_⟩
  · by_cases hba : b = a
    · rw [hba, upd_same]
      exact fun z => nomatch z
    · rw [upd_ne hba]
      exact h.fex b hb
  have hl := h.len
  by_cases hj : n = m
  · subst hj
    rw [ha] at e1
    cases e1
    have hn : n < M.length := by
      have := (List.getElem?_eq_some_iff.mp ha).1
      omega
    rw [List.getElem?_set_self hn] at e2
    cases e2
    exact r upd_same L
  · rw [List.getElem?_set_ne hj] at e2
    have hb : b ≠ a := fun z => by
      subst z
      exact hj (nd_ix h.nd ha e1)
    exact (h.obj m b o e1 e2).later L fun xs e => by rw [upd_ne hb]; exact e
theorem RelH.put (h : RelH K w as F H M) {n : Nat} {a : Addr} {vs : List V} {ds : List D} (ha : as[n]? = some a) (r : Reps K w as F H vs ds) :
    Later as H as (L2.upd H a (.lst vs)) ∧ RelH K w as F (L2.upd H a (.lst vs)) (M.set n (.lst ds)) := h.putO ha fun e L => .lst e (r.later L)
theorem RelH.putI (h : RelH K w as F H M) {n : Nat} {a dx : Addr} {c : Str} {fs : List (Str × V)} {ps : List (Str × D)} (ha : as[n]? = some a) (e : fs.map (·.1) = ps.map (·.1)) (r : Reps K w as F H (fs.map (·.2)) (ps.map (·.2))) :
    Later as H as (L2.upd H a (.ins (He.ga K c) dx fs)) ∧ RelH K w as F (L2.upd H a (.ins (He.ga K c) dx fs)) (M.set n (.ins c ps)) := h.putO ha fun q L => .ins q e (r.later L)
/-- fields -/
theorem Reps.field : ∀ {fs : List (Str × V)} {ps : List (Str × D)}, fs.map (·.1) = ps.map (·.1) → Reps K w as F H (fs.map (·.2)) (ps.map (·.2)) → ∀ {f : Str}, (∀ {d : D}, ps.lookup f = some d → ∃ v, fs.lookup f = some v ∧ Rep K w as F H v d) ∧ (ps.lookup f = none → fs.lookup f = none)
  | [], [], _, _, f => ⟨fun e => (by cases e), fun _ => rfl⟩
  | [], _ :: _, e, _, _ => by cases e
  | _ :: _, [], e, _, _ => by cases e
  | (g, v) :: fs, (g', d0) :: ps, e, r, f => by
    obtain ⟨e1, e2⟩ := List.cons.inj e
    have e1 : g = g' := e1
    subst e1
    cases r with
    | cons h t =>
      obtain ⟨i1, i2⟩ := Reps.field (f := f) e2 t
      rw [List.lookup_cons, List.lookup_cons]
      cases hb : f == g with
      | true => exact ⟨fun e => (by cases e; exact ⟨v, rfl, h⟩), fun e => (by cases e)⟩
      | false => exact ⟨i1, i2⟩
theorem Reps.putF : ∀ {fs : List (Str × V)} {ps : List (Str × D)} {f : Str} {v : V} {d : D}, fs.map (·.1) = ps.map (·.1) → Reps K w as F H (fs.map (·.2)) (ps.map (·.2)) → Rep K w as F H v d →
    (L2.putF f v fs).map (·.1) = (putA f d ps).map (·.1) ∧ Reps K w as F H ((L2.putF f v fs).map (·.2)) ((putA f d ps).map (·.2))
  | [], [], _, _, _, _, _, h => ⟨rfl, .cons h .nil⟩
  | [], _ :: _, _, _, _, e, _, _ => by cases e
  | _ :: _, [], _, _, _, e, _, _ => by cases e
  | (g, v) :: fs, (g', d0) :: ps, f, u, d, e, r, h => by
    obtain ⟨e1, e2⟩ := List.cons.inj e
    have e1 : g = g' := e1
    subst e1
    cases r with
    | cons h1 t =>
      unfold L2.putF putA
      by_cases hg : g = f
      · rw [if_pos hg, if_pos hg]
        exact ⟨congrArg (g :: ·) e2, .cons h t⟩
      · rw [if_neg hg, if_neg hg]
        obtain ⟨i1, i2⟩ := Reps.putF (f := f) e2 t h
        exact ⟨congrArg (g :: ·) i1, .cons h1 i2⟩
mutual
/-- an address that no value names joins the told ones -/
theorem Rep.join {a : Addr} : ∀ {v : V} {d : D}, Rep K w as (a :: F) H v d → Rep K w (as ++ [a]) F H v d
  | _, _, .non => .non
  | _, _, .bl b => .bl b
  | _, _, .int i => .int i
  | _, _, .str s => .str s
  | _, _, .tup h r => .tup h (Reps.join r)
  | _, _, .tl h n f r => .tl h (fun z => (List.mem_append.mp z).elim n fun z => f (by rw [List.mem_singleton.mp z]; exact List.mem_cons_self)) (fun z => f (List.mem_cons_of_mem _ z)) (Reps.join r)
  | _, _, .sc h r => .sc h (Reps.join r)
  | _, _, .dc h => .dc h
  | _, _, .ref h => .ref (by rw [List.getElem?_append_left (List.getElem?_eq_some_iff.mp h).1]; exact h)
theorem Reps.join {a : Addr} : ∀ {vs : List V} {ds : List D}, Reps K w as (a :: F) H vs ds → Reps K w (as ++ [a]) F H vs ds
  | _, _, .nil => .nil
  | _, _, .cons h r => .cons (Rep.join h) (Reps.join r)
end
/-- a list just made becomes an object of the memory -/
theorem RelH.push {a : Addr} {vs : List V} {ds : List D} (h : RelH K w as (a :: F) H M) (h0 : H₀ a = none) (ha : H a = some (.lst vs)) (na : a ∉ as) (r : Reps K w as (a :: F) H vs ds) (L : Later as'' H₀ as H) :
    Later as'' H₀ (as ++ [a]) H ∧ RelH K w (as ++ [a]) F H (M ++ [.lst ds]) ∧ Rep K w (as ++ [a]) F H (.ref a) (.ref M.length) := by
  have hl := h.len
  obtain ⟨new, e, hn⟩ := L.pre
  refine ⟨⟨⟨new ++ [a], by rw [e, List.append_assoc], fun b hb => ?_⟩, L.keep, L.there⟩, ⟨by rw [List.length_append, List.length_append, hl]; rfl, ?_, fun b hb => h.fex b (List.mem_cons_of_mem _ hb), fun n b o e1 e2 => ?_⟩, .ref (by rw [← hl, List.getElem?_append_right (Nat.le_refl _), Nat.sub_self]; rfl)⟩
  · rcases List.mem_append.mp hb with hb | hb
    · exact hn b hb
    · rw [List.mem_singleton.mp hb]
      exact h0
  · exact List.nodup_append.mpr ⟨h.nd, by simp, fun x hx y hy => by
      rw [List.mem_singleton.mp hy]
      exact fun z => na (z ▸ hx)⟩
  · by_cases hlt : n < as.length
    · rw [List.getElem?_append_left hlt] at e1
      rw [List.getElem?_append_left (by omega)] at e2
      cases h.obj n b o e1 e2 with
      | lst h1 r1 => exact .lst h1 r1.join
      | ins h1 e r1 => exact .ins h1 e r1.join
    · have hlen := (List.getElem?_eq_some_iff.mp e1).1
      rw [List.length_append] at hlen
      have hn' : n = as.length := by
        have : ([a] : List Addr).length = 1 := rfl
        omega
      subst hn'
      rw [List.getElem?_append_right (Nat.le_refl _), Nat.sub_self] at e1
      rw [hl, List.getElem?_append_right (Nat.le_refl _), Nat.sub_self] at e2
      simp at e1 e2
      subst e1 e2
      exact .lst ha r.join
/-- a new instance, without fields -/
theorem RelH.pushI {x dx : Addr} {c : Str} (h : RelH K w as F H M) (hx : H x = none) (hd : H dx = none) (ne : dx ≠ x) :
    Later as H (as ++ [x]) (L2.upd (L2.upd H dx (.own x)) x (.ins (He.ga K c) dx [])) ∧ RelH K w (as ++ [x]) F (L2.upd (L2.upd H dx (.own x)) x (.ins (He.ga K c) dx [])) (M ++ [.ins c []]) ∧
      (as ++ [x])[M.length]? = some x := by
  have hl := h.len
  have h1 := h.laid0 (o := .own x) hd
  have L1 : Later as H as (L2.upd H dx (.own x)) := Later.upd h hd
  have hx1 : L2.upd H dx (.own x) x = none := by rw [upd_ne (Ne.symm ne)]; exact hx
  have h2 := h1.laid (o := .ins (He.ga K c) dx []) hx1
  have L2' : Later as (L2.upd H dx (.own x)) as (L2.upd (L2.upd H dx (.own x)) x (.ins (He.ga K c) dx [])) := Later.upd h1 hx1
  have L := L1.trans L2'
  have nx := nin_new h hx
  refine ⟨⟨⟨[x], rfl, fun b hb => by rw [List.mem_singleton.mp hb]; exact hx⟩, L.keep, L.there⟩, ⟨by rw [List.length_append, List.length_append, hl]; rfl, ?_, fun b hb => h2.fex b (List.mem_cons_of_mem _ hb), fun n b o e1 e2 => ?_⟩, by rw [← hl, List.getElem?_append_right (Nat.le_refl _), Nat.sub_self]; rfl⟩
  · exact List.nodup_append.mpr ⟨h.nd, by simp, fun y hy z hz => by
      rw [List.mem_singleton.mp hz]
      exact fun q => nx (q ▸ hy)⟩
  · by_cases hlt : n < as.length
    · rw [List.getElem?_append_left hlt] at e1
      rw [List.getElem?_append_left (by omega)] at e2
      cases h2.obj n b o e1 e2 with
      | lst h1 r1 => exact .lst h1 r1.join
      | ins h1 e r1 => exact .ins h1 e r1.join
    · have hlen := (List.getElem?_eq_some_iff.mp e1).1
      rw [List.length_append] at hlen
      have hn' : n = as.length := by
        have : ([x] : List Addr).length = 1 := rfl
        omega
      subst hn'
      rw [List.getElem?_append_right (Nat.le_refl _), Nat.sub_self] at e1
      rw [hl, List.getElem?_append_right (Nat.le_refl _), Nat.sub_self] at e2
      simp at e1 e2
      subst e1 e2
      exact .ins upd_same rfl .nil
/-- the value of a list just laid -/
theorem RepR.new (h : RelH K w as F H M) {p : Addr} (hp : H p = none) (r : Reps K w as F H vs ds) : RepR K w as F H (L2.upd H p (.lst vs)) M (.ref p) (.fl ds) :=
  .fl hp upd_same (nin_new h hp) ((r.shun hp).later (Later.upd h hp)) (h.laid hp)
theorem RepR.newT (h : RelH K w as F H M) {p : Addr} (hp : H p = none) (r : Reps K w as F H vs ds) : RepR K w as F H (L2.upd H p (.tup vs)) M (.ref p) (.tup ds) :=
  .val (.tup (SqT.of upd_same) (r.later (Later.upd h hp)))
end Z
end
section
set_option Elab.async false
set_option linter.all false
set_option maxRecDepth 100000
set_option maxHeartbeats 1000000
set_option autoImplicit false
/-! Each operation on values does what the evaluator says. -/
namespace Z
open PySem PySem.Spec PyProof.Rows L2
variable {K : PySem.W.Frag} {w : World} {as as' as'' F : List Addr} {H H₀ H' H'' : Hp} {M M' : Mem} {v : V} {vs : List V} {d : D} {ds : List D} {σ : L2.St} {env : Z.Env}

theorem lim : (16777216 : Nat) = sizeLine := sizeLine_eq.symm
theorem ob {α β : Type} {x : Option α} {f : α → Option β} {b : β} (h : x.bind f = some b) : ∃ a, x = some a ∧ f a = some b := by
  cases x with
  | none => cases h
  | some a => exact ⟨a, rfl, h⟩
theorem om {α β : Type} {x : Option α} {f : α → β} {b : β} (h : x.map f = some b) : ∃ a, x = some a ∧ f a = b := by
  cases x with
  | none => cases h
  | some a => exact ⟨a, rfl, Option.some.inj h⟩
theorem oi {α : Type} {c : Bool} {x : Option α} {b : α} (h : (if c = true then x else none) = some b) : c = true ∧ x = some b := by
  cases c with
  | true => exact ⟨rfl, h⟩
  | false => cases h
theorem op {α : Type} {c : Prop} [Decidable c] {x : Option α} {b : α} (h : (if c then x else none) = some b) : c ∧ x = some b := by
  by_cases q : c
  · rw [if_pos q] at h
    exact ⟨q, h⟩
  · rw [if_neg q] at h
    cases h
theorem band {a b : Bool} (h : (a && b) = true) : a = true ∧ b = true := Bool.and_eq_true_iff.mp h

/-! ### lists, tuples -/
theorem lstOf_ok (hM : RelH K w as F H M) (h : RepW K w as F H v d) (e : lstOf d M = some ds) : ∃ a vs, v = .ref a ∧ H a = some (.lst vs) ∧ Reps K w as F H vs ds := by
  unfold lstOf at e
  cases h with
  | val h =>
    cases h with
    | tl h n f r =>
      cases e
      exact ⟨_, _, rfl, h, r⟩
    | @ref n a h =>
      cases q : M[n]? with
      | none =>
        simp only [q] at e
        cases e
      | some o =>
        have z := hM.obj n a o h q
        cases z with
        | lst h1 r =>
          simp only [q] at e
          cases e
          exact ⟨_, _, rfl, h1, r⟩
        | ins h1 _ r =>
          simp only [q] at e
          cases e
    | _ => cases e
  | fl h n f r =>
    cases e
    exact ⟨_, _, rfl, h, r⟩
  | st => cases e
theorem seqOf_ok (hM : RelH K w as F H M) (h : RepW K w as F H v d) (e : seqOf d M = some ds) : ∃ a vs, v = .ref a ∧ (SqL K H a vs ∨ SqT K H a vs) ∧ Reps K w as F H vs ds := by
  by_cases ht : ∃ es, d = .tup es
  · obtain ⟨es, rfl⟩ := ht
    cases h with
    | val h =>
      cases h with
      | tup h r =>
        cases e
        exact ⟨_, _, rfl, .inr h, r⟩
  · by_cases hs : ∃ es, d = .sc es
    · obtain ⟨es, rfl⟩ := hs
      cases h with
      | val h =>
        cases h with
        | sc h r =>
          cases e
          exact ⟨_, _, rfl, .inl h.sql, r⟩
    · have e' : lstOf d M = some ds := by
        unfold seqOf at e
        unfold lstOf
        cases d with
        | tup es => exact absurd ⟨es, rfl⟩ ht
        | sc es => exact absurd ⟨es, rfl⟩ hs
        | _ => exact e
      obtain ⟨a, vs, e1, h1, r⟩ := lstOf_ok hM h e'
      exact ⟨a, vs, e1, .inl (.inl (.inl h1)), r⟩
theorem seq_len {X : Cx} {pins : List (Addr × Obj)} {s : Shared} {a : Addr} (I : Inv X pins σ H s) (h : SqL X.K H a vs ∨ SqT X.K H a vs) : vs.length ≤ sizeLine := by
  rcases h with h | h
  · obtain ⟨_, _, _, z⟩ := I.list h
    exact z
  · obtain ⟨_, _, _, z⟩ := I.tuple h
    exact z

/-! ### plain data -/
mutual
theorem Rep.dp : ∀ {v : V} {d : D}, d.plain = true → Rep K w as F H v d → Dp K H v d.py
  | _, _, _, .non => .non
  | _, _, _, .bl b => .bl b
  | _, _, _, .int i => .int i
  | _, _, _, .str s => .str s
  | _, _, e, .tup h r => .tup h (Reps.dp e r)
  | _, _, e, .tl h _ _ r => .lst (.inl (.inl h)) (Reps.dp e r)
  | _, _, e, .sc _ _ => by cases e
  | _, _, e, .dc h => by cases e
  | _, _, e, .ref h => by cases e
theorem Reps.dp : ∀ {vs : List V} {ds : List D}, D.plains ds = true → Reps K w as F H vs ds → DpAll K H vs (D.pys ds)
  | _, _, _, .nil => .nil
  | _, _, e, .cons h r => .cons (Rep.dp (band (show (D.plain _ && D.plains _) = true from e)).1 h) (Reps.dp (band (show (D.plain _ && D.plains _) = true from e)).2 r)
end
theorem view_ok {x : PyData} (hM : RelH K w as F H M) (h : RepW K w as F H v d) (e : view d M = some x) : Dp K H v x := by
  cases h with
  | val h =>
    by_cases hr : ∃ n, d = .ref n
    · obtain ⟨n, rfl⟩ := hr
      cases h with
      | @ref _ a h =>
        cases q : M[n]? with
        | none =>
          simp only [view, q] at e
          cases e
        | some o =>
          have z := hM.obj n a o h q
          cases z with
          | lst h1 r =>
            simp only [view, q] at e
            obtain ⟨e1, e2⟩ := oi e
            cases e2
            exact .lst (.inl (.inl h1)) (r.dp e1)
          | ins h1 _ r =>
            simp only [view, q] at e
            cases e
    · have e' : (if d.plain = true then some d.py else none) = some x := by
        cases d with
        | ref n => exact absurd ⟨n, rfl⟩ hr
        | _ => exact e
      obtain ⟨e1, e2⟩ := oi e'
      cases e2
      exact h.dp e1
  | @fl a vs ds h n f r =>
    have e' : (if D.plains ds = true then some (PyData.list (D.pys ds)) else none) = some x := e
    obtain ⟨e1, e2⟩ := oi e'
    cases e2
    exact .lst (.inl (.inl h)) (r.dp e1)
  | st => cases e
theorem viewS_ok {x : PyData} (hM : RelH K w as F H M) (h : RepW K w as F H v d) (e : viewS d M = some x) : Dp K H v x ∧ SeqAt.shaped x = true := by
  unfold viewS at e
  cases q : view d M with
  | none =>
    rw [q] at e
    cases e
  | some y =>
    rw [q] at e
    obtain ⟨e1, e2⟩ := oi e
    cases e2
    exact ⟨view_ok hM h q, e1⟩

section
variable {X : Cx} {pins : List (Addr × Obj)} {s : Shared} {x y : V} {u t : Value} {Q : VK} {a b : D}

/-- what an operation is to reach -/
abbrev Goal (X : Cx) (as F : List Addr) (H : Hp) (M : Mem) (d : D) (Q : VK) : Prop := ∀ (H' : Hp) (z : V), Later as H as H' → RelH X.K X.w as F H' M → RepR X.K X.w as F H H' M z d → Q z H'
theorem Goal.same (hM : RelH X.K X.w as F H M) (q : Goal X as F H M d Q) (r : Rep X.K X.w as F H v d) : Q v H := q H v (.refl hM) hM (.val r)
theorem Goal.list (hM : RelH X.K X.w as F H M) (q : Goal X as F H M (.fl ds) Q) {p : Addr} (hp : H p = none) (r : Reps X.K X.w as F H vs ds) : Q (.ref p) (upd H p (.lst vs)) :=
  q _ _ (.upd hM hp) (hM.laid0 hp) (.new hM hp r)
theorem Goal.tuple (hM : RelH X.K X.w as F H M) (q : Goal X as F H M (.tup ds) Q) {p : Addr} (hp : H p = none) (r : Reps X.K X.w as F H vs ds) : Q (.ref p) (upd H p (.tup vs)) :=
  q _ _ (.upd hM hp) (hM.laid0 hp) (.newT hM hp r)

theorem cDivOk {i j : Int} (h : (decide (0 < j) && decide (j < 1073741824)) = true) : CDiv i j := ⟨of_decide_eq_true (band h).1, of_decide_eq_true (band h).2⟩
theorem binI_ok {o : Operator} {p : BOp} {i j k : Int} {ti tj : Tok} (I : Inv X pins σ H s) (hc : cOp o = some p) (e : binI p i j = some k) (q : Q (.int k) H) :
    wpAny (model X.prog X.w) X.A (binaryOp o (.int i ti) (.int j tj)) (EP X pins σ Q) X.xe s := by
  cases o with
  | Add =>
    cases hc
    cases e
    exact op_add pins s σ H (.int i) (.int j) _ _ Q I ⟨_, rfl⟩ ⟨_, rfl⟩ ⟨_, _, rfl, rfl, q⟩
  | Sub =>
    cases hc
    cases e
    exact op_sub pins s σ H (.int i) (.int j) _ _ Q I ⟨_, rfl⟩ ⟨_, rfl⟩ ⟨_, _, rfl, rfl, q⟩
  | Mult =>
    cases hc
    obtain ⟨h, e⟩ := oi e
    cases e
    refine op_mul pins s σ H (.int i) (.int j) _ _ Q I ⟨_, rfl⟩ ⟨_, rfl⟩ ⟨_, _, rfl, rfl, ?_, q⟩
    rcases Bool.or_eq_true_iff.mp h with h | h
    · exact .inl ⟨of_decide_eq_true (band h).1, of_decide_eq_true (band h).2⟩
    · exact .inr ⟨of_decide_eq_true (band h).1, of_decide_eq_true (band h).2⟩
  | Mod =>
    cases hc
    obtain ⟨h, e⟩ := op e
    cases e
    exact op_mod pins s σ H (.int i) (.int j) _ _ Q I ⟨_, rfl⟩ ⟨_, rfl⟩ ⟨_, _, rfl, rfl, h, q⟩
  | FloorDiv =>
    cases hc
    obtain ⟨h, e⟩ := oi e
    cases e
    exact op_fdiv pins s σ H (.int i) (.int j) _ _ Q I ⟨_, rfl⟩ ⟨_, rfl⟩ ⟨_, _, rfl, rfl, cDivOk h, q⟩
  | Pow =>
    cases hc
    obtain ⟨h, e⟩ := oi e
    cases e
    have h2 := band h
    have h3 := band h2.2
    exact op_pow pins s σ H (.int i) (.int j) _ _ Q I ⟨_, rfl⟩ ⟨_, rfl⟩ ⟨_, _, rfl, rfl, ⟨of_decide_eq_true h2.1, of_decide_eq_true h3.1, of_decide_eq_true h3.2⟩, q⟩
  | LShift =>
    cases hc
    obtain ⟨h, e⟩ := oi e
    cases e
    have h2 := band h
    have h3 := band h2.2
    exact op_shl pins s σ H (.int i) (.int j) _ _ Q I ⟨_, rfl⟩ ⟨_, rfl⟩ ⟨_, _, rfl, rfl, ⟨of_decide_eq_true h2.1, of_decide_eq_true h3.1, of_decide_eq_true h3.2⟩, q⟩
  | BitXor =>
    cases hc
    cases e
    exact op_xor pins s σ H (.int i) (.int j) _ _ Q I ⟨_, rfl⟩ ⟨_, rfl⟩ ⟨_, _, rfl, rfl, q⟩
  | _ => cases hc
theorem Reps.nil_iff (r : Reps K w as F H vs ds) : vs = [] ↔ ds = [] := by
  cases r with
  | nil => simp
  | cons _ _ => simp
theorem bin_ok {o : Operator} {p : BOp} (I : Inv X pins σ H s) (rx : RelV x u) (ry : RelV y t) (hM : RelH X.K X.w as F H M) (hx : RepW X.K X.w as F H x a) (hy : RepW X.K X.w as F H y b)
    (hc : cOp o = some p) (e : binD p a b M = some d) (q : Goal X as F H M d Q) : wpAny (model X.prog X.w) X.A (binaryOp o u t) (EP X pins σ Q) X.xe s := by
  unfold binD at e
  split at e
  · -- ints
    obtain ⟨k, e1, e2⟩ := om e
    subst e2
    cases hx with
    | val hx =>
      cases hx
      cases hy with
      | val hy =>
        cases hy
        obtain ⟨ti, rfl⟩ := rx
        obtain ⟨tj, rfl⟩ := ry
        exact binI_ok I hc e1 (q.same hM (.int k))
  · -- texts
    obtain ⟨h1, e1⟩ := op e
    cases e1
    cases hx with
    | val hx =>
      cases hx
      cases hy with
      | val hy =>
        cases hy
        cases o with
        | Add => exact op_add_str pins s σ H _ _ u t Q I rx ry ⟨_, _, rfl, rfl, by rw [← lim]; exact h1, q.same hM (.str _)⟩
        | _ => cases hc
  · -- tuples
    obtain ⟨h1, e1⟩ := op e
    cases e1
    cases hx with
    | val hx =>
      cases hx with
      | @tup l xs _ hl r1 =>
        cases hy with
        | val hy =>
          cases hy with
          | @tup r ys _ hr r2 =>
            cases o with
            | Add =>
              refine op_catA pins s σ H _ _ u t Q I rx ry ⟨_, _, xs, ys, rfl, rfl, hl, hr, by rw [r1.length, r2.length, ← lim]; exact h1, fun z => ?_, fun z1 z2 => ?_, fun _ _ p hp => q.tuple hM hp (r1.append r2)⟩
              · rw [r1.nil_iff.mp z, List.nil_append] at q
                exact q.same hM (.tup hr r2)
              · rw [r2.nil_iff.mp z2, List.append_nil] at q
                exact q.same hM (.tup hl r1)
            | _ => cases hc
  · -- a tuple times an int
    obtain ⟨h1, e1⟩ := oi e
    cases e1
    cases hx with
    | val hx =>
      cases hx with
      | @tup l xs _ hl r1 =>
        cases hy with
        | val hy =>
          cases hy
          have h2 := band h1
          have h3 := band h2.2
          have h4 := band h3.2
          cases o with
          | Mult =>
            refine op_repT pins s σ H _ _ u t Q I rx ry ⟨_, _, xs, rfl, rfl, hl, fun z => ?_, of_decide_eq_true h3.1, of_decide_eq_true h4.1, by rw [r1.length]; exact of_decide_eq_true h4.2, fun p hp => q.tuple hM hp (r1.rep _)⟩
            rw [r1.nil_iff.mp z] at h2
            cases h2.1
          | _ => cases hc
  · -- lists
    split at e
    · rename_i xs ys e1 e2
      obtain ⟨h1, e3⟩ := op e
      cases e3
      obtain ⟨l, vs1, rfl, hl, r1⟩ := lstOf_ok hM hx e1
      obtain ⟨r, vs2, rfl, hr, r2⟩ := lstOf_ok hM hy e2
      cases o with
      | Add => exact op_cat pins s σ H _ _ u t Q I rx ry ⟨_, _, _, _, rfl, rfl, hl, hr, by rw [r1.length, r2.length, ← lim]; exact h1, fun p hp => q.list hM hp (r1.append r2)⟩
      | _ => cases hc
    · cases e
  · -- a list times an int
    split at e
    · rename_i xs e1
      obtain ⟨zs, e2, e3⟩ := om e
      subst e3
      obtain ⟨h1, e2⟩ := oi e2
      cases e2
      have h2 := band h1
      have h3 := band h2.2
      obtain ⟨l, vs1, rfl, hl, r1⟩ := lstOf_ok hM hx e1
      cases hy with
      | val hy =>
        cases hy
        cases o with
        | Mult => exact op_rep pins s σ H _ _ u t Q I rx ry ⟨_, _, _, rfl, rfl, hl, of_decide_eq_true h2.1, of_decide_eq_true h3.1, by rw [r1.length, ← lim]; exact of_decide_eq_true h3.2, fun p hp => q.list hM hp (r1.rep _)⟩
        | _ => cases hc
    · cases e
  · cases e
end
end Z
end
section
set_option Elab.async false
set_option linter.all false
set_option maxRecDepth 100000
set_option maxHeartbeats 1000000
set_option autoImplicit false
/-! Comparisons, subscripts, truth. -/
namespace Z
open PySem PySem.Spec PyProof.Rows L2
variable {K : PySem.W.Frag} {w : World} {as as' as'' F : List Addr} {H H₀ H' H'' : Hp} {M M' : Mem} {v : V} {vs : List V} {d : D} {ds : List D} {σ : L2.St} {env : Z.Env}

mutual
theorem D.beq_eq : ∀ (a b : D), D.beq a b = true → a = b
  | .non, b, h => by cases b <;> first | rfl | cases h
  | .bl x, b, h => by
    cases b with
    | bl y => rw [show x = y from beq_iff_eq.mp h]
    | _ => cases h
  | .int x, b, h => by
    cases b with
    | int y => rw [show x = y from of_decide_eq_true h]
    | _ => cases h
  | .str x, b, h => by
    cases b with
    | str y => rw [show x = y from of_decide_eq_true h]
    | _ => cases h
  | .tup x, b, h => by
    cases b with
    | tup y => rw [D.beqs_eq x y h]
    | _ => cases h
  | .tl x, b, h => by
    cases b with
    | tl y => rw [D.beqs_eq x y h]
    | _ => cases h
  | .sc x, b, h => by
    cases b with
    | sc y => rw [D.beqs_eq x y h]
    | _ => cases h
  | .fl x, b, h => by
    cases b with
    | fl y => rw [D.beqs_eq x y h]
    | _ => cases h
  | .dc x z, b, h => by
    cases b with
    | dc y t => rw [D.beqs_eq x y (band h).1, D.beqs_eq z t (band h).2]
    | _ => cases h
  | .st x, b, h => by
    cases b with
    | st y => rw [D.beqs_eq x y h]
    | _ => cases h
  | .ref x, b, h => by
    cases b with
    | ref y => rw [show x = y from of_decide_eq_true h]
    | _ => cases h
theorem D.beqs_eq : ∀ (a b : List D), D.beqs a b = true → a = b
  | [], [], _ => rfl
  | [], _ :: _, h => by cases h
  | _ :: _, [], h => by cases h
  | a :: as, b :: bs, h => by
    have h2 := band (show (D.beq a b && D.beqs as bs) = true from h)
    rw [D.beq_eq a b h2.1, D.beqs_eq as bs h2.2]
end
mutual
theorem D.beq_self : ∀ a : D, D.beq a a = true
  | .non => rfl
  | .bl x => by simp [D.beq]
  | .int x => by simp [D.beq]
  | .str x => by simp [D.beq]
  | .tup x => D.beqs_self x
  | .tl x => D.beqs_self x
  | .sc x => D.beqs_self x
  | .fl x => D.beqs_self x
  | .dc x y => by simp [D.beq, D.beqs_self x, D.beqs_self y]
  | .st x => D.beqs_self x
  | .ref x => by simp [D.beq]
theorem D.beqs_self : ∀ a : List D, D.beqs a a = true
  | [] => rfl
  | a :: r => by simp [D.beqs, D.beq_self a, D.beqs_self r]
end

section
variable {X : Cx} {pins : List (Addr × Obj)} {s : Shared} {x y : V} {u t : Value} {Q : VK} {a b : D} {c : Bool}

theorem strOne {z : Str} (h : z.length = 1) : ∃ k, z = ⟨#[k]⟩ ∧ z.cps.toList.headD 0 = k := by
  obtain ⟨⟨l⟩⟩ := z
  cases l with
  | nil => cases h
  | cons k r =>
    cases r with
    | nil => exact ⟨k, rfl, rfl⟩
    | cons _ _ => cases h
theorem keyIdx {ks : List D} {z : Str} : (ks.any fun k => D.beq k (.str z)) = (ks.findIdx? fun k => D.beq k (.str z)).isSome := by
  rw [List.findIdx?_isSome]
theorem mem_ok (hu : X.A.units + 65 < cLine) (I : Inv X pins σ H s) (rx : RelV x u) (ry : RelV y t) (hM : RelH X.K X.w as F H M) (hx : RepW X.K X.w as F H x a) (hy : RepW X.K X.w as F H y b)
    (e : memD a b M = some c) : (Q (.bl c) H → wpAny (model X.prog X.w) X.A (compareOp .In u t) (EP X pins σ Q) X.xe s) ∧ (Q (.bl !c) H → wpAny (model X.prog X.w) X.A (compareOp .NotIn u t) (EP X pins σ Q) X.xe s) := by
  unfold memD at e
  split at e
  · -- a sign of a text
    rename_i z
    cases hy with
    | val hy =>
      cases hy
      split at e
      · rename_i g
        cases hx with
        | val hx =>
          cases hx
          obtain ⟨h1, e1⟩ := op e
          obtain ⟨k, e2, e3⟩ := strOne h1
          rw [e3] at e1
          cases e1
          subst e2
          exact ⟨fun q => op_in_sign pins s σ H _ _ u t Q I rx ry ⟨k, z, rfl, rfl, q⟩, fun q => op_notIn_sign pins s σ H _ _ u t Q I rx ry ⟨k, z, rfl, rfl, q⟩⟩
      · cases e
  · -- a dict's key
    rename_i ks us
    cases hy with
    | val hy =>
      cases hy with
      | dc hd =>
        obtain ⟨⟨es, n, kd⟩, no, yes⟩ := hd
        split at e
        · rename_i z
          cases hx with
          | val hx =>
            cases hx
            cases e
            rw [keyIdx]
            cases q : ks.findIdx? fun k => D.beq k (.str z) with
            | none =>
              exact ⟨fun h => op_in_kd kd pins s σ H _ _ u t Q I rx ry ⟨z, none, rfl, rfl, no z q, h⟩, fun h => op_notIn_kd kd pins s σ H _ _ u t Q I rx ry ⟨z, none, rfl, rfl, no z q, h⟩⟩
            | some j =>
              obtain ⟨uu, yy, h1, _, _⟩ := yes z j q
              exact ⟨fun h => op_in_kd kd pins s σ H _ _ u t Q I rx ry ⟨z, some uu, rfl, rfl, h1, h⟩, fun h => op_notIn_kd kd pins s σ H _ _ u t Q I rx ry ⟨z, some uu, rfl, rfl, h1, h⟩⟩
        · cases e
  · split at e
    · rename_i xs e1
      obtain ⟨e2, e3⟩ := oi e
      split at e3
      · rename_i p e4
        obtain ⟨e5, e6⟩ := oi e3
        cases e6
        obtain ⟨h1, h2⟩ := viewS_ok hM hx e4
        obtain ⟨l, ws, rfl, hl, r⟩ := seqOf_ok hM hy e1
        obtain ⟨cs, r1⟩ := Dp.reads I p x u h1 rx
        have room := room_in_shaped (xs := D.pys xs) h2 hu
        have lay : PyData.canLayAll0 (D.pys xs) = true := SeqAt.canLay_of_shaped e5
        rcases hl with hl | hl
        · obtain ⟨bs, r2⟩ := Dp.reads I (.list (D.pys xs)) _ t (.lst hl (r.dp e2)) ry
          exact ⟨fun q => SeqAt.in_list_reads r2 r1 lay (SeqAt.canLay_of_shaped h2) room ⟨.bl _, H, I, rfl, q⟩, fun q => SeqAt.notIn_list_reads r2 r1 lay (SeqAt.canLay_of_shaped h2) room ⟨.bl _, H, I, rfl, q⟩⟩
        · obtain ⟨bs, r2⟩ := Dp.reads I (.tuple (D.pys xs)) _ t (.tup hl (r.dp e2)) ry
          exact ⟨fun q => SeqAt.in_tuple_reads r2 r1 lay (SeqAt.canLay_of_shaped h2) room ⟨.bl _, H, I, rfl, q⟩, fun q => SeqAt.notIn_tuple_reads r2 r1 lay (SeqAt.canLay_of_shaped h2) room ⟨.bl _, H, I, rfl, q⟩⟩
      · cases e3
    · cases e
theorem eq_ok (hu : X.A.units + 65 < cLine) (I : Inv X pins σ H s) (rx : RelV x u) (ry : RelV y t) (hM : RelH X.K X.w as F H M) (hx : RepW X.K X.w as F H x a) (hy : RepW X.K X.w as F H y b)
    (e : eqD a b M = some c) : (Q (.bl c) H → wpAny (model X.prog X.w) X.A (compareOp .Eq u t) (EP X pins σ Q) X.xe s) ∧ (Q (.bl !c) H → wpAny (model X.prog X.w) X.A (compareOp .NotEq u t) (EP X pins σ Q) X.xe s) := by
  unfold eqD at e
  split at e
  · rename_i p q e1 e2
    cases e
    obtain ⟨h1, h2⟩ := viewS_ok hM hx e1
    obtain ⟨h3, h4⟩ := viewS_ok hM hy e2
    exact ⟨fun z => op_eqD (by omega) pins s σ H x y u t Q I rx ry ⟨p, q, h1, h3, h2, h4, z⟩, fun z => op_neD (by omega) pins s σ H x y u t Q I rx ry ⟨p, q, h1, h3, h2, h4, z⟩⟩
  · cases e
theorem is_ok (I : Inv X pins σ H s) (rx : RelV x u) (ry : RelV y t) (hx : RepW X.K X.w as F H x a) (hy : RepW X.K X.w as F H y b)
    (e : isD a b = some c) : (Q (.bl c) H → wpAny (model X.prog X.w) X.A (compareOp .Is u t) (EP X pins σ Q) X.xe s) ∧ (Q (.bl !c) H → wpAny (model X.prog X.w) X.A (compareOp .IsNot u t) (EP X pins σ Q) X.xe s) := by
  unfold isD at e
  split at e
  · cases hy with
    | val hy =>
      cases hy
      cases e
      have key : isNon a = decide (x = V.non) := by
        cases hx with
        | val hx => cases hx <;> simp [isNon]
        | fl => simp [isNon]
        | st => simp [isNon]
      rw [key]
      exact ⟨fun q => op_isN pins s σ H x .non u t Q I rx ry ⟨rfl, q⟩, fun q => op_notN pins s σ H x .non u t Q I rx ry ⟨rfl, q⟩⟩
  · cases hy with
    | val hy =>
      cases hy
      cases hx with
      | val hx =>
        cases hx
        rename_i p q
        cases e
        have key : (p == q) = decide (q = p) := by cases p <;> cases q <;> rfl
        rw [key]
        exact ⟨fun z => op_isBl pins s σ H _ _ u t Q I rx ry ⟨_, _, rfl, rfl, z⟩, fun z => op_notBl pins s σ H _ _ u t Q I rx ry ⟨_, _, rfl, rfl, z⟩⟩
  · cases e
theorem cmp_ok {o : CmpOp} (hu : X.A.units + 65 < cLine) (I : Inv X pins σ H s) (rx : RelV x u) (ry : RelV y t) (hM : RelH X.K X.w as F H M) (hx : RepW X.K X.w as F H x a) (hy : RepW X.K X.w as F H y b)
    (e : cmpD (cCmp o) a b M = some c) (q : Q (.bl c) H) : wpAny (model X.prog X.w) X.A (compareOp o u t) (EP X pins σ Q) X.xe s := by
  have nn : ∀ {z : Option Bool}, z.map not = some c → z = some !c := fun {z} h => by
    obtain ⟨k, e1, e2⟩ := om h
    rw [e1, ← e2, Bool.not_not]
  have qq : Q (.bl !!c) H := by rw [Bool.not_not]; exact q
  have ord : ∀ {f : COp}, ordD f a b = some c → ∃ i j, x = .int i ∧ y = .int j ∧ a = .int i ∧ b = .int j := fun {f} h => by
    unfold ordD at h
    split at h
    · cases hx with
      | val hx =>
        cases hx
        cases hy with
        | val hy =>
          cases hy
          exact ⟨_, _, rfl, rfl, rfl, rfl⟩
    · cases h
  cases o with
  | Eq => exact (eq_ok hu I rx ry hM hx hy e).1 q
  | NotEq => exact (eq_ok hu I rx ry hM hx hy (nn e)).2 qq
  | In => exact (mem_ok hu I rx ry hM hx hy e).1 q
  | NotIn => exact (mem_ok hu I rx ry hM hx hy (nn e)).2 qq
  | Is => exact (is_ok I rx ry hx hy e).1 q
  | IsNot => exact (is_ok I rx ry hx hy (nn e)).2 qq
  | Lt =>
    obtain ⟨i, j, rfl, rfl, rfl, rfl⟩ := ord (f := .lt) e
    cases e
    exact op_lt pins s σ H _ _ u t Q I rx ry ⟨_, _, rfl, rfl, q⟩
  | LtE =>
    obtain ⟨i, j, rfl, rfl, rfl, rfl⟩ := ord (f := .le) e
    cases e
    exact op_le pins s σ H _ _ u t Q I rx ry ⟨_, _, rfl, rfl, q⟩
  | Gt =>
    obtain ⟨i, j, rfl, rfl, rfl, rfl⟩ := ord (f := .gt) e
    cases e
    exact op_gt pins s σ H _ _ u t Q I rx ry ⟨_, _, rfl, rfl, q⟩
  | GtE =>
    obtain ⟨i, j, rfl, rfl, rfl, rfl⟩ := ord (f := .ge) e
    cases e
    exact op_ge pins s σ H _ _ u t Q I rx ry ⟨_, _, rfl, rfl, q⟩

/-! ### truth -/
theorem isEmpty_len {α β : Type} {l : List α} {m : List β} (h : l.length = m.length) : l.isEmpty = m.isEmpty := by
  cases l <;> cases m <;> first | rfl | (simp at h)
theorem truth_ok (hM : RelH K w as F H M) (hx : RepW K w as F H x a) (e : truth a M = some c) : TruV K x H c := by
  have lst : ∀ {ds : List D}, lstOf a M = some ds → c = !ds.isEmpty → TruV K x H c := fun {ds} h1 h2 => by
    obtain ⟨l, ws, rfl, hl, r⟩ := lstOf_ok hM hx h1
    exact .inl ⟨ws, .inl (.inl hl), by rw [h2, isEmpty_len r.length]⟩
  unfold truth at e
  split at e
  · cases hx with
    | val hx => cases hx; cases e; rfl
  · cases hx with
    | val hx => cases hx; cases e; rfl
  · cases hx with
    | val hx => cases hx; cases e; rfl
  · cases hx with
    | val hx =>
      cases hx
      obtain ⟨h1, e1⟩ := op e
      cases e1
      exact ⟨by rw [← lim]; exact h1, rfl⟩
  · cases hx with
    | val hx =>
      cases hx with
      | tup h r =>
        cases e
        exact .inr (.inl ⟨_, h, by rw [isEmpty_len r.length]⟩)
  · split at e
    · rename_i ds e1
      cases e
      exact lst e1 rfl
    · cases e
/-! ### subscripts -/
theorem seqIx {α : Type} {l : List α} {i : Int} {k : Nat} {z : α} (h : seqIndex? i l.length = some k) (h2 : l[k]? = some z) : atI l i = some z := by
  have hk : ixN l.length i = some k := by
    unfold seqIndex? at h
    unfold ixN
    by_cases h0 : i < 0
    · simp only [h0, if_true] at h
      obtain ⟨h3, h4⟩ := oi h
      have h5 := band h3
      have h6 := of_decide_eq_true h5.1
      rw [if_neg (by omega), if_pos (by omega)]
      exact h4
    · simp only [h0, if_false] at h
      obtain ⟨h3, h4⟩ := oi h
      have h5 := band h3
      have h6 := of_decide_eq_true h5.2
      rw [if_pos (by omega), if_pos h6]
      exact h4
  unfold atI
  rw [hk]
  exact h2
theorem ixN_of {n : Nat} {i : Int} {k : Nat} (h : seqIndex? i n = some k) : ixN n i = some k := by
  unfold seqIndex? at h
  unfold ixN
  by_cases h0 : i < 0
  · simp only [h0, if_true] at h
    obtain ⟨h3, h4⟩ := oi h
    have h5 := band h3
    have h6 := of_decide_eq_true h5.1
    rw [if_neg (by omega), if_pos (by omega)]
    exact h4
  · simp only [h0, if_false] at h
    obtain ⟨h3, h4⟩ := oi h
    have h5 := band h3
    have h6 := of_decide_eq_true h5.2
    rw [if_pos (by omega), if_pos h6]
    exact h4
theorem idx_ok {value slice : Expr} (I : Inv X pins σ H s) (rx : RelV x u) (ry : RelV y t) (hM : RelH X.K X.w as F H M) (hx : RepW X.K X.w as F H x a) (hy : RepW X.K X.w as F H y b)
    (e : idxD a b M = some d) (hs : subscripted slice false u t = operate [u, t] (getItem u t)) (q : ∀ z, Rep X.K X.w as F H z d → Q z H) : wpAny (model X.prog X.w) X.A (subscriptTail value slice u t) (EP X pins σ Q) X.xe s := by
  unfold idxD at e
  split at e
  · -- a sign
    rename_i z i
    obtain ⟨h1, e⟩ := op e
    split at e
    · rename_i k e1
      split at e
      · rename_i g e2
        cases e
        cases hx with
        | val hx =>
          cases hx
          cases hy with
          | val hy =>
            cases hy
            have e3 : seqIndex? i z.cps.toList.length = some k := by
              rw [← e1]
              simp [Str.length]
            exact ix_str value slice pins s σ H _ _ u t Q I rx ry ⟨z, i, g, rfl, rfl, by rw [← lim]; exact h1, seqIx e3 (by simpa using e2), q _ (.str _)⟩ hs
      · cases e
    · cases e
  · -- a dict
    rename_i ks us
    split at e
    · rename_i z
      split at e
      · rename_i j e1
        cases hx with
        | val hx =>
          cases hx with
          | dc hd =>
            obtain ⟨⟨es, n, kd⟩, no, yes⟩ := hd
            cases hy with
            | val hy =>
              cases hy
              obtain ⟨uu, yy, h1, h2, h3⟩ := yes z j e1
              rw [h2] at e
              cases e
              cases (show u = Value.ref _ from rx)
              exact tail_any (kd_type kd I) slot_dict_getitem.lookup (op_item_kd kd pins s σ H _ _ _ t Q I rx ry ⟨z, uu, .str yy, rfl, rfl, h1, h3, q _ (.str _)⟩) hs
      · cases e
    · cases e
  · split at e
    · rename_i xs e1
      split at e
      · rename_i k e2
        obtain ⟨h3, e4⟩ := oi e
        obtain ⟨l, ws, rfl, hl, r⟩ := seqOf_ok hM hx e1
        cases hy with
        | val hy =>
          cases hy
          obtain ⟨z, e5, r5⟩ := r.get e4
          rw [← r.length] at e2
          rcases hl with hl | hl
          · exact ix_list value slice pins s σ H _ _ u t Q I rx ry ⟨l, ws, _, z, rfl, rfl, hl, seqIx e2 e5, q _ r5⟩ hs
          · exact ix_tup value slice pins s σ H _ _ u t Q I rx ry ⟨l, ws, _, z, rfl, rfl, hl, seqIx e2 e5, q _ r5⟩ hs
      · cases e
    · cases e
  · cases e
end
end Z
end
section
set_option Elab.async false
set_option linter.all false
set_option maxRecDepth 100000
set_option maxHeartbeats 1000000
set_option autoImplicit false
/-! Slices, isinstance, built-ins, methods. -/
namespace Z
open PySem PySem.Spec PyProof.Rows L2
variable {K : PySem.W.Frag} {w : World} {as as' as'' F : List Addr} {H H₀ H' H'' : Hp} {M M' : Mem} {v : V} {vs : List V} {d : D} {ds : List D} {σ : L2.St} {env : Z.Env}

theorem Reps.cut (h : Reps K w as F H vs ds) (lo hi : Option Int) : Reps K w as F H (cutV vs lo hi) (cutD ds lo hi) := by
  unfold cutV cutD
  rw [h.length]
  exact (h.drop _).take _
section
variable {X : Cx} {pins : List (Addr × Obj)} {s : Shared} {x y : V} {u t : Value} {Q : VK} {a b : D} {c : Bool}

theorem sli_ok {vl vu : Value} {lo hi : Option Int} {sl : Addr} (I : Inv X pins σ H s) (rx : RelV x u) (hM : RelH X.K X.w as F H M) (hx : RepW X.K X.w as F H x a) (hs : s.heap.IsSliceOf sl vl vu .none) (pl : IsPart vl lo) (pu : IsPart vu hi)
    (e : sliD a lo hi M = some d) (q : Goal X as F H M d Q) :
    ∃ T id, typeLookup (.type T) "__getitem__" = pure (some (.builtin id)) ∧ s.TypeIs u T ∧ wpAny (model X.prog X.w) X.A (getItem u (.ref sl)) (EP X pins σ Q) X.xe s := by
  unfold sliD at e
  split at e
  · rename_i z
    obtain ⟨h1, e1⟩ := op e
    cases e1
    cases hx with
    | val hx =>
      cases hx
      exact sl_str pins s σ H _ u vl vu lo hi sl Q I rx hs pl pu ⟨z, rfl, by rw [← lim]; exact h1, q.same hM (.str _)⟩
  · cases e
    cases hx with
    | val hx =>
      cases hx with
      | @tup l xs _ h r =>
        rename_i ds
        refine sl_tupA pins s σ H _ u vl vu lo hi sl Q I rx hs pl pu ⟨l, xs, rfl, h, fun z => ?_, fun _ p hp => q.tuple hM hp (r.cut lo hi)⟩
        have e2 : cutD ds lo hi = ds := by
          unfold cutD
          rw [← r.length, z.1, z.2, List.drop_zero, Nat.sub_zero, r.length, List.take_length]
        rw [e2] at q
        exact q.same hM (.tup h r)
  · cases e
    cases hx with
    | val hx =>
      cases hx with
      | @sc l xs ds h r => exact sl_list pins s σ H _ u vl vu lo hi sl Q I rx hs pl pu ⟨l, xs, rfl, h.sql, fun p hp => q.list hM hp (r.cut lo hi)⟩
  · split at e
    · rename_i ds e1
      cases e
      obtain ⟨l, xs, rfl, hl, r⟩ := lstOf_ok hM hx e1
      exact sl_list pins s σ H _ u vl vu lo hi sl Q I rx hs pl pu ⟨l, xs, rfl, .inl (.inl hl), fun p hp => q.list hM hp (r.cut lo hi)⟩
    · cases e

/-! ### isinstance -/
def tnN : TN → String
  | .non => "NoneType" | .bool => "bool" | .int => "int" | .str => "str" | .tuple => "tuple" | .list => "list"
def tyN : Ty → String
  | .int => "int" | .bool => "bool" | .str => "str" | .tuple => "tuple" | .list => "list" | .cls _ => "int"
def allTN : List TN := [.non, .bool, .int, .str, .tuple, .list]
def allTy : List Ty := [.int, .bool, .str, .tuple, .list]
theorem kb : (allTN.all fun n => allTy.all fun t => decide (kitB (tnN n) (tyN t) = some (isB n t))) = true := by decide +kernel
theorem kb1 (n : TN) (t : Ty) (h : noCls t = true) : kitB (tnN n) (tyN t) = some (isB n t) := by
  have h1 := List.all_eq_true.mp kb n (by cases n <;> simp [allTN])
  exact of_decide_eq_true (List.all_eq_true.mp h1 t (by cases t <;> first | (simp [allTy]; done) | cases h))
theorem tyOf_ok {n : TN} (hM : RelH K w as F H M) (hx : RepW K w as F H x a) (e : tyOf a M = some n) : TyX K H x (.type (tnN n)) := by
  cases hx with
  | fl => cases e
  | st => cases e
  | val hx =>
    cases hx with
    | non => cases e; exact .base .non
    | bl b => cases e; exact .base (.bl b)
    | int b => cases e; exact .base (.int b)
    | str b => cases e; exact .base (.str b)
    | tup h r =>
      cases e
      rcases h with (h | ⟨ob, h⟩) | ⟨o, us, n, h, hc, _⟩
      · exact .base (.tup h)
      · exact .fTuple h
      · exact .kTuple h hc
    | tl h n f r => cases e; exact .base (.lst h)
    | sc h r => cases e
    | dc h => cases e
    | @ref n l h =>
      unfold tyOf at e
      cases q : M[n]? with
      | none => simp only [q] at e; cases e
      | some o =>
        have z := hM.obj n l o h q
        cases z with
        | lst h1 r => simp only [q] at e; cases e; exact .base (.lst h1)
        | ins h1 _ r => simp only [q] at e; cases e
theorem kitAny_ok {K : PySem.W.Frag} {n : TN} : ∀ {ts : List Ty}, ts.all noCls = true → PySem.W.kitAny K (.type (tnN n)) (ts.map fun t => .type (tyN t)) = some (ts.any (isB n))
  | [], _ => kitAny_nil
  | t :: ts, h => by
    have h2 := band (show (noCls t && ts.all noCls) = true from h)
    have ih := kitAny_ok (K := K) (n := n) h2.2
    have h3 : PySem.W.kitOne K (.type (tnN n)) (.type (tyN t)) = some (isB n t) := kit_ty (kb1 n t h2.1)
    refine kitAny_cons h3 (fun z => ?_) (fun z => ?_)
    · rw [List.any_cons, z, Bool.false_or]
      exact ih
    · rw [List.any_cons, z, Bool.true_or]
/-- isinstance(x, T) -/
theorem isi_one {T : Ty} {tv : V} (I : Inv X pins σ H s) (hM : RelH X.K X.w as F H M) (hx : RepW X.K X.w as F H x a) (rx : RelV x u) (e : isTs a M [T] = some c) (q : Q (.bl c) H) :
    wpAny (model X.prog X.w) X.A (call (.builtin "isinstance") [u, .type (tyN T)]) (EP X pins σ Q) X.xe s := by
  unfold isTs at e
  split at e
  · rename_i n e1
    obtain ⟨h1, e2⟩ := oi e
    cases e2
    have h2 := (band (show (noCls T && ([] : List Ty).all noCls) = true from h1)).1
    have e3 : ([T].any (isB n)) = isB n T := by simp
    rw [e3] at q
    exact call_isi pins s σ H [x, .ty (tyN T)] _ Q I (.cons rx (.cons rfl .nil)) ⟨x, _, _, _, isB n T, rfl, .ty _, tyOf_ok hM hx e1, kit_ty (kb1 n T h2), q⟩
  · cases e
theorem tys_paired : ∀ ts : List Ty, Paired ClsV (ts.map fun t => V.ty (tyN t)) (ts.map fun t => Value.type (tyN t))
  | [] => .nil
  | t :: ts => .cons (.ty _) (tys_paired ts)
/-- isinstance(x, (T, ..)), the tuple just laid -/
theorem isi_many {ts : List Ty} {tp : Addr} (I : Inv X pins σ H s) (hM : RelH X.K X.w as F H M) (hx : RepW X.K X.w as F H x a) (rx : RelV x u) (ht : H tp = some (.tup (ts.map fun t => V.ty (tyN t)))) (e : isTs a M ts = some c) (q : Q (.bl c) H) :
    wpAny (model X.prog X.w) X.A (call (.builtin "isinstance") [u, .ref tp]) (EP X pins σ Q) X.xe s := by
  unfold isTs at e
  split at e
  · rename_i n e1
    obtain ⟨h1, e2⟩ := oi e
    cases e2
    exact call_isiT pins s σ H [x, .ref tp] _ Q I (.cons rx (.cons rfl .nil)) ⟨x, tp, _, _, _, _, rfl, ht, tys_paired ts, tyOf_ok hM hx e1, kitAny_ok h1, q⟩
  · cases e

/-! ### built-ins -/
theorem bls_of {c : Bool} : ∀ {vs : List V} {ds : List D}, Reps K w as F H vs ds → (allB ds = some c → ∃ bs : List Bool, vs = bs.map V.bl ∧ c = bs.all id) ∧ (anyB ds = some c → ∃ bs : List Bool, vs = bs.map V.bl ∧ c = bs.any id) := by
  intro vs ds r
  have key : ∀ {vs : List V} {ds : List D}, Reps K w as F H vs ds → ∀ c, (allB ds = some c → ∃ bs : List Bool, vs = bs.map V.bl ∧ c = bs.all id) ∧ (anyB ds = some c → ∃ bs : List Bool, vs = bs.map V.bl ∧ c = bs.any id) := by
    intro vs ds
    induction ds generalizing vs with
    | nil =>
      intro r c
      cases r
      exact ⟨fun e => ⟨[], rfl, (Option.some.inj e).symm⟩, fun e => ⟨[], rfl, (Option.some.inj e).symm⟩⟩
    | cons d ds ih =>
      intro r c
      cases r with
      | cons h r =>
        cases h with
        | bl b =>
          refine ⟨fun e => ?_, fun e => ?_⟩
          · unfold allB at e
            split at e
            · rename_i c2 e2
              obtain ⟨bs, e3, e4⟩ := (ih r c2).1 e2
              cases e
              exact ⟨b :: bs, by rw [e3, List.map_cons], by rw [e4, List.all_cons]; rfl⟩
            · cases e
          · unfold anyB at e
            split at e
            · rename_i c2 e2
              obtain ⟨bs, e3, e4⟩ := (ih r c2).2 e2
              cases e
              exact ⟨b :: bs, by rw [e3, List.map_cons], by rw [e4, List.any_cons]; rfl⟩
            · cases e
        | _ => exact ⟨fun e => (by cases e), fun e => (by cases e)⟩
  exact key r c
theorem ints_of : ∀ {vs : List V} {ds : List D} {ns : List Int}, Reps K w as F H vs ds → intL ds = some ns → vs = ns.map V.int ∧ ds = ns.map D.int
  | _, [], _, .nil, e => by cases e; exact ⟨rfl, rfl⟩
  | _, d :: ds, ns, .cons h r, e => by
    cases h with
    | int i =>
      obtain ⟨ms, e1, e2⟩ := om (show (intL ds).map (i :: ·) = some ns from e)
      obtain ⟨e3, e4⟩ := ints_of r e1
      subst e2 e3 e4
      exact ⟨rfl, rfl⟩
    | _ => cases e
theorem strs_of : ∀ {vs : List V} {ds : List D} {ns : List Str}, Reps K w as F H vs ds → strL ds = some ns → vs = ns.map V.str ∧ ds = ns.map D.str
  | _, [], _, .nil, e => by cases e; exact ⟨rfl, rfl⟩
  | _, d :: ds, ns, .cons h r, e => by
    cases h with
    | str i =>
      obtain ⟨ms, e1, e2⟩ := om (show (strL ds).map (i :: ·) = some ns from e)
      obtain ⟨e3, e4⟩ := strs_of r e1
      subst e2 e3 e4
      exact ⟨rfl, rfl⟩
    | _ => cases e
end
end Z
end
section
set_option Elab.async false
set_option linter.all false
set_option maxRecDepth 100000
set_option maxHeartbeats 1000000
set_option autoImplicit false
/-! sorted, the built-ins by name, methods. -/
namespace Z
open PySem PySem.Spec PyProof.Rows L2

section
variable {prog : Program} {w : World} {A : Around} {E : Value → Shared → Prop} {s : Shared}
open PySem.Calls PySem.W in
/-- a tuple's items in a list of their own -/
theorem coll_tup {l : Addr} {vs : List Value} {Q : List Value → Shared → Prop} (hl : IsTup s.heap l vs.toArray) (hz : vs.length ≤ sizeLine)
    (h : Q vs { s with heap := (s.heap.push (seqObj "list" #[] 0)).update s.heap.objs.size (Obj.mapSeq (· ++ vs.toArray)) }) : wpAny (model prog w) A (collect (.ref l)) Q E s := by
  obtain ⟨ot, hot, hcls, cap, hdat⟩ := id hl
  have old : (s.heap.push (seqObj "list" #[] 0)).get? l = some ot := Heap.get?_push_of_some _ hot
  unfold collect
  refine wpAny_bind (wpAny_runValue (codeAny_builtin
    entry_proto_collect' ?_))
  show wpAny _ _ (do
    again (.builtin "list.__iadd__" ⟨[← newList [], .ref l], []⟩)) _ _ s
  refine wpAny_bind (wpAny_newList (wpAny_pure ⟨Code.quiet_builtin _ (by decide +kernel),
    codeAny_builtin entry_list_iadd' ?_⟩))
  show wpAny _ _ (Builtin.List.listExtendWith (.ref s.heap.objs.size)
    (.ref l) (.ref s.heap.objs.size)) _ _ { s with heap := s.heap.push (seqObj "list" #[] 0) }
  unfold Builtin.List.listExtendWith
  refine wpAny_bind (wpAny_typeOf (T := "tuple") ⟨ot, old, hcls⟩ ?_)
  have tt : (Value.type "tuple" == Value.type "tuple") = true := by rfl
  rw [if_pos (by rw [tt, Bool.or_true])]
  refine wpAny_bind (listItems_at old hdat ?_)
  refine wpAny_bind (listItems_at (xs := #[]) (n := 0)
    (Heap.get?_push_size _ rfl) rfl ?_)
  rw [if_neg (by simp)]
  have few : (#[] ++ vs.toArray : Array Value).size ≤ sizeLine + 1 := by
    simp only [Array.size_append, List.size_toArray, List.length_nil]
    omega
  refine wpAny_bind (listUpdate_at (xs := #[]) (n := 0)
    (Heap.get?_push_size _ rfl) rfl ?_ (Nat.zero_le _) few)
  refine wpAny_pure ?_
  show wpAny (model prog w) A (do
      let ob ← load s.heap.objs.size
      match ob.data with
      | .seq ys _ => pure ys.toList
      | _ => unsupported "internal:collect") Q E _
  refine wpAny_bind (wpAny_load (get?_update_seq (Heap.get?_push_size _ rfl) _) ?_)
  show wpAny _ _ (pure ((#[] : Array Value) ++ vs.toArray).toList) Q E _
  have back : ((#[] : Array Value) ++ vs.toArray).toList = vs := by simp
  rw [back]
  exact wpAny_pure h
open PySem.Calls PySem.W in
/-- sorted(t[, reverse=b]) of a tuple: list.sort on a new list of its items -/
theorem srt_tup {l : Addr} {vs : List Value} {kw : List (Str × Value)} {Q : Value → Shared → Prop} (hl : IsTup s.heap l vs.toArray) (hz : vs.length ≤ sizeLine) (ha1 : argsOk "sorted" ⟨[.ref l], kw⟩) (ha2 : ∀ x, argsOk "list.sort" ⟨[.ref x], kw⟩)
    (body : ∀ E' : Value → Shared → Prop, wpAny (model prog w) A.in1.in1 (Builtin.«list.sort» ⟨[.ref (s.heap.objs.size + 1)], kw⟩) (fun f s' => f = .done (.ret .none) ∧ Q (.ref (s.heap.objs.size + 1)) s') E' { s with heap := copyHeap s.heap vs }) :
    wpAny (model prog w) A (call (.builtin "sorted") [.ref l] kw) Q E s := by
  refine call_function_entry_kw
    kind_sorted plain_sorted entry_sorted ha1 ?_
  unfold Builtin.«sorted»
  refine wpAny_bind (m := checkCount "sorted" 1 1 _)
    (wpAny_pure ?_)
  refine wpAny_bind (coll_tup hl hz ?_)
  refine wpAny_bind (wpAny_newList ?_ hz)
  have size1 : ((s.heap.push (seqObj "list" #[] 0)).update s.heap.objs.size (Obj.mapSeq (· ++ vs.toArray))).objs.size
      = s.heap.objs.size + 1 := by rw [Heap.size_update, size_push']
  show wpAny _ _ _ _ _ { s with heap := copyHeap s.heap vs }
  rw [size1]
  refine wpAny_bind (wpAny_holding (wpAny_call_entry_kw slot_list_sort
    ⟨_, copyHeap_at s.heap vs, rfl⟩ entry_list_sort ?body (ha2 _)))
  case body =>
    show wpAny (model prog w) A.in1.in1
      (Builtin.«list.sort» ⟨[.ref (s.heap.objs.size + 1)], kw⟩) _ _ _
    refine wpAny_mono (body _) (fun f s1 hf => ?_) fun _ _ e => e
    obtain ⟨rfl, hq⟩ := hf
    exact ⟨_, rfl, wpAny_pure
      ⟨_, rfl, hq⟩⟩
open PySem.W in
theorem srt_tup_data {β : Type} {bs : List β} {enc : β → PyData} {R : Value → β → Prop} {l : Addr} {vs : List Value} {Q : Value → Shared → Prop} (hl : IsTup s.heap l vs.toArray) (e : EachIs R vs bs) (er : EachIs (fun v b => ∃ as, Reads s.heap v (enc b) as) vs bs)
    (hal : AllAlike (bs.map enc)) (hk : Sortable (bs.map enc)) (hL : bs.length ≤ sizeLine) (hu : ∀ b, b ∈ bs → A.units + 2 + (enc b).depth < cLine)
    (h : ∀ out, out.length = bs.length → EachIs R out (bs.mergeSort (dataLe false enc)) → Q (.ref (s.heap.objs.size + 1)) { s with heap := sortedAll s.heap vs (List.toArray out) }) :
    wpAny (model prog w) A (call (.builtin "sorted") [.ref l]) Q E s := by
  have e2 : EachIs (fun v b => ∃ as, Reads (sortingHeap (copyHeap s.heap vs) (s.heap.objs.size + 1) vs) v (enc b) as) vs bs :=
    er.mono fun _ _ ⟨as, r⟩ => ⟨as, PyProof.Rows.Reads.keeps (fun _ _ => sorting_copy_old) r⟩
  have hz : vs.length ≤ sizeLine := by
    rw [e.length]
    exact hL
  refine srt_tup hl hz (args_sorted1 _) (fun _ => args_list_sort _) fun _ => ?_
  refine list_sort_vals (κ := dataKind (sortingHeap (copyHeap s.heap vs) (s.heap.objs.size + 1) vs) (bs.map enc)) (s := { s with heap := copyHeap s.heap vs }) (copyHeap_at s.heap vs) ?_ hz ⟨rfl, ?_⟩
  · exact SortsAt.data (s := { s with heap := sortingHeap (copyHeap s.heap vs) (s.heap.objs.size + 1) vs })
      (each_map (R := fun v d => ∃ as, Reads (sortingHeap (copyHeap s.heap vs) (s.heap.objs.size + 1) vs) v d as) enc e2) hal hk (bound_map hu)
  · refine h _ ?_ (sortVals_data false e e2 hal)
    rw [sortVals_length false rfl]
    exact e.length
end

variable {K : PySem.W.Frag} {w : World} {as as' as'' F : List Addr} {H H₀ H' H'' : Hp} {M M' : Mem} {v : V} {vs : List V} {d : D} {ds : List D} {σ : L2.St} {env : Z.Env}
section
variable {X : Cx} {pins : List (Addr × Obj)} {s : Shared} {x y : V} {u t : Value} {Q : VK} {a b : D} {c : Bool}
open PySem.W in
theorem each_of {us : List Value} : ∀ {vs : List V} {us : List Value} {ds : List D}, Vals vs us → Reps K w as F H vs ds → EachIs (fun u d => ∃ v, RelV v u ∧ Rep K w as F H v d) us ds
  | _, _, _, .nil, .nil => .nil
  | _, _, _, .cons r t, .cons h q => .cons ⟨_, r, h⟩ (each_of (us := us) t q)
open PySem.W in
theorem of_each : ∀ {us : List Value} {ds : List D}, EachIs (fun u d => ∃ v, RelV v u ∧ Rep K w as F H v d) us ds → ∃ vs, Vals vs us ∧ Reps K w as F H vs ds
  | _, _, .nil => ⟨[], .nil, .nil⟩
  | _, _, .cons ⟨v, r, h⟩ t => by
    obtain ⟨vs, r1, r2⟩ := of_each t
    exact ⟨v :: vs, .cons r r1, .cons h r2⟩
theorem plains_mem {ds : List D} (h : D.plains ds = true) : ∀ d ∈ ds, d.plain = true := by
  induction ds with
  | nil => intro d hd; cases hd
  | cons e r ih =>
    have h2 := band (show (D.plain e && D.plains r) = true from h)
    intro d hd
    rcases List.mem_cons.mp hd with q | q
    · rw [q]; exact h2.1
    · exact ih h2.2 d q
open PySem.W in
theorem each_reads (I : Inv X pins σ H s) : ∀ {vs : List V} {us : List Value} {ds : List D}, D.plains ds = true → Vals vs us → Reps X.K X.w as F H vs ds → EachIs (fun u d => ∃ as, Reads s.heap u (D.py d) as) us ds
  | _, _, _, _, .nil, .nil => .nil
  | _, _, _, hp, .cons r1 r2, .cons h t => .cons (Dp.reads I _ _ _ (h.dp (band (show (D.plain _ && D.plains _) = true from hp)).1) r1) (each_reads I (band (show (D.plain _ && D.plains _) = true from hp)).2 r2 t)
theorem sortable_py {ds : List D} (h : sortable ds = true) : PySem.W.Sortable (ds.map D.py) := by
  rcases Bool.or_eq_true_iff.mp h with h | h
  · refine .inl fun p hp => ?_
    obtain ⟨d, hd, rfl⟩ := List.mem_map.mp hp
    have q := List.all_eq_true.mp h d hd
    cases d with
    | tup es =>
      cases es with
      | nil => cases q
      | cons e r => exact ⟨_, _, rfl⟩
    | _ => cases q
  · refine .inr fun p hp => ?_
    obtain ⟨d, hd, rfl⟩ := List.mem_map.mp hp
    have q := List.all_eq_true.mp h d hd
    cases d with
    | int i => exact ⟨(fun z => nomatch z), fun _ z => nomatch z⟩
    | bl i => exact ⟨(fun z => nomatch z), fun _ z => nomatch z⟩
    | str i => exact ⟨(fun z => nomatch z), fun _ z => nomatch z⟩
    | tl i => exact ⟨(fun z => nomatch z), fun _ z => nomatch z⟩
    | _ => cases q
theorem alikes_py {ds : List D} (h : alikes ds = true) : PySem.W.AllAlike (ds.map D.py) := by
  intro p hp q hq
  obtain ⟨d, hd, rfl⟩ := List.mem_map.mp hp
  obtain ⟨e, he, rfl⟩ := List.mem_map.mp hq
  exact List.all_eq_true.mp (List.all_eq_true.mp h d hd) e he
theorem sorted_ok {rev : Bool} {es : List D} (hu : X.A.units + 70 < cLine) (I : Inv X pins σ H s) (rx : RelV x u) (hM : RelH X.K X.w as F H M) (hx : RepW X.K X.w as F H x a)
    (e1 : seqOf a M = some ds) (e2 : sortD rev ds = some es) (hr : rev = true → ∃ zs, lstOf a M = some zs) (q : Goal X as F H M (.fl es) Q) :
    wpAny (model X.prog X.w) X.A (call (.builtin "sorted") [u] (if rev = true then [(Str.ofString "reverse", .bool true)] else [])) (EP X pins σ Q) X.xe s := by
  obtain ⟨h1, e3⟩ := oi e2
  cases e3
  have h2 := band h1
  have h3 := band h2.2
  have h4 := band h3.2
  have room : ∀ b, b ∈ ds → X.A.units + 2 + (D.py b).depth < cLine := fun b hb => by
    have z := of_decide_eq_true (List.all_eq_true.mp h4.2 b hb)
    omega
  have fin : ∀ {its : List Value}, ∀ out : List Value, out.length = ds.length → PySem.W.EachIs (fun u d => ∃ v, RelV v u ∧ Rep X.K X.w as F H v d) out (ds.mergeSort (PySem.W.dataLe rev D.py)) → ds.length ≤ sizeLine →
      EP X pins σ Q (.ref (s.heap.objs.size + 1)) { s with heap := sortedAll s.heap its out.toArray } := fun {its} out hl he hz => by
    obtain ⟨ws, r1, r2⟩ := of_each he
    obtain ⟨ep, at1⟩ := PyProof.Rows.sortedAll_at s.heap its out.toArray
    have len : ws.length ≤ sizeLine := by
      rw [r1.length, hl]
      exact hz
    have fresh : H (s.heap.objs.size + 1) = none := I.hok.fresh (Nat.le_succ _)
    exact ⟨.ref _, upd H (s.heap.objs.size + 1) (.lst ws), I.laid (t' := s.toks) (fun _ _ => PyProof.Rows.sortedAll_old) (Nat.le_succ _) ⟨len, out, ep, r1, at1⟩, rfl, q.list hM fresh r2⟩
  obtain ⟨l, ws, rfl, hl, r⟩ := seqOf_ok hM hx e1
  cases (show u = Value.ref l from rx)
  have hz : ds.length ≤ sizeLine := by
    rw [← r.length]
    exact seq_len I hl
  rcases hl with hl | hl
  · obtain ⟨its, rv, pl, _⟩ := I.list hl
    cases rev with
    | false => exact PySem.W.sorted_data (enc := D.py) pl.isList (each_of (us := its) rv r) (each_reads I h2.1 rv r) (alikes_py h3.1) (sortable_py h4.1) hz room fun out ho he => fin out ho he hz
    | true => exact PySem.W.sorted_rev_data (b := true) (enc := D.py) pl.isList (each_of (us := its) rv r) (each_reads I h2.1 rv r) (alikes_py h3.1) (sortable_py h4.1) hz room fun out ho he => fin out ho he hz
  · cases rev with
    | false =>
      obtain ⟨its, rv, pl, _⟩ := I.tuple hl
      exact srt_tup_data (enc := D.py) pl (each_of (us := its) rv r) (each_reads I h2.1 rv r) (alikes_py h3.1) (sortable_py h4.1) hz room fun out ho he => fin out ho he hz
    | true =>
      obtain ⟨zs, e4⟩ := hr rfl
      obtain ⟨l2, ws2, e5, hl2, _⟩ := lstOf_ok hM hx e4
      cases e5
      obtain ⟨_, _, ⟨o1, q1, q2, _⟩, _⟩ := I.tuple hl
      obtain ⟨_, _, _, _, _, q3⟩ := I.lstM hl2
      rw [q1] at q3
      cases q3
      exact absurd (show Value.type "list" = Value.type "tuple" from q2) (by decide +kernel)
end
end Z
end
section
set_option Elab.async false
set_option linter.all false
set_option maxRecDepth 100000
set_option maxHeartbeats 1000000
set_option autoImplicit false
/-! The built-ins by name, methods. -/
namespace Z
open PySem PySem.Spec PyProof.Rows L2
variable {K : PySem.W.Frag} {w : World} {as as' as'' F : List Addr} {H H₀ H' H'' : Hp} {M M' : Mem} {v : V} {vs : List V} {d : D} {ds : List D} {σ : L2.St} {env : Z.Env}
section
variable {X : Cx} {pins : List (Addr × Obj)} {s : Shared} {x y : V} {u t : Value} {us : List Value} {Q : VK} {a b : D} {c : Bool}

/-- arguments, as they may be used -/
inductive RepWs (K : PySem.W.Frag) (w : World) (as F : List Addr) (H : Hp) : List V → List D → Prop
  | nil : RepWs K w as F H [] []
  | cons {v : V} {vs : List V} {d : D} {ds : List D} : RepW K w as F H v d → RepWs K w as F H vs ds → RepWs K w as F H (v :: vs) (d :: ds)
def biV : Bi → Value
  | .len => .builtin "len" | .all => .builtin "all" | .any => .builtin "any" | .sorted => .builtin "sorted" | .sortedR => .builtin "sorted" | .tuple => .type "tuple" | .list => .type "list" | .set => .type "set"
  | .sum => .builtin "sum" | .min => .builtin "min" | .max => .builtin "max" | .int => .type "int" | .str => .type "str" | .range => .type "range" | .abs => .builtin "abs"
theorem dedupI_mem (k : Int) : ∀ ns : List Int, k ∈ dedupI ns ↔ k ∈ ns
  | [] => Iff.rfl
  | i :: r => by
    rw [dedupI, List.mem_cons, List.mem_cons, List.mem_filter, dedupI_mem k r]
    by_cases h : k = i
    · simp [h]
    · simp [h]
theorem dedupI_nodup : ∀ ns : List Int, (dedupI ns).Nodup
  | [] => by simp [dedupI]
  | i :: r => by
    rw [dedupI, List.nodup_cons]
    refine ⟨fun h => ?_, (dedupI_nodup r).filter _⟩
    have := (List.mem_filter.mp h).2
    simp at this
theorem dedupI_le : ∀ ns : List Int, (dedupI ns).length ≤ ns.length
  | [] => Nat.le_refl _
  | i :: r => by
    rw [dedupI, List.length_cons, List.length_cons]
    have h1 := List.length_filter_le (fun x => x != i) (dedupI r)
    have h2 := dedupI_le r
    omega
theorem nodup_le {α : Type} [DecidableEq α] : ∀ (l m : List α), l.Nodup → (∀ x ∈ l, x ∈ m) → l.length ≤ m.length
  | [], _, _, _ => Nat.zero_le _
  | x :: l, m, n, h => by
    have n2 := List.nodup_cons.mp n
    have hx := h x List.mem_cons_self
    have ih := nodup_le l (m.erase x) n2.2 fun y hy => by
      have ne : y ≠ x := fun z => n2.1 (by rw [← z]; exact hy)
      exact (List.mem_erase_of_ne ne).mpr (h y (List.mem_cons_of_mem _ hy))
    rw [List.length_erase_of_mem hx] at ih
    have pos : 0 < m.length := List.length_pos_of_mem hx
    rw [List.length_cons]
    omega
theorem setR_len {h : Heap} {p : Addr} {ns : List Int} {n : Nat} (r : SetR w h p (fun j => decide (j ∈ ns)) n) (nd : ns.Nodup) : n = ns.length := by
  obtain ⟨o, es, ep, tb, _, _, _, _, nk, iff, _, _, sz, _⟩ := r
  have l1 : (es.toList.map keyOf).length ≤ ns.length := nodup_le _ _ nk fun k hk => by
    have := (iff k).mpr hk
    simpa using this
  have l2 : ns.length ≤ (es.toList.map keyOf).length := nodup_le _ _ nd fun k hk => (iff k).mp (by simpa using hk)
  have e : (es.toList.map keyOf).length = es.size := by simp
  omega
theorem lenD_ok {n : Nat} (I : Inv X pins σ H s) (rx : RelV x u) (hM : RelH X.K X.w as F H M) (hx : RepW X.K X.w as F H x a) (e : lenD a M = some n) (q : Q (.int n) H) :
    wpAny (model X.prog X.w) X.A (call (.builtin "len") [u]) (EP X pins σ Q) X.xe s := by
  unfold lenD at e
  split at e
  · rename_i z
    obtain ⟨h1, e1⟩ := op e
    cases e1
    cases hx with
    | val hx =>
      cases hx
      exact call_len pins s σ H [.str z] [u] Q I (.cons rx .nil) ⟨_, _, rfl, ⟨by rw [← lim]; exact h1, rfl⟩, q⟩
  · cases hx with
    | val hx => cases hx
    | @st p ns h n1 f nd =>
      cases e
      cases (show u = Value.ref p from rx)
      have R := setO_get I h
      obtain ⟨o, es, ep, tb, g1, g2, g3, _, _, _, g4, g5, sz, _⟩ := R
      refine call_len_set g1 g2 g3 g5 (by unfold scanBound at g4; omega) ⟨.int _, H, I.tok _, ⟨_, by rw [sz]⟩, ?_⟩
      rw [List.length_map] at q
      exact q
  · obtain ⟨zs, e1, e2⟩ := om e
    subst e2
    obtain ⟨l, ws, rfl, hl, r⟩ := seqOf_ok hM hx e1
    refine call_len pins s σ H [.ref l] [u] Q I (.cons rx .nil) ⟨_, _, rfl, ?_, q⟩
    rcases hl with hl | hl
    · exact .inl ⟨ws, hl, r.length.symm⟩
    · exact .inr ⟨ws, hl, r.length.symm⟩
theorem set_ok {ns : List Int} (hc : X.calm = true) (I : Inv X pins σ H s) (rx : RelV x u) (hM : RelH X.K X.w as F H M) (hx : RepW X.K X.w as F H x (.tup ds)) (hz : ds.length ≤ 4000) (e : intL ds = some ns) (q : Goal X as F H M (.st ((dedupI ns).map .int)) Q) :
    wpAny (model X.prog X.w) X.A (call (.type "set") [u]) (EP X pins σ Q) X.xe s := by
  cases hx with
  | val hx =>
    cases hx with
    | @tup l ws _ hl r =>
      cases (show u = Value.ref l from rx)
      obtain ⟨e1, e2⟩ := ints_of r e
      subst e1 e2
      obtain ⟨its, rv, pt, _⟩ := I.tuple hl
      rw [List.length_map] at hz
      refine call_set_tupI ns (I.ok.hd hc) pt (by simpa using intsAre_of rv) (by unfold scanBound; omega) fun h' tk c R hcle k => ?_
      have fresh : H s.heap.objs.size = none := I.hok.fresh (Nat.le_refl _)
      have R2 : SetR X.w h' s.heap.objs.size (fun j => decide (j ∈ dedupI ns)) (dedupI ns).length := by
        have ef : (fun j => decide (j ∈ dedupI ns)) = fun j => decide (j ∈ ns) := funext fun j => by simp [dedupI_mem]
        have R3 : SetR X.w h' s.heap.objs.size (fun j => decide (j ∈ dedupI ns)) c := by
          rw [ef]
          exact R
        have ec := setR_len R3 (dedupI_nodup ns)
        rw [← ec]
        exact R3
      refine ⟨.ref _, upd H s.heap.objs.size (SetO X.w s.heap.objs.size (fun j => decide (j ∈ dedupI ns)) (dedupI ns).length), I.laid k (Nat.le_refl _) (setO_new R2), rfl, q _ _ (.upd hM fresh) (hM.laid0 fresh) ?_⟩
      exact .st fresh upd_same (nin_new hM fresh) (dedupI_nodup ns)
theorem bi_ok {bi : Bi} {xs : List V} {as_ : List D} (hn : bi ≠ .sortedR) (hr : bi ≠ .range) (hc : biHot bi = true ∨ X.calm = true) (hu : X.A.units + 70 < cLine) (I : Inv X pins σ H s) (rx : Vals xs us) (hM : RelH X.K X.w as F H M) (hx : RepWs X.K X.w as F H xs as_)
    (e : biD bi as_ M = some d) (q : Goal X as F H M d Q) : wpAny (model X.prog X.w) X.A (call (biV bi) us) (EP X pins σ Q) X.xe s := by
  have calm : biHot bi = false → X.calm = true := fun z => by
    rcases hc with h | h
    · rw [z] at h
      cases h
    · exact h
  unfold biD at e
  split at e
  · -- len
    split at e
    · rename_i n e1
      cases e
      cases hx with
      | cons h0 t =>
        cases t
        obtain ⟨u1, rfl, r1⟩ := rx.one
        exact lenD_ok I r1 hM h0 e1 (q.same hM (.int _))
    · cases e
  · -- all
    obtain ⟨zs, e1, e2⟩ := ob e
    obtain ⟨g, e3, e4⟩ := om e2
    subst e4
    cases hx with
    | cons h0 t =>
      cases t
      obtain ⟨l, ws, rfl, hl, r⟩ := lstOf_ok hM h0 e1
      obtain ⟨bs, e5, e6⟩ := (bls_of r).1 e3
      subst e5
      exact cr_all (calm rfl) pins s σ H _ us Q I rx ⟨l, bs, rfl, .inl (.inl hl), by rw [← e6]; exact q.same hM (.bl _)⟩
  · -- any
    obtain ⟨zs, e1, e2⟩ := ob e
    obtain ⟨g, e3, e4⟩ := om e2
    subst e4
    cases hx with
    | cons h0 t =>
      cases t
      obtain ⟨l, ws, rfl, hl, r⟩ := lstOf_ok hM h0 e1
      obtain ⟨bs, e5, e6⟩ := (bls_of r).2 e3
      subst e5
      exact cr_any (calm rfl) pins s σ H _ us Q I rx ⟨l, bs, rfl, .inl (.inl hl), by rw [← e6]; exact q.same hM (.bl _)⟩
  · -- sorted
    obtain ⟨zs, e1, e2⟩ := ob e
    obtain ⟨es, e3, e4⟩ := om e2
    subst e4
    cases hx with
    | cons h0 t =>
      cases t
      obtain ⟨u1, rfl, r1⟩ := rx.one
      exact sorted_ok (rev := false) hu I r1 hM h0 e1 e3 (fun z => by cases z) q
  · exact absurd rfl hn
  · -- tuple
    obtain ⟨zs, e1, e2⟩ := om e
    subst e2
    cases hx with
    | cons h0 t =>
      cases t
      obtain ⟨l, ws, rfl, hl, r⟩ := seqOf_ok hM h0 e1
      refine call_tuple_of pins s σ H _ us Q I rx ⟨l, ws, rfl, ?_⟩
      rcases hl with hl | hl
      · exact .inl ⟨hl, fun p hp => q.tuple hM hp r⟩
      · exact .inr ⟨hl, q.same hM (.tup hl r)⟩
  · -- list
    obtain ⟨zs, e1, e2⟩ := om e
    subst e2
    cases hx with
    | cons h0 t =>
      cases t
      obtain ⟨l, ws, rfl, hl, r⟩ := seqOf_ok hM h0 e1
      exact call_list_of pins s σ H _ us Q I rx ⟨l, ws, rfl, hl, fun p hp => q.list hM hp r⟩
  · -- set
    obtain ⟨h1, e1⟩ := op e
    obtain ⟨ns, e2, e3⟩ := om e1
    subst e3
    cases hx with
    | cons h0 t =>
      cases t
      obtain ⟨u1, rfl, r1⟩ := rx.one
      exact set_ok (calm rfl) I r1 hM h0 h1 e2 q
  · -- min
    cases e
    cases hx with
    | cons h0 t =>
      cases t with
      | cons h1 t =>
        cases t
        cases h0 with
        | val h0 =>
          cases h0
          cases h1 with
          | val h1 =>
            cases h1
            exact call_min2 (calm rfl) pins s σ H _ us Q I rx ⟨_, _, rfl, q.same hM (.int _)⟩
  · -- max
    cases e
    cases hx with
    | cons h0 t =>
      cases t with
      | cons h1 t =>
        cases t
        cases h0 with
        | val h0 =>
          cases h0
          cases h1 with
          | val h1 =>
            cases h1
            exact call_max2 (calm rfl) pins s σ H _ us Q I rx ⟨_, _, rfl, q.same hM (.int _)⟩
  · -- int
    cases e
    cases hx with
    | cons h0 t =>
      cases t
      cases h0 with
      | val h0 =>
        cases h0
        exact call_int1 pins s σ H _ us Q I rx (.inl ⟨_, rfl, q.same hM (.int _)⟩)
  · cases e
    cases hx with
    | cons h0 t =>
      cases t
      cases h0 with
      | val h0 =>
        cases h0
        exact call_int1 pins s σ H _ us Q I rx (.inr ⟨_, rfl, q.same hM (.int _)⟩)
  · obtain ⟨h1, e1⟩ := op e
    obtain ⟨n, e2, e3⟩ := om e1
    subst e3
    cases hx with
    | cons h0 t =>
      cases t
      cases h0 with
      | val h0 =>
        cases h0
        exact call_int_str pins s σ H _ us Q I rx ⟨_, n, rfl, e2, h1, q.same hM (.int _)⟩
  · -- str
    obtain ⟨h1, e1⟩ := op e
    cases e1
    cases hx with
    | cons h0 t =>
      cases t
      cases h0 with
      | val h0 =>
        cases h0
        exact call_str_int pins s σ H _ us Q I rx ⟨_, rfl, h1, q.same hM (.str _)⟩
  · cases e
    cases hx with
    | cons h0 t =>
      cases t
      cases h0 with
      | val h0 =>
        cases h0
        obtain ⟨u1, rfl, tk, rfl⟩ := rx.one
        exact PySem.P.str_of_str ⟨.str _, H, I, ⟨_, rfl⟩, q.same hM (.str _)⟩
  · exact absurd rfl hr
  · cases e

/-! ### methods -/
def mtN : Mt → String
  | .append => "list.append" | .pop => "list.pop" | .extend => "list.extend" | .insert => "list.insert" | .reverse => "list.reverse" | .index => "list.index" | .count => "list.count"
  | .join => "str.join" | .strip => "str.strip" | .split => "str.split" | .startswith => "str.startswith"
def mtS : Mt → Str
  | .append => "append" | .pop => "pop" | .extend => "extend" | .insert => "insert" | .reverse => "reverse" | .index => "index" | .count => "count"
  | .join => "join" | .strip => "strip" | .split => "split" | .startswith => "startswith"
/-- the receiver's type -/
theorem mthT_ok {m : Mt} (hM : RelH K w as F H M) (hx : RepW K w as F H x a) (e : mthOk m a M = true) : ∃ T : String, PlainAttrs T ∧ Slot T (mtS m) (mtN m) ∧ typeOf (.builtin (mtN m)) = pure (.type "method_descriptor") ∧ tyV K T x H := by
  have lstT : ∀ {r : Nat}, a = .ref r → isLst M r = true → tyV K "list" x H := fun {r} e1 e2 => by
    subst e1
    cases hx with
    | val hx =>
      cases hx with
      | @ref _ l h =>
        unfold isLst at e2
        split at e2
        · rename_i zs q
          have z := hM.obj r l _ h q
          cases z with
          | lst h1 r1 => exact .inl ⟨rfl, _, .inl (.inl h1)⟩
        · cases e2
  unfold mthOk at e
  split at e
  · exact ⟨"list", PySem.F.plainAttrs_list, PySem.F.slot_list_append, PySem.F.type_list_append, lstT rfl e⟩
  · exact ⟨"list", PySem.F.plainAttrs_list, PySem.F.slot_list_pop, PySem.F.type_list_pop, lstT rfl e⟩
  · exact ⟨"list", PySem.F.plainAttrs_list, PySem.F.slot_list_reverse, PySem.F.type_list_reverse, lstT rfl e⟩
  · cases hx with
    | val hx =>
      cases hx
      exact ⟨"str", PySem.F.plainAttrs_str, PySem.F.slot_str_join, PySem.F.type_str_join, rfl⟩
  · cases e
/-- a method -/
theorem mth_ok {m : Mt} {xs : List V} {as_ : List D} (I : Inv X pins σ H s) (rx : RelV x u) (rs : Vals xs us) (hM : RelH X.K X.w as F H M) (hx : RepW X.K X.w as F H x a) (hs : RepWs X.K X.w as F H xs as_) (hp : ∀ d ∈ as_, argOk d = true)
    (e : mthD m a as_ M = some (d, M')) (q : ∀ (H' : Hp) (z : V), Later as H as H' → RelH X.K X.w as F H' M' → Rep X.K X.w as F H' z d → Q z H') :
    wpAny (model X.prog X.w) X.A (call (.builtin (mtN m)) (u :: us)) (EP X pins σ Q) X.xe s := by
  have obj : ∀ {r : Nat} {zs : List D}, a = .ref r → M[r]? = some (.lst zs) → ∃ l ws, x = .ref l ∧ as[r]? = some l ∧ H l = some (.lst ws) ∧ Reps X.K X.w as F H ws zs := fun {r zs} e1 e2 => by
    subst e1
    cases hx with
    | val hx =>
      cases hx with
      | @ref _ l h =>
        have z := hM.obj r l _ h e2
        cases z with
        | lst h1 r1 => exact ⟨l, _, rfl, h, h1, r1⟩
  unfold mthD at e
  split at e
  · -- append
    rename_i r d1
    split at e
    · rename_i zs e1
      obtain ⟨h1, e2⟩ := oi e
      cases e2
      obtain ⟨l, ws, rfl, ha, hl, r1⟩ := obj rfl e1
      cases hs with
      | cons h0 t =>
        rename_i v0 vs0
        cases t
        have hv : Rep X.K X.w as F H v0 d1 := by
          cases h0 with
          | val h => exact h
          | fl => exact absurd (hp _ List.mem_cons_self) (by simp [argOk, D.val])
          | st => exact absurd (hp _ List.mem_cons_self) (by simp [argOk, D.val])
        obtain ⟨L, hM2⟩ := hM.put ha (r1.append (.cons hv .nil))
        exact (mt_append pins s σ H _ _ u us Q I rx rs ⟨l, ws, v0, rfl, rfl, hl, by rw [r1.length, ← lim]; exact of_decide_eq_true h1, q _ _ L hM2 .non⟩)
    · cases e
  · -- pop
    rename_i r
    split at e
    · rename_i zs e1
      split at e
      · rename_i d1 e2
        cases e
        obtain ⟨l, ws, rfl, ha, hl, r1⟩ := obj rfl e1
        obtain ⟨L, hM2⟩ := hM.put ha r1.dropLast
        obtain ⟨v1, e3, h3⟩ := r1.get e2
        rw [← r1.length] at e3
        cases hs
        exact (mt_pop pins s σ H _ _ u us Q I rx rs ⟨l, ws, v1, rfl, rfl, hl, e3, q _ _ L hM2 (h3.later L)⟩)
      · cases e
    · cases e
  · -- pop at a place
    rename_i r i
    split at e
    · rename_i zs e1
      obtain ⟨h1, e⟩ := oi e
      split at e
      · rename_i k e2
        split at e
        · rename_i d1 e3
          cases e
          have h2 := band h1
          obtain ⟨l, ws, rfl, ha, hl, r1⟩ := obj rfl e1
          obtain ⟨L, hM2⟩ := hM.put ha (r1.eraseIdx k)
          obtain ⟨v1, e4, h4⟩ := r1.get e3
          rw [← r1.length] at e2
          cases hs with
          | cons h0 t =>
            cases t
            cases h0 with
            | val h0 =>
              cases h0
              exact (mt_popAt pins s σ H _ _ u us Q I rx rs ⟨l, ws, i, k, v1, rfl, rfl, hl, of_decide_eq_true h2.1, of_decide_eq_true h2.2, e2, e4, q _ _ L hM2 (h4.later L)⟩)
        · cases e
      · cases e
    · cases e
  · -- reverse
    rename_i r
    split at e
    · rename_i zs e1
      cases e
      obtain ⟨l, ws, rfl, ha, hl, r1⟩ := obj rfl e1
      obtain ⟨L, hM2⟩ := hM.put ha r1.reverse
      cases hs
      exact (mt_reverse pins s σ H _ _ u us Q I rx rs ⟨l, ws, rfl, rfl, hl, q _ _ L hM2 .non⟩)
    · cases e
  · -- join
    rename_i z d1
    split at e
    · rename_i zs e1
      split at e
      · rename_i ys e2
        obtain ⟨h1, e3⟩ := op e
        cases e3
        cases hx with
        | val hx =>
          cases hx
          cases hs with
          | cons h0 t =>
            cases t
            obtain ⟨l, ws, rfl, hl, r1⟩ := seqOf_ok hM h0 e1
            obtain ⟨e4, e5⟩ := strs_of r1 e2
            subst e4
            exact (mt_join pins s σ H _ _ u us Q I rx rs ⟨z, l, ys, rfl, rfl, hl, h1, q _ _ (.refl hM) hM (.str _)⟩)
      · cases e
    · cases e
  · cases e
end
end Z
end
section
set_option Elab.async false
set_option linter.all false
set_option maxRecDepth 100000
set_option maxHeartbeats 1000000
set_option autoImplicit false
/-! Readings by the evaluator; what a context must have. -/
namespace Z
open PySem PySem.Spec PyProof.Rows L2
variable {K : PySem.W.Frag} {w : World} {as as' as'' F : List Addr} {H H₀ H' H'' : Hp} {M M' : Mem} {v : V} {vs : List V} {d : D} {ds : List D} {σ : L2.St} {env : Z.Env}

/-- an exception that was raised: its class, its own dict -/
inductive XRep (K : PySem.W.Frag) (w : World) (mg : Str → Option Value) (as F : List Addr) (H : Hp) (cls : Value) (dx : Option Addr) (c : Str) (p : List (Str × D)) : Prop
  | mk {C d : Addr} {fs : List (Str × V)} : cls = .ref C → dx = some d → mg c = some (.ref C) → H d = some (.xd fs) → fs.map (·.1) = p.map (·.1) → Reps K w as F H (fs.map (·.2)) (p.map (·.2)) → XRep K w mg as F H cls dx c p

section
variable (X : Cx)
/-- what is wanted of an answer of the evaluator: a value's, an exception's -/
def PO (as F : List Addr) (H : Hp) (r : Rs D) (Q : VK) : Prop :=
  ∀ (d : D) (M' : Mem), r = .ok d M' → ∀ (as' : List Addr) (H' : Hp) (v : V), Later as H as' H' → RelH X.K X.w as' F H' M' → RepR X.K X.w as' F H H' M' v d → Q v H'
def PX {α : Type} (W : WX) (as F : List Addr) (H : Hp) (σ : L2.St) (r : Rs α) : Prop :=
  ∀ (c : Str) (p : List (Str × D)) (M' : Mem), r = .exc c p M' → ∀ (as' : List Addr) (H' : Hp) (cls : Value) (dx : Option Addr), Later as H as' H' → RelH X.K X.w as' F H' M' → XRep X.K X.w X.mg as' F H' cls dx c p → W cls dx σ H'
def PB (as F : List Addr) (H : Hp) (r : Rs Bool) (Q : Bool → Hp → Prop) : Prop :=
  ∀ (b : Bool) (M' : Mem), r = .ok b M' → ∀ (as' : List Addr) (H' : Hp), Later as H as' H' → RelH X.K X.w as' F H' M' → Q b H'
def PA_ (as F : List Addr) (H : Hp) (r : Rs (List D)) (Q : List V → Hp → Prop) : Prop :=
  ∀ (ds : List D) (M' : Mem), r = .ok ds M' → ∀ (as' : List Addr) (H' : Hp) (vs : List V), Later as H as' H' → RelH X.K X.w as' F H' M' → RepWs X.K X.w as' F H' vs ds → Q vs H'
def tE (g : G) (W : WX) (e : E) : TE := fun σ H Q => ∃ as F M env r, RelE X.K X.w as F H σ env ∧ RelH X.K X.w as F H M ∧ exE g e env M = some r ∧ PO X as F H r Q ∧ PX X W as F H σ r
def tB_ (g : G) (W : WX) (e : E) : TT := fun σ H Q => ∃ as F M env r, RelE X.K X.w as F H σ env ∧ RelH X.K X.w as F H M ∧ exT g e env M = some r ∧ PB X as F H r Q ∧ PX X W as F H σ r
def tEs (g : G) (W : WX) (es : Es) : TA := fun σ H Q => ∃ as F M env r, RelE X.K X.w as F H σ env ∧ RelH X.K X.w as F H M ∧ exEs g es env M = some r ∧ PA_ X as F H r Q ∧ PX X W as F H σ r
end
section
variable {X : Cx} {g : G} {W : WX} {α β : Type} {r : Rs α} {Q : VK}
theorem PX.later (h : PX X W as F H σ r) (L : Later as H as' H') : PX X W as' F H' σ r := fun c p M' e as2 H2 cls dx L2 hM hx => h c p M' e as2 H2 cls dx (L.trans L2) hM hx
theorem PO.later {r : Rs D} (h : PO X as F H r Q) (L : Later as H as' H') : PO X as' F H' r Q := fun d M' e as2 H2 v L2 hM hr => h d M' e as2 H2 v (L.trans L2) hM (hr.back L L2.sub)
theorem PB.later {r : Rs Bool} {Q : Bool → Hp → Prop} (h : PB X as F H r Q) (L : Later as H as' H') : PB X as' F H' r Q := fun d M' e as2 H2 L2 hM => h d M' e as2 H2 (L.trans L2) hM
theorem PA_.later {r : Rs (List D)} {Q : List V → Hp → Prop} (h : PA_ X as F H r Q) (L : Later as H as' H') : PA_ X as' F H' r Q := fun d M' e as2 H2 vs L2 hM hr => h d M' e as2 H2 vs (L.trans L2) hM hr
theorem PO.goal (h : PO X as F H (.ok d M) Q) : Goal X as F H M d Q := fun H' z L hM r => h d M rfl as H' z L hM r
theorem PO.same (h : PO X as F H (.ok d M) Q) (hM : RelH X.K X.w as F H M) (r : Rep X.K X.w as F H v d) : Q v H := h d M rfl as H v (.refl hM) hM (.val r)
/-- the evaluator's steps, one after the other -/
theorem rb {x : Z.R α} {f : α → Mem → Z.R β} {r : Rs β} (e : x.bind f = some r) : (∃ a M', x = some (.ok a M') ∧ f a M' = some r) ∨ ∃ c p M', x = some (.exc c p M') ∧ r = .exc c p M' := by
  unfold R.bind at e
  split at e
  · cases e
  · cases e
    exact .inr ⟨_, _, _, rfl, rfl⟩
  · exact .inl ⟨_, _, rfl, e⟩
theorem tE_bind {e : E} {f : D → Mem → Z.R β} {r : Rs β} (hE : RelE X.K X.w as F H σ env) (hM : RelH X.K X.w as F H M) (ex : (exE g e env M).bind f = some r) (px : PX X W as F H σ r)
    (ho : ∀ d M' as' H' v, Later as H as' H' → RelH X.K X.w as' F H' M' → RepR X.K X.w as' F H H' M' v d → f d M' = some r → Q v H') : tE X g W e σ H Q := by
  rcases rb ex with ⟨d, M', e1, e2⟩ | ⟨c, p, M', e1, e2⟩
  · refine ⟨as, F, M, env, _, hE, hM, e1, fun d2 M2 q as' H' v L hM' hr => ?_, fun c p M2 q => (by cases q)⟩
    cases q
    exact ho d M' as' H' v L hM' hr e2
  · refine ⟨as, F, M, env, _, hE, hM, e1, fun d2 M2 q => (by cases q), fun c2 p2 M2 q as' H' cls dx L hM' hx => ?_⟩
    cases q
    exact px _ _ _ e2 as' H' cls dx L hM' hx
theorem tB_bind {e : E} {f : Bool → Mem → Z.R β} {r : Rs β} {Q : Bool → Hp → Prop} (hE : RelE X.K X.w as F H σ env) (hM : RelH X.K X.w as F H M) (ex : (exT g e env M).bind f = some r) (px : PX X W as F H σ r)
    (ho : ∀ d M' as' H', Later as H as' H' → RelH X.K X.w as' F H' M' → f d M' = some r → Q d H') : tB_ X g W e σ H Q := by
  rcases rb ex with ⟨d, M', e1, e2⟩ | ⟨c, p, M', e1, e2⟩
  · refine ⟨as, F, M, env, _, hE, hM, e1, fun d2 M2 q as' H' L hM' => ?_, fun c p M2 q => (by cases q)⟩
    cases q
    exact ho d M' as' H' L hM' e2
  · refine ⟨as, F, M, env, _, hE, hM, e1, fun d2 M2 q => (by cases q), fun c2 p2 M2 q as' H' cls dx L hM' hx => ?_⟩
    cases q
    exact px _ _ _ e2 as' H' cls dx L hM' hx
theorem tEs_bind {e : Es} {f : List D → Mem → Z.R β} {r : Rs β} {Q : List V → Hp → Prop} (hE : RelE X.K X.w as F H σ env) (hM : RelH X.K X.w as F H M) (ex : (exEs g e env M).bind f = some r) (px : PX X W as F H σ r)
    (ho : ∀ d M' as' H' vs, Later as H as' H' → RelH X.K X.w as' F H' M' → RepWs X.K X.w as' F H' vs d → f d M' = some r → Q vs H') : tEs X g W e σ H Q := by
  rcases rb ex with ⟨d, M', e1, e2⟩ | ⟨c, p, M', e1, e2⟩
  · refine ⟨as, F, M, env, _, hE, hM, e1, fun d2 M2 q as' H' vs L hM' hr => ?_, fun c p M2 q => (by cases q)⟩
    cases q
    exact ho d M' as' H' vs L hM' hr e2
  · refine ⟨as, F, M, env, _, hE, hM, e1, fun d2 M2 q => (by cases q), fun c2 p2 M2 q as' H' cls dx L hM' hx => ?_⟩
    cases q
    exact px _ _ _ e2 as' H' cls dx L hM' hx
theorem lift1_ok {x : Option D} {r : Rs D} (e : lift1 x M = some r) : ∃ d, x = some d ∧ r = .ok d M := by
  unfold lift1 at e
  split at e
  · cases e
    exact ⟨_, rfl, rfl⟩
  · cases e
theorem liftB_ok {x : Option Bool} {r : Rs D} (e : liftB x M = some r) : ∃ b, x = some b ∧ r = .ok (.bl b) M := by
  unfold liftB at e
  split at e
  · cases e
    exact ⟨_, rfl, rfl⟩
  · cases e
end

/-! ### a def's promise -/
/-- F: the evaluator's answer of a call -/
def spR (K : PySem.W.Frag) (w : World) (mg : Str → Option Value) (Fn_ : Fn) (f : Str) (n : Nat) : Sp := fun vs H Q E => vs.length = n ∧ ∃ as F M ds r, RelH K w as F H M ∧ Reps K w as F H vs ds ∧ Fn_ f ds M = some r ∧
  (∀ (d : D) (M' : Mem), r = .ok d M' → ∀ (as' : List Addr) (H' : Hp) (v : V), Later as H as' H' → RelH K w as' F H' M' → RepR K w as' F H H' M' v d → Q v H') ∧
  (∀ (c : Str) (p : List (Str × D)) (M' : Mem), r = .exc c p M' → ∀ (as' : List Addr) (H' : Hp) (cls : Value) (dx : Option Addr), Later as H as' H' → RelH K w as' F H' M' → XRep K w mg as' F H' cls dx c p → E cls dx H')

/-- the module's names are what the table says -/
structure Gls (K : PySem.W.Frag) (w : World) (mg : Str → Option Value) (gl : List (Str × GK)) : Prop where
  con : ∀ (x : Str) (d : D), gl.lookup x = some (.con d) → ∃ (u : Value) (v : V), mg x = some u ∧ RelV v u ∧ ∀ (as F : List Addr) (H : Hp), Rep K w as F H v d
  free : ∀ x : Str, x ∈ biNames → gl.lookup x = none → mg x = none
/-- what an exception's __init__ does: the one argument becomes the one field -/
def spX (C : Addr) (f : Str) : Sp := fun vs H Q E => ∃ (a : Addr) (y : V), vs = [.ref a, y] ∧ H a = some (exo a C none) ∧ ∀ dx, H dx = none → dx ≠ a → Q .non (upd (upd H dx (exd dx [(f, y)])) a (exo a C (some dx)))
/-- what a context must have -/
structure OkC (X : Cx) (c : Ctx) (g : G) (W : WX) : Prop where
  N : X.N = c.N
  nd : X.N.Nodup
  sc : X.env.scope = c.sc
  st : ∀ x, mayStore c x = true → X.fn x = true ∨ X.env.scope.names.lookup x = some .local
  calm : g.calm = true → X.calm = true
  tk : L2N.Takes X W
  room : g.calm = true → Room g.room X.A
  units : X.A.units + 70 < cLine
  gls : Gls X.K X.w X.mg c.gl
  fn : g.calm = true → ∀ f : Str, c.gl.lookup f = some .fn → ∃ (a : Addr) (fd : FuncData) (ps : List Str), X.mg f = some (.ref a) ∧ PySem.W.keepIn X.K (.ref a) = true ∧ Binds X.K fd ps [] ∧
    FnOk X.prog X.w X.K X.mg X.base (L2N.CX X.prog X.w) g.room a fd ps (spR X.K X.w X.mg g.call f ps.length) ∧ ∀ (ds : List D) (M : Mem) (r : Rs D), g.call f ds M = some r → ds.length = ps.length
  atr : ∀ (C : Str) (fl ms : List Str), c.gl.lookup C = some (.cls fl ms) → Cls X.K (He.ga X.K C) ∧ ∀ f ∈ fl, NoAttr X.K (He.ga X.K C) f
  own : g.calm = true → ∀ (C : Str) (fl ms : List Str) (m : Str), c.gl.lookup C = some (.cls fl ms) → m ∈ ms → ∃ (a : Addr) (fd : FuncData) (ps : List Str), Meth X.K (He.ga X.K C) m a ∧ Binds X.K fd ps [] ∧
    FnOk X.prog X.w X.K X.mg X.base (L2N.CX X.prog X.w) g.room a fd ps (spR X.K X.w X.mg g.call (qual C m) ps.length) ∧ ∀ (ds : List D) (M : Mem) (r : Rs D), g.call (qual C m) ds M = some r → ds.length = ps.length
  new : g.calm = true → 1 ≤ g.room → ∀ (C : Str) (fl ms : List Str), c.gl.lookup C = some (.cls fl ms) → X.mg C = some (.ref (He.ga X.K C)) ∧ ∃ (a : Addr) (fd : FuncData) (ps : List Str), Mk X.K (He.ga X.K C) a ∧ Binds X.K fd ps [] ∧
    FnOk X.prog X.w X.K X.mg X.base (L2N.CX X.prog X.w) (g.room - 1) a fd ps (spR X.K X.w X.mg g.ini (qual C "__init__") ps.length) ∧ ∀ (ds : List D) (M : Mem) (r : Rs D), g.ini (qual C "__init__") ds M = some r → ds.length = ps.length
  exc : ∀ C f : Str, c.gl.lookup C = some (.exc f) → X.mg C = some (.ref (He.ga X.K C)) ∧ OexC X.K (He.ga X.K C) ∧ ∃ (a : Addr) (fd : FuncData) (ps : List Str), PySem.W.findIn X.K (.ref (He.ga X.K C)) "__init__" = some (some (.ref a)) ∧ PySem.W.typeIn X.K (.ref a) = some (.type "function") ∧
    Binds X.K fd ps [] ∧ FnOk X.prog X.w X.K X.mg X.base (L2N.CX X.prog X.w) 2 a fd ps (spX (He.ga X.K C) f)
end Z
end
section
set_option Elab.async false
set_option linter.all false
set_option maxRecDepth 100000
set_option maxHeartbeats 1000000
set_option autoImplicit false
/-! Expressions, each kind by itself (but calls of own defs, comprehensions). -/
namespace Z
open PySem PySem.Spec PyProof.Rows L2
variable {K : PySem.W.Frag} {w : World} {as as' as'' F : List Addr} {H H₀ H' H'' : Hp} {M M' : Mem} {v : V} {vs : List V} {d : D} {ds : List D} {σ : L2.St} {env : Z.Env}
theorem RepWs.later (L : Later as H as' H') : ∀ {vs : List V} {ds : List D}, RepWs K w as F H vs ds → RepWs K w as' F H' vs ds
  | _, _, .nil => .nil
  | _, _, .cons h r => .cons (h.later L) (RepWs.later L r)
theorem RepWs.frz : ∀ {vs : List V} {ds es : List D}, RepWs K w as F H vs ds → frzs ds = some es → Reps K w as F H vs es
  | _, _, _, .nil, e => by
    cases e
    exact .nil
  | _, _, _, .cons h r, e => by
    unfold frzs at e
    split at e
    · rename_i e1 e2
      cases e
      exact .cons (h.frz e1) (RepWs.frz r e2)
    · cases e
theorem Reps.weaks : ∀ {vs : List V} {ds : List D}, Reps K w as F H vs ds → RepWs K w as F H vs ds
  | _, _, .nil => .nil
  | _, _, .cons h r => .cons (.val h) (Reps.weaks r)
section
variable {X : Cx} {g : G} {W : WX} {c : Ctx} {e a b : Expr} {ce ca cb : E} {t t' : TE} {pos : Pos}
theorem PE.imp (h : PE X e t) (f : ∀ σ H Q, t' σ H Q → t σ H Q) : PE X e t' := ⟨fun pins s σ H Q I q => h.run pins s σ H Q I (f σ H Q q)⟩
theorem PT.imp {t t' : TT} (h : PT X e t) (f : ∀ σ H Q, t' σ H Q → t σ H Q) : PT X e t' := ⟨fun pins s σ H Q I q => h.run pins s σ H Q I (f σ H Q q)⟩
theorem PW.imp {t t' : TT} (h : PW X e t) (f : ∀ σ H Q, t' σ H Q → t σ H Q) : PW X e t' := ⟨fun wh pins s σ H Q I q => h.run wh pins s σ H Q I (f σ H Q q)⟩
theorem PA.imp {es : List Expr} {t t' : TA} (h : PA X es t) (f : ∀ σ H Q, t' σ H Q → t σ H Q) : PA X es t' := ⟨fun pos pins s σ H Q I q => h.run pos pins s σ H Q I (f σ H Q q)⟩

theorem tE_mono {Q Q' : VK} {H : Hp} (h : tE X g W ce σ H Q) (f : ∀ v H', Q v H' → Q' v H') : tE X g W ce σ H Q' :=
  let ⟨as, F, M, env, r0, hE, hM, ex, po, px⟩ := h
  ⟨as, F, M, env, r0, hE, hM, ex, fun d M' e as' H' v L hM' hr => f _ _ (po d M' e as' H' v L hM' hr), px⟩
theorem tB_mono {Q Q' : Bool → Hp → Prop} {H : Hp} (h : tB_ X g W ce σ H Q) (f : ∀ v H', Q v H' → Q' v H') : tB_ X g W ce σ H Q' :=
  let ⟨as, F, M, env, r0, hE, hM, ex, po, px⟩ := h
  ⟨as, F, M, env, r0, hE, hM, ex, fun d M' e as' H' L hM' => f _ _ (po d M' e as' H' L hM'), px⟩

/-! ### two steps, one after the other -/
/-- behind two values -/
def Two (X : Cx) (W : WX) (σ : L2.St) (env : Z.Env) (k : D → D → Mem → Z.R D) (x y : V) (H2 : Hp) (Q : VK) : Prop :=
  ∃ as2 F M2 da db r, RelE X.K X.w as2 F H2 σ env ∧ RelH X.K X.w as2 F H2 M2 ∧ RepW X.K X.w as2 F H2 x da ∧ RepW X.K X.w as2 F H2 y db ∧ k da db M2 = some r ∧ PO X as2 F H2 r Q ∧ PX X W as2 F H2 σ r
theorem two {Q : VK} {r : Rs D} {k : D → D → Mem → Z.R D} (hE : RelE X.K X.w as F H σ env) (hM : RelH X.K X.w as F H M) (ex : ((exE g ca env M).bind fun x M => (exE g cb env M).bind fun y M => k x y M) = some r) (po : PO X as F H r Q) (px : PX X W as F H σ r) :
    tE X g W ca σ H fun x H1 => tE X g W cb σ H1 fun y H2 => Two X W σ env k x y H2 Q := by
  refine tE_bind hE hM ex px fun da M1 as1 H1 x L1 hM1 r1 e1 => ?_
  refine tE_bind (hE.later L1) hM1 e1 (px.later L1) fun db M2 as2 H2 y L2 hM2 r2 e2 => ?_
  exact ⟨as2, F, M2, da, db, r, (hE.later L1).later L2, hM2, (r1.weak hM.fex).later L2, r2.weak hM1.fex, e2, (po.later L1).later L2, (px.later L1).later L2⟩
theorem one {Q : VK} {r : Rs D} {k : D → Mem → Z.R D} (hE : RelE X.K X.w as F H σ env) (hM : RelH X.K X.w as F H M) (ex : ((exE g ca env M).bind k) = some r) (po : PO X as F H r Q) (px : PX X W as F H σ r) :
    tE X g W ca σ H fun x H1 => ∃ as1 M1 da, RelE X.K X.w as1 F H1 σ env ∧ RelH X.K X.w as1 F H1 M1 ∧ RepW X.K X.w as1 F H1 x da ∧ k da M1 = some r ∧ PO X as1 F H1 r Q ∧ PX X W as1 F H1 σ r := by
  refine tE_bind hE hM ex px fun da M1 as1 H1 x L1 hM1 r1 e1 => ?_
  exact ⟨as1, M1, da, hE.later L1, hM1, r1.weak hM.fex, e1, po.later L1, px.later L1⟩

/-! ### what is read at once -/
theorem s_c (h : PE X e (tC v)) (r : ∀ as F H, Rep X.K X.w as F H v d) : PE X e (tE X g W (.c d)) := PE.imp h fun σ H Q ⟨as, F, M, env, r0, hE, hM, ex, po, px⟩ => by
  unfold exE at ex
  cases ex
  exact po.same hM (r as F H)
theorem s_var {i : Nat} (h : PE X e (tVar i)) : PE X e (tE X g W (.var i)) := PE.imp h fun σ H Q ⟨as, F, M, env, r0, hE, hM, ex, po, px⟩ => by
  unfold exE at ex
  split at ex
  · rename_i d e1
    cases ex
    obtain ⟨v, e2, r⟩ := hE.at_ i d e1
    exact ⟨v, e2, po.same hM r⟩
  · cases ex
/-- a list that is made to change -/
theorem s_mat (h : PE X e (tE X g W ce)) : PE X e (tE X g W (.mat ce)) := PE.imp h fun σ H Q ⟨as, F, M, env, r0, hE, hM, ex, po, px⟩ => by
  unfold exE at ex
  refine tE_bind hE hM ex px fun d M1 as1 H1 x L1 hM1 r1 e1 => ?_
  split at e1
  · rename_i ds
    cases e1
    cases r1 with
    | val r => cases r
    | fl h0 h1 na r2 hM2 =>
      obtain ⟨L2, hM3, r3⟩ := hM2.push h0 h1 na r2 L1
      exact po _ _ rfl _ _ _ L2 hM3 (.val r3)
  · cases e1
/-- a test by a value's truth -/
def Plain (g : G) (ce : E) : Prop := ∀ env M, exT g ce env M = (exE g ce env M).bind fun x M => (truth x M).bind fun t => some (.ok t M)
theorem s_truth (h : PE X e (tE X g W ce)) (pl : Plain g ce) (he : ∀ whole, isTrue e X.env whole = (do let v ← whole; standAt e.pos; holding [v] (truthy v))) : PT X e (tB_ X g W ce) :=
  PT.imp (pt_truth h he) fun σ H Q ⟨as, F, M, env, r0, hE, hM, ex, po, px⟩ => by
    rw [pl] at ex
    refine tE_bind hE hM ex px fun d M1 as1 H1 x L1 hM1 r1 e1 => ?_
    obtain ⟨k, e2, e3⟩ := ob e1
    cases e3
    exact ⟨k, truth_ok hM1 (r1.weak hM.fex) e2, po _ _ rfl _ _ L1 hM1⟩
/-- no test of the evaluator's -/
theorem s_none (h : ∀ env M, exT g ce env M = none) : PT X e (tB_ X g W ce) := ⟨fun pins s σ H Q I ⟨as, F, M, env, r0, hE, hM, ex, po, px⟩ => by
  rw [h] at ex
  cases ex⟩

/-! ### operations -/
def rBin (X : Cx) (p : BOp) : R2 := fun x y H Q => ∃ as F M da db d, RelH X.K X.w as F H M ∧ RepW X.K X.w as F H x da ∧ RepW X.K X.w as F H y db ∧ binD p da db M = some d ∧ Goal X as F H M d Q
theorem op_bin {o : Operator} {p : BOp} (hc : cOp o = some p) : OpR X (binaryOp o) (rBin X p) := fun pins s σ H x y u t Q I rx ry ⟨as, F, M, da, db, d, hM, hx, hy, e, q⟩ => bin_ok I rx ry hM hx hy hc e q
theorem s_bin {o : Operator} {p : BOp} (hc : cOp o = some p) (ha : PE X a (tE X g W ca)) (hb : PE X b (tE X g W cb)) : PE X (.BinOp a o b pos) (tE X g W (.bin p ca cb)) :=
  PE.imp (pe_op (op_bin hc) ha hb) fun σ H Q ⟨as, F, M, env, r0, hE, hM, ex, po, px⟩ => by
    unfold exE at ex
    have h := two (Q := Q) hE hM ex po px
    refine tE_mono h fun x H1 h => tE_mono h fun y H2 ⟨as2, F, M2, da, db, r, hE2, hM2, hx, hy, e, po, px⟩ => ?_
    obtain ⟨d, e3, rfl⟩ := lift1_ok e
    exact ⟨as2, F, M2, da, db, d, hM2, hx, hy, e3, po.goal⟩

theorem s_neg (ha : PE X a (tE X g W ca)) : PE X (.UnaryOp .USub a pos) (tE X g W (.neg ca)) :=
  PE.imp (pe_un un_neg ha) fun σ H Q ⟨as, F, M, env, r0, hE, hM, ex, po, px⟩ => by
    unfold exE at ex
    refine tE_mono (one (Q := Q) hE hM ex po px) fun x H1 ⟨as1, M1, da, hE1, hM1, hx, e, po, px⟩ => ?_
    split at e
    · rename_i i
      cases e
      cases hx with
      | val hx =>
        cases hx
        exact ⟨i, rfl, po.goal.same hM1 (.int _)⟩
    · cases e
theorem s_not (ha : PE X a (tE X g W ca)) : PE X (.UnaryOp .Not a pos) (tE X g W (.not ca)) :=
  PE.imp (pe_notT ha) fun σ H Q ⟨as, F, M, env, r0, hE, hM, ex, po, px⟩ => by
    unfold exE at ex
    refine tE_mono (one (Q := Q) hE hM ex po px) fun x H1 ⟨as1, M1, da, hE1, hM1, hx, e, po, px⟩ => ?_
    obtain ⟨k, e2, e3⟩ := ob e
    cases e3
    exact ⟨k, truth_ok hM1 hx e2, po.goal.same hM1 (.bl _)⟩
theorem s_notT (ha : PT X a (tB_ X g W ca)) : PT X (.UnaryOp .Not a pos) (tB_ X g W (.not ca)) :=
  PT.imp (pt_not ha) fun σ H Q ⟨as, F, M, env, r0, hE, hM, ex, po, px⟩ => by
    unfold exT at ex
    refine tB_bind hE hM ex px fun k M1 as1 H1 L1 hM1 e1 => ?_
    cases e1
    exact po _ _ rfl _ _ L1 hM1
/-- a step that ends the reading -/
theorem tE_end {Q : VK} {r : Rs D} (hE : RelE X.K X.w as F H σ env) (hM : RelH X.K X.w as F H M) (ex : exE g ce env M = some r) (po : PO X as F H r Q) (px : PX X W as F H σ r) : tE X g W ce σ H Q := ⟨as, F, M, env, r, hE, hM, ex, po, px⟩
theorem tB_end {Q : Bool → Hp → Prop} {r : Rs Bool} (hE : RelE X.K X.w as F H σ env) (hM : RelH X.K X.w as F H M) (ex : exT g ce env M = some r) (po : PB X as F H r Q) (px : PX X W as F H σ r) : tB_ X g W ce σ H Q := ⟨as, F, M, env, r, hE, hM, ex, po, px⟩
theorem s_and {rest : List Expr} (ha : PE X a (tE X g W ca)) (hb : PE X (.BoolOp .And (b :: rest) pos) (tE X g W cb)) : PE X (.BoolOp .And (a :: b :: rest) pos) (tE X g W (.and ca cb)) :=
  PE.imp (pe_and ha hb) fun σ H Q ⟨as, F, M, env, r0, hE, hM, ex, po, px⟩ => by
    unfold exE at ex
    refine tE_mono (one (Q := Q) hE hM ex po px) fun x H1 ⟨as1, M1, da, hE1, hM1, hx, e, po, px⟩ => ?_
    split at e
    · cases hx with
      | val hx =>
        cases hx
        exact ⟨true, rfl, by rw [if_pos rfl]; exact tE_end hE1 hM1 e po px⟩
    · cases hx with
      | val hx =>
        cases hx
        cases e
        exact ⟨false, rfl, by rw [if_neg Bool.false_ne_true]; exact po.goal.same hM1 (.bl _)⟩
    · cases e
theorem s_or {rest : List Expr} (ha : PE X a (tE X g W ca)) (hb : PE X (.BoolOp .Or (b :: rest) pos) (tE X g W cb)) : PE X (.BoolOp .Or (a :: b :: rest) pos) (tE X g W (.or ca cb)) :=
  PE.imp (pe_or ha hb) fun σ H Q ⟨as, F, M, env, r0, hE, hM, ex, po, px⟩ => by
    unfold exE at ex
    refine tE_mono (one (Q := Q) hE hM ex po px) fun x H1 ⟨as1, M1, da, hE1, hM1, hx, e, po, px⟩ => ?_
    split at e
    · cases hx with
      | val hx =>
        cases hx
        cases e
        exact ⟨true, rfl, by rw [if_pos rfl]; exact po.goal.same hM1 (.bl _)⟩
    · cases hx with
      | val hx =>
        cases hx
        exact ⟨false, rfl, by rw [if_neg Bool.false_ne_true]; exact tE_end hE1 hM1 e po px⟩
    · cases e
theorem s_andT {rest : List Expr} (ha : PT X a (tB_ X g W ca)) (hb : PW X (.BoolOp .And (b :: rest) pos) (tB_ X g W cb)) : PW X (.BoolOp .And (a :: b :: rest) pos) (tB_ X g W (.and ca cb)) :=
  PW.imp (pw_and ha hb) fun σ H Q ⟨as, F, M, env, r0, hE, hM, ex, po, px⟩ => by
    unfold exT at ex
    refine tB_bind hE hM ex px fun k M1 as1 H1 L1 hM1 e1 => ?_
    cases k with
    | true =>
      rw [if_pos rfl] at e1 ⊢
      exact tB_end (hE.later L1) hM1 e1 (po.later L1) (px.later L1)
    | false =>
      rw [if_neg Bool.false_ne_true] at e1 ⊢
      cases e1
      exact po _ _ rfl _ _ L1 hM1
theorem s_orT {rest : List Expr} (ha : PT X a (tB_ X g W ca)) (hb : PW X (.BoolOp .Or (b :: rest) pos) (tB_ X g W cb)) : PW X (.BoolOp .Or (a :: b :: rest) pos) (tB_ X g W (.or ca cb)) :=
  PW.imp (pw_or ha hb) fun σ H Q ⟨as, F, M, env, r0, hE, hM, ex, po, px⟩ => by
    unfold exT at ex
    refine tB_bind hE hM ex px fun k M1 as1 H1 L1 hM1 e1 => ?_
    cases k with
    | true =>
      rw [if_pos rfl] at e1 ⊢
      cases e1
      exact po _ _ rfl _ _ L1 hM1
    | false =>
      rw [if_neg Bool.false_ne_true] at e1 ⊢
      exact tB_end (hE.later L1) hM1 e1 (po.later L1) (px.later L1)
theorem s_ite {t : Expr} {ct : E} (ht : PT X t (tB_ X g W ct)) (ha : PE X a (tE X g W ca)) (hb : PE X b (tE X g W cb)) : PE X (.IfExp t a b pos) (tE X g W (.ite ct ca cb)) :=
  PE.imp (pe_ifExp ht ha hb) fun σ H Q ⟨as, F, M, env, r0, hE, hM, ex, po, px⟩ => by
    unfold exE at ex
    refine tB_bind hE hM ex px fun k M1 as1 H1 L1 hM1 e1 => ?_
    cases k with
    | true =>
      rw [if_pos rfl] at e1 ⊢
      exact tE_end (hE.later L1) hM1 e1 (po.later L1) (px.later L1)
    | false =>
      rw [if_neg Bool.false_ne_true] at e1 ⊢
      exact tE_end (hE.later L1) hM1 e1 (po.later L1) (px.later L1)
theorem pt_ifExp {t : Expr} {tt ta tb : TT} (ht : PT X t tt) (ha : PT X a ta) (hb : PT X b tb) : PT X (.IfExp t a b pos) (fun σ H Q => tt σ H fun k H1 => if k = true then ta σ H1 Q else tb σ H1 Q) := by
  refine ⟨fun pins s σ H Q I h => ?_⟩
  refine isTrue_IfExp (thn (ht.run pins s σ H _ I h) fun k s1 ⟨H1, I1, q1⟩ => ?_)
  cases k with
  | true => exact ha.run pins s1 σ H1 Q I1 q1
  | false => exact hb.run pins s1 σ H1 Q I1 q1
theorem s_iteT {t : Expr} {ct : E} (ht : PT X t (tB_ X g W ct)) (ha : PT X a (tB_ X g W ca)) (hb : PT X b (tB_ X g W cb)) : PT X (.IfExp t a b pos) (tB_ X g W (.ite ct ca cb)) :=
  PT.imp (pt_ifExp ht ha hb) fun σ H Q ⟨as, F, M, env, r0, hE, hM, ex, po, px⟩ => by
    unfold exT at ex
    refine tB_bind hE hM ex px fun k M1 as1 H1 L1 hM1 e1 => ?_
    cases k with
    | true =>
      rw [if_pos rfl] at e1 ⊢
      exact tB_end (hE.later L1) hM1 e1 (po.later L1) (px.later L1)
    | false =>
      rw [if_neg Bool.false_ne_true] at e1 ⊢
      exact tB_end (hE.later L1) hM1 e1 (po.later L1) (px.later L1)

/-! ### comparisons -/
def rCmp (X : Cx) (p : COp) : R2 := fun x y H Q => ∃ as F M da db c, RelH X.K X.w as F H M ∧ RepW X.K X.w as F H x da ∧ RepW X.K X.w as F H y db ∧ cmpD p da db M = some c ∧ Q (.bl c) H
theorem op_cmp {o : CmpOp} (hu : X.A.units + 65 < cLine) : OpR X (compareOp o) (rCmp X (cCmp o)) := fun pins s σ H x y u t Q I rx ry ⟨as, F, M, da, db, c, hM, hx, hy, e, q⟩ => cmp_ok hu I rx ry hM hx hy e q
theorem s_cmp {o : CmpOp} (hu : X.A.units + 65 < cLine) (hm : behindInMarks o b = false) (ha : PE X a (tE X g W ca)) (hb : PE X b (tE X g W cb)) :
    PE X (.Compare a [o] [b] pos) (tE X g W (.cmp (cCmp o) ca cb)) ∧ PT X (.Compare a [o] [b] pos) (tB_ X g W (.cmp (cCmp o) ca cb)) := by
  refine ⟨PE.imp (pe_cmpR (op_cmp hu) ha hb hm) fun σ H Q ⟨as, F, M, env, r0, hE, hM, ex, po, px⟩ => ?_, PT.imp (pt_cmpR (op_cmp hu) ha hb hm) fun σ H Q ⟨as, F, M, env, r0, hE, hM, ex, po, px⟩ => ?_⟩
  · unfold exE at ex
    refine tE_mono (two (Q := Q) hE hM ex po px) fun x H1 h => tE_mono h fun y H2 ⟨as2, F, M2, da, db, r, hE2, hM2, hx, hy, e, po, px⟩ => ?_
    obtain ⟨k, e3, rfl⟩ := liftB_ok e
    exact ⟨as2, F, M2, da, db, k, hM2, hx, hy, e3, po.goal.same hM2 (.bl k)⟩
  · unfold exT at ex
    refine tE_bind hE hM ex px fun da M1 as1 H1 x L1 hM1 r1 e1 => ?_
    refine tE_bind (hE.later L1) hM1 e1 (px.later L1) fun db M2 as2 H2 y L2 hM2 r2 e2 => ?_
    split at e2
    · rename_i k e3
      cases e2
      exact ⟨as2, F, M2, da, db, k, hM2, (r1.weak hM.fex).later L2, r2.weak hM1.fex, e3, k, rfl, (po.later L1).later L2 _ _ rfl _ _ (.refl hM2) hM2⟩
    · cases e2
theorem s_chn {o1 o2 : CmpOp} {d : Expr} {cd : E} (hu : X.A.units + 65 < cLine) (hm : behindInMarks o2 d = false) (ha : PE X a (tE X g W ca)) (hb : PE X b (tE X g W cb)) (hd : PE X d (tE X g W cd)) :
    PE X (.Compare a [o1, o2] [b, d] pos) (tE X g W (.chn (cCmp o1) (cCmp o2) ca cb cd)) ∧ PT X (.Compare a [o1, o2] [b, d] pos) (tB_ X g W (.chn (cCmp o1) (cCmp o2) ca cb cd)) := by
  refine ⟨PE.imp (pe_chain (op_cmp hu) (op_cmp hu) ha hb hd (show lastMarks [o1, o2] [b, d] = false from hm)) fun σ H Q ⟨as, F, M, env, r0, hE, hM, ex, po, px⟩ => ?_, PT.imp (pt_chain (op_cmp hu) (op_cmp hu) ha hb hd (show lastMarks [o1, o2] [b, d] = false from hm)) fun σ H Q ⟨as, F, M, env, r0, hE, hM, ex, po, px⟩ => ?_⟩
  · unfold exE at ex
    refine tE_bind hE hM ex px fun da M1 as1 H1 x L1 hM1 r1 e1 => ?_
    refine tE_bind (hE.later L1) hM1 e1 (px.later L1) fun db M2 as2 H2 y L2 hM2 r2 e2 => ?_
    have hy := r2.weak hM1.fex
    split at e2
    · cases e2
    · rename_i e3
      cases e2
      exact ⟨as2, F, M2, da, db, false, hM2, (r1.weak hM.fex).later L2, hy, e3, false, rfl, by rw [if_neg Bool.false_ne_true]; exact ((po.later L1).later L2).goal.same hM2 (.bl _)⟩
    · rename_i e3
      refine ⟨as2, F, M2, da, db, true, hM2, (r1.weak hM.fex).later L2, hy, e3, true, rfl, ?_⟩
      rw [if_pos rfl]
      refine tE_bind ((hE.later L1).later L2) hM2 e2 ((px.later L1).later L2) fun dz M3 as3 H3 z L3 hM3 r3 e4 => ?_
      obtain ⟨k, e5, rfl⟩ := liftB_ok e4
      exact ⟨as3, F, M3, db, dz, k, hM3, hy.later L3, r3.weak hM2.fex, e5, (((po.later L1).later L2).later L3).goal.same hM3 (.bl k)⟩
  · unfold exT at ex
    refine tE_bind hE hM ex px fun da M1 as1 H1 x L1 hM1 r1 e1 => ?_
    refine tE_bind (hE.later L1) hM1 e1 (px.later L1) fun db M2 as2 H2 y L2 hM2 r2 e2 => ?_
    have hy := r2.weak hM1.fex
    split at e2
    · cases e2
    · rename_i e3
      cases e2
      exact ⟨as2, F, M2, da, db, false, hM2, (r1.weak hM.fex).later L2, hy, e3, false, rfl, by rw [if_neg Bool.false_ne_true]; exact ⟨false, rfl, (po.later L1).later L2 _ _ rfl _ _ (.refl hM2) hM2⟩⟩
    · rename_i e3
      refine ⟨as2, F, M2, da, db, true, hM2, (r1.weak hM.fex).later L2, hy, e3, true, rfl, ?_⟩
      rw [if_pos rfl]
      refine tE_bind ((hE.later L1).later L2) hM2 e2 ((px.later L1).later L2) fun dz M3 as3 H3 z L3 hM3 r3 e4 => ?_
      split at e4
      · rename_i k e5
        cases e4
        exact ⟨as3, F, M3, db, dz, k, hM3, hy.later L3, r3.weak hM2.fex, e5, k, rfl, ((po.later L1).later L2).later L3 _ _ rfl _ _ (.refl hM3) hM3⟩
      · cases e4
end
end Z
end
section
set_option Elab.async false
set_option linter.all false
set_option maxRecDepth 100000
set_option maxHeartbeats 1000000
set_option autoImplicit false
/-! Arguments, displays, subscripts, built-ins, methods. -/
namespace Z
open PySem PySem.Spec PyProof.Rows L2
variable {K : PySem.W.Frag} {w : World} {as as' as'' F : List Addr} {H H₀ H' H'' : Hp} {M M' : Mem} {v : V} {vs : List V} {d : D} {ds : List D} {σ : L2.St} {env : Z.Env}
/-- no star -/
def NS (e : Expr) : Prop := ∀ x p, e ≠ .Starred x p
theorem star1 {e : Expr} {es : List Expr} {env : PySem.Env} (h : NS e) : starEach (e :: es) env = (false, eval e env) :: starEach es env := by
  cases e <;> first
    | rfl
    | exact absurd rfl (h _ _)
theorem star_plain {env : PySem.Env} {pos : Pos} : ∀ {es : List Expr}, (∀ e ∈ es, NS e) → (backTo pos (starEach es env)).any (·.1) = false
  | [], _ => rfl
  | e :: es, h => by
    rw [star1 (h e List.mem_cons_self)]
    show (false || (backTo pos (starEach es env)).any (·.1)) = false
    rw [star_plain fun x hx => h x (List.mem_cons_of_mem _ hx)]
    rfl
theorem star_all {env : PySem.Env} {pos : Pos} : ∀ {es : List Expr}, (∀ e ∈ es, NS e) → (backTo pos (starEach es env)).all (fun x => !x.1) = true
  | [], _ => rfl
  | e :: es, h => by
    rw [star1 (h e List.mem_cons_self)]
    show (true && (backTo pos (starEach es env)).all (fun x => !x.1)) = true
    rw [star_all fun x hx => h x (List.mem_cons_of_mem _ hx)]
    rfl
section
variable {X : Cx} {g : G} {W : WX} {c : Ctx} {e a b : Expr} {es : List Expr} {ce ca cb : E} {ces : Es} {t t' : TE} {pos : Pos}
theorem s_nil : PA X [] (tEs X g W .nil) := PA.imp pa_nil fun σ H Q ⟨as, F, M, env, r0, hE, hM, ex, po, px⟩ => by
  unfold exEs at ex
  cases ex
  exact po _ _ rfl _ _ _ (.refl hM) hM .nil
theorem s_cons (n : NS e) (h : PE X e (tE X g W ce)) (r : PA X es (tEs X g W ces)) : PA X (e :: es) (tEs X g W (.cons ce ces)) := PA.imp (pa_cons h r (star1 n)) fun σ H Q ⟨as, F, M, env, r0, hE, hM, ex, po, px⟩ => by
  unfold exEs at ex
  refine tE_bind hE hM ex px fun d M1 as1 H1 x L1 hM1 r1 e1 => ?_
  refine tEs_bind (hE.later L1) hM1 e1 (px.later L1) fun ds M2 as2 H2 xs L2 hM2 r2 e2 => ?_
  cases e2
  exact po _ _ rfl _ _ _ (L1.trans L2) hM2 (.cons ((r1.weak hM.fex).later L2) r2)
theorem tEs_mono {Q Q' : List V → Hp → Prop} {H : Hp} (h : tEs X g W ces σ H Q) (f : ∀ v H', Q v H' → Q' v H') : tEs X g W ces σ H Q' :=
  let ⟨as, F, M, env, r0, hE, hM, ex, po, px⟩ := h
  ⟨as, F, M, env, r0, hE, hM, ex, fun d M' e as' H' v L hM' hr => f _ _ (po d M' e as' H' v L hM' hr), px⟩
/-- arguments, then a step -/
theorem args {Q : VK} {r : Rs D} {k : List D → Mem → Z.R D} (hE : RelE X.K X.w as F H σ env) (hM : RelH X.K X.w as F H M) (ex : ((exEs g ces env M).bind k) = some r) (po : PO X as F H r Q) (px : PX X W as F H σ r) :
    tEs X g W ces σ H fun xs H1 => ∃ as1 M1 ds, RelE X.K X.w as1 F H1 σ env ∧ RelH X.K X.w as1 F H1 M1 ∧ RepWs X.K X.w as1 F H1 xs ds ∧ k ds M1 = some r ∧ PO X as1 F H1 r Q ∧ PX X W as1 F H1 σ r := by
  refine tEs_bind hE hM ex px fun ds M1 as1 H1 x L1 hM1 r1 e1 => ?_
  exact ⟨as1, M1, ds, hE.later L1, hM1, r1, e1, po.later L1, px.later L1⟩
theorem s_tup {k : Nat} (h : PA X es (tEs X g W ces)) : PE X (.Tuple es k pos) (tE X g W (.tup ces)) := PE.imp (pe_tup h) fun σ H Q ⟨as, F, M, env, r0, hE, hM, ex, po, px⟩ => by
  unfold exE at ex
  refine tEs_mono (args (Q := Q) hE hM ex po px) fun xs H1 ⟨as1, M1, ds, hE1, hM1, hx, e, po, px⟩ => ?_
  obtain ⟨es, e1, e2⟩ := ob e
  obtain ⟨h1, e3⟩ := op e2
  cases e3
  have r := hx.frz e1
  exact ⟨by rw [r.length, ← lim]; exact h1, fun p hp => po.goal.tuple hM1 hp r⟩
theorem s_lst (h : PA X es (tEs X g W ces)) : PE X (.List es pos) (tE X g W (.lst ces)) := PE.imp (pe_lst h) fun σ H Q ⟨as, F, M, env, r0, hE, hM, ex, po, px⟩ => by
  unfold exE at ex
  refine tEs_mono (args (Q := Q) hE hM ex po px) fun xs H1 ⟨as1, M1, ds, hE1, hM1, hx, e, po, px⟩ => ?_
  obtain ⟨es, e1, e2⟩ := ob e
  obtain ⟨h1, e3⟩ := op e2
  cases e3
  have r := hx.frz e1
  exact ⟨by rw [r.length, ← lim]; exact h1, fun p hp => po.goal.list hM1 hp r⟩

/-! ### subscripts -/
theorem s_idx (hs : ∀ u t, subscripted b false u t = operate [u, t] (getItem u t)) (ha : PE X a (tE X g W ca)) (hb : PE X b (tE X g W cb)) : PE X (.Subscript a b pos) (tE X g W (.idx ca cb)) := by
  refine ⟨fun pins s σ H Q I ⟨as, F, M, env, r0, hE, hM, ex, po, px⟩ => ?_⟩
  unfold exE at ex
  refine Subscript_ (thn (ha.run pins s σ H _ I (two (Q := Q) hE hM ex po px)) fun u s1 ⟨x, H1, I1, r1, q1⟩ => thn (hb.run pins s1 σ H1 _ I1 q1) fun t s2 ⟨y, H2, I2, r2, as2, F2, M2, da, db, r, hE2, hM2, hx, hy, e, po, px⟩ => ?_)
  obtain ⟨d, e3, rfl⟩ := lift1_ok e
  exact idx_ok I2 r1 r2 hM2 hx hy e3 (hs u t) fun z hz => po.goal.same hM2 hz
/-- a part of a slice -/
def tO (X : Cx) (g : G) (W : WX) (ce : E) : TO := fun σ H Q => tE X g W ce σ H fun x H1 => (x = .non ∧ Q none H1) ∨ ∃ i, x = .int i ∧ Q (some i) H1
theorem s_part (h : PE X e (tE X g W ce)) : L2.PO X (some e) (tO X g W ce) := by
  refine ⟨fun pins s σ H Q I hw => ?_⟩
  rw [evalPart_some]
  refine thn (h.run pins s σ H _ I hw) fun u s1 ⟨x, H1, I1, r1, q1⟩ => ?_
  rcases q1 with ⟨rfl, q⟩ | ⟨i, rfl, q⟩
  · cases r1
    exact ⟨none, H1, I1, .none, q⟩
  · obtain ⟨t, rfl⟩ := r1
    exact ⟨some i, H1, I1, .int i t, q⟩
theorem s_nopart : L2.PO X none (tO X g W .nope) := by
  refine ⟨fun pins s σ H Q I ⟨as, F, M, env, r0, hE, hM, ex, po, px⟩ => ?_⟩
  unfold exE at ex
  cases ex
  rw [evalPart_none]
  have q := po.same hM .non
  rcases q with ⟨_, q⟩ | ⟨i, e, q⟩
  · exact wpAny_pure ⟨none, H, I, .none, q⟩
  · cases e
def rSli (X : Cx) : V → Option Int → Option Int → Hp → VK → Prop := fun x lo hi H Q => ∃ as F M da d, RelH X.K X.w as F H M ∧ RepW X.K X.w as F H x da ∧ sliD da lo hi M = some d ∧ Goal X as F H M d Q
theorem sl_sli : SlR X (rSli X) := fun pins s σ H x v vl vu lo hi sl Q I rx hs pl pu ⟨as, F, M, da, d, hM, hx, e, q⟩ => sli_ok I rx hM hx hs pl pu e q
theorem s_sli {lo hi : Option Expr} {cl ch : E} {p2 : Pos} (ha : PE X a (tE X g W ca)) (hl : L2.PO X lo (tO X g W cl)) (hh : L2.PO X hi (tO X g W ch)) : PE X (.Subscript a (.Slice lo hi none p2) pos) (tE X g W (.sli ca cl ch)) :=
  PE.imp (pe_slice sl_sli ha hl hh) fun σ H Q ⟨as, F, M, env, r0, hE, hM, ex, po, px⟩ => by
    unfold exE at ex
    refine tE_bind hE hM ex px fun da M1 as1 H1 x L1 hM1 r1 e1 => ?_
    refine tE_bind (hE.later L1) hM1 e1 (px.later L1) fun dl M2 as2 H2 y L2 hM2 r2 e2 => ?_
    obtain ⟨lo, e3, e4⟩ := ob e2
    have hx2 := (r1.weak hM.fex).later L2
    have po2 := (po.later L1).later L2
    have cont : ∀ {as2 : List Addr} {H2 : Hp} {M2 : Mem} {x : V} {da : D} {lo : Option Int}, RelE X.K X.w as2 F H2 σ env → RelH X.K X.w as2 F H2 M2 → RepW X.K X.w as2 F H2 x da → PO X as2 F H2 r0 Q → PX X W as2 F H2 σ r0 →
        ((exE g ch env M2).bind fun h M => (optI h).bind fun h => lift1 (sliD da lo h M) M) = some r0 → tO X g W ch σ H2 fun u H3 => rSli X x lo u H3 Q := fun {as2 H2 M2 x da lo} hE2 hM2 hx po px e => by
      refine tE_bind hE2 hM2 e px fun dh M3 as3 H3 z L3 hM3 r3 e5 => ?_
      obtain ⟨hi, e6, e7⟩ := ob e5
      obtain ⟨d, e8, rfl⟩ := lift1_ok e7
      have fin : rSli X x lo hi H3 Q := ⟨as3, F, M3, da, d, hM3, hx.later L3, e8, (po.later L3).goal⟩
      unfold optI at e6
      split at e6
      · cases e6
        cases r3 with
        | val r3 =>
          cases r3
          exact .inr ⟨_, rfl, fin⟩
      · cases e6
        cases r3 with
        | val r3 =>
          cases r3
          exact .inl ⟨rfl, fin⟩
      · cases e6
    have res := cont ((hE.later L1).later L2) hM2 hx2 po2 ((px.later L1).later L2) e4
    unfold optI at e3
    split at e3
    · cases e3
      cases r2 with
      | val r2 =>
        cases r2
        exact .inr ⟨_, rfl, res⟩
    · cases e3
      cases r2 with
      | val r2 =>
        cases r2
        exact .inl ⟨rfl, res⟩
    · cases e3

/-! ### calls of built-ins -/
theorem kinds (bi : Bi) : (∃ id, biV bi = .builtin id) ∨ ∃ T, biV bi = .type T := by cases bi <;> first | exact .inl ⟨_, rfl⟩ | exact .inr ⟨_, rfl⟩
/-- f(e, ..), f a built-in's name -/
theorem pe_bi {f : Str} {fv : Value} {p : Pos} {ta : TA} {r : List V → Hp → VK → Prop} (hk : (∃ id, fv = .builtin id) ∨ ∃ T, fv = .type T) (hc : CallR X fv r) (hg : Gl X f) (hm : X.mg f = none) (hv : bootBuiltins f = some fv) (hn : f ≠ "__name__") (hd : (f == ("__debug__" : Str)) = false)
    (ns : ∀ x ∈ e :: es, NS x) (ha : PA X (e :: es) ta) : PE X (.Call (.Name f p) (e :: es) [] pos) (tCB r ta) := by
  have h1 := star1 (es := es) (env := X.env) (ns e List.mem_cons_self)
  have h2 := star_plain (env := X.env) (pos := pos) fun x hx => ns x (List.mem_cons_of_mem _ hx)
  rcases hk with ⟨id, rfl⟩ | ⟨T, rfl⟩
  · exact pe_callB hc hg hm hv ha hn hd h1 h2
  · exact pe_callTy hc hg hm hv ha hn hd h1 h2
def rBi (X : Cx) (bi : Bi) : List V → Hp → VK → Prop := fun xs H Q => ∃ as F M ds d, RelH X.K X.w as F H M ∧ RepWs X.K X.w as F H xs ds ∧ biD bi ds M = some d ∧ Goal X as F H M d Q
theorem s_bi {f : Str} {bi : Bi} {p : Pos} (hn1 : bi ≠ .sortedR) (hn2 : bi ≠ .range) (hu : X.A.units + 70 < cLine) (hcalm : g.calm = true → X.calm = true) (hg : Gl X f) (hm : X.mg f = none) (hv : bootBuiltins f = some (biV bi)) (hn : f ≠ "__name__") (hd : (f == ("__debug__" : Str)) = false)
    (ns : ∀ x ∈ es, NS x) (ha : PA X es (tEs X g W ces)) (hl : es = [] → ces = .nil) : PE X (.Call (.Name f p) es [] pos) (tE X g W (.bi bi ces)) := by
  cases es with
  | nil =>
    rw [hl rfl]
    refine ⟨fun pins s σ H Q I ⟨as, F, M, env, r0, hE, hM, ex, po, px⟩ => ?_⟩
    unfold exE at ex
    obtain ⟨h1, ex⟩ := oi ex
    unfold exEs at ex
    obtain ⟨d, e1, _⟩ := lift1_ok (show lift1 (biD bi [] M) M = some r0 from ex)
    unfold biD at e1
    split at e1 <;> simp_all
  | cons e0 es =>
    refine ⟨fun pins s σ H Q I ⟨as, F, M, env, r0, hE, hM, ex, po, px⟩ => ?_⟩
    unfold exE at ex
    obtain ⟨h1, ex⟩ := oi ex
    have hot : biHot bi = true ∨ X.calm = true := by
      rcases Bool.or_eq_true_iff.mp h1 with h | h
      · exact .inl h
      · exact .inr (hcalm h)
    have cr : CallR X (biV bi) (rBi X bi) := fun pins s σ H xs us Q I rx ⟨as, F, M, ds, d, hM, hx, e, q⟩ => bi_ok hn1 hn2 hot hu I rx hM hx e q
    refine (pe_bi (kinds bi) cr hg hm hv hn hd ns ha).run pins s σ H Q I (tEs_mono (args (Q := Q) hE hM ex po px) fun xs H1 ⟨as1, M1, ds, hE1, hM1, hx, e, po, px⟩ => ?_)
    obtain ⟨d, e3, rfl⟩ := lift1_ok e
    exact ⟨as1, F, M1, ds, d, hM1, hx, e3, po.goal⟩
theorem reps_rg (K : PySem.W.Frag) (w : World) (as F : List Addr) (H : Hp) : ∀ (n : Nat) (lo : Int), Reps K w as F H ((List.range n).map fun i => V.int (lo + (i : Nat))) (rangeL lo n)
  | 0, _ => .nil
  | n + 1, lo => by
    rw [List.range_succ_eq_map, List.map_cons, List.map_map]
    have ih := reps_rg K w as F H n (lo + 1)
    have e : ((fun i : Nat => V.int (lo + (i : Int))) ∘ Nat.succ) = fun i : Nat => V.int (lo + 1 + (i : Int)) := by
      funext i
      show V.int (lo + ((i + 1 : Nat) : Int)) = V.int (lo + 1 + (i : Int))
      congr 1
      omega
    rw [e]
    refine .cons ?_ ih
    have z : lo + ((0 : Nat) : Int) = lo := by simp
    rw [z]
    exact .int lo
theorem biD_rg {x d : D} (e : biD .range [x] M = some d) : ∃ n : Int, x = .int n ∧ (decide (-(2 ^ 62) ≤ n) && decide (n ≤ 16777216)) = true ∧ d = .fl (rangeL 0 n.toNat) := by
  cases x <;> first
    | (cases e; done)
    | skip
  rename_i n
  obtain ⟨h, e2⟩ := oi (show (if decide (-(2 ^ 62) ≤ n) && decide (n ≤ 16777216) then some (D.fl (rangeL 0 n.toNat)) else none) = some d from e)
  cases e2
  exact ⟨n, rfl, h, rfl⟩
theorem s_listRg {p p2 pos2 : Pos} (hcalm : g.calm = true → X.calm = true) (hg : Gl X "list") (hm : X.mg "list" = none) (hg2 : Gl X "range") (hm2 : X.mg "range" = none) (ns : NS a) (ha : PE X a (tE X g W ca)) :
    PE X (.Call (.Name "list" p) [.Call (.Name "range" p2) [a] [] pos2] [] pos) (tE X g W (.bi .range (.cons ca .nil))) := by
  refine ⟨fun pins s σ H Q I ⟨as, F, M, env, r0, hE, hM, ex, po, px⟩ => ?_⟩
  unfold exE at ex
  obtain ⟨h1, ex⟩ := oi ex
  have hc : X.calm = true := hcalm (by simpa [biHot] using h1)
  refine (pe_listRg hc hg hm (prg_1 hg2 hm2 ha (star1 ns)) rfl).run pins s σ H Q I ?_
  unfold exEs at ex
  unfold exEs at ex
  have ex' : ((exE g ca env M).bind fun x M => lift1 (biD .range [x] M) M) = some r0 := by
    cases hq : exE g ca env M with
    | none =>
      rw [hq] at ex
      exact ex
    | some r =>
      rw [hq] at ex
      cases r <;> exact ex
  refine tE_mono (one (Q := Q) hE hM ex' po px) fun x H1 ⟨as1, M1, da, hE1, hM1, hx, e, po, px⟩ => ?_
  obtain ⟨d, e1, rfl⟩ := lift1_ok e
  obtain ⟨n, rfl, h2, rfl⟩ := biD_rg e1
  have h3 := band h2
  have h4 := of_decide_eq_true h3.1
  have h5 := of_decide_eq_true h3.2
  cases hx with
  | val hx =>
    cases hx
    refine ⟨n, rfl, ⟨by omega, by omega, by omega, by omega, by omega⟩, fun q hq => po.goal.list hM1 hq ?_⟩
    unfold rgV
    rw [Int.sub_zero]
    exact reps_rg _ _ _ _ _ _ _
end
end Z
end
section
set_option Elab.async false
set_option linter.all false
set_option maxRecDepth 100000
set_option maxHeartbeats 1000000
set_option autoImplicit false
/-! isinstance, methods, calls of own defs. -/
namespace Z
open PySem PySem.Spec PyProof.Rows L2
variable {K : PySem.W.Frag} {w : World} {as as' as'' F : List Addr} {H H₀ H' H'' : Hp} {M M' : Mem} {v : V} {vs : List V} {d : D} {ds : List D} {σ : L2.St} {env : Z.Env}
section
variable {X : Cx} {g : G} {W : WX} {c : Ctx} {e a b : Expr} {es : List Expr} {ce ca cb : E} {ces : Es} {t t' : TE} {pos : Pos}
def rIsi1 (X : Cx) (T : Ty) : List V → Hp → VK → Prop := fun xs H Q => ∃ x as F M da c, xs = [x, .ty (tyN T)] ∧ RelH X.K X.w as F H M ∧ RepW X.K X.w as F H x da ∧ isTs da M [T] = some c ∧ Q (.bl c) H
/-- isinstance(a, T): T a name -/
theorem s_isi1 {T : Ty} {x : Str} {p p2 : Pos} (hg : Gl X "isinstance") (hm : X.mg "isinstance" = none) (na : NS a) (ha : PE X a (tE X g W ca)) (hT : PE X (.Name x p2) (tC (.ty (tyN T)))) :
    PE X (.Call (.Name "isinstance" p) [a, .Name x p2] [] pos) (tE X g W (.isi ca [T])) := by
  have cr : CallR X (.builtin "isinstance") (rIsi1 X T) := fun pins s σ H xs us Q I rx ⟨x, as, F, M, da, c, ex, hM, hx, e, q⟩ => by
    subst ex
    obtain ⟨u, t, rfl, r1, r2⟩ := rx.two
    cases r2
    exact isi_one (tv := .non) I hM hx r1 e q
  have pa : PA X [a, .Name x p2] _ := pa_cons ha (pa_cons hT pa_nil rfl) (star1 na)
  refine PE.imp (pe_bi (.inl ⟨_, rfl⟩) cr hg hm (by decide +kernel) (by decide) (by decide) (fun y hy => ?_) pa) fun σ H Q ⟨as, F, M, env, r0, hE, hM, ex, po, px⟩ => ?_
  · rcases List.mem_cons.mp hy with rfl | hy
    · exact na
    · rw [List.mem_singleton.mp hy]
      exact fun _ _ z => nomatch z
  · unfold exE at ex
    refine tE_mono (one (Q := Q) hE hM ex po px) fun x H1 ⟨as1, M1, da, hE1, hM1, hx, e, po, px⟩ => ?_
    obtain ⟨k, e1, rfl⟩ := liftB_ok e
    exact ⟨x, as1, F, M1, da, k, rfl, hM1, hx, e1, po.goal.same hM1 (.bl k)⟩
def rIsiN (X : Cx) (ts : List Ty) : List V → Hp → VK → Prop := fun xs H Q => ∃ x tp as F M da c, xs = [x, .ref tp] ∧ H tp = some (.tup (ts.map fun t => V.ty (tyN t))) ∧ RelH X.K X.w as F H M ∧ RepW X.K X.w as F H x da ∧ isTs da M ts = some c ∧ Q (.bl c) H
/-- the classes' names -/
theorem tys_ok {ts : List Ty} (h : PA X es (fun σ H Q => Q (ts.map fun t => V.ty (tyN t)) H)) (hl : ts.length ≤ 30) (na : NS a) (ha : PE X a (tE X g W ca)) {k : Nat} {p p2 : Pos} (hg : Gl X "isinstance") (hm : X.mg "isinstance" = none) :
    PE X (.Call (.Name "isinstance" p) [a, .Tuple es k p2] [] pos) (tE X g W (.isi ca ts)) := by
  have cr : CallR X (.builtin "isinstance") (rIsiN X ts) := fun pins s σ H xs us Q I rx ⟨x, tp, as, F, M, da, c, ex, ht, hM, hx, e, q⟩ => by
    subst ex
    obtain ⟨u, t, rfl, r1, r2⟩ := rx.two
    cases r2
    exact isi_many I hM hx r1 ht e q
  have pa : PA X [a, .Tuple es k p2] _ := pa_cons ha (pa_cons (pe_tup h) pa_nil rfl) (star1 na)
  refine PE.imp (pe_bi (.inl ⟨_, rfl⟩) cr hg hm (by decide +kernel) (by decide) (by decide) (fun y hy => ?_) pa) fun σ H Q ⟨as, F, M, env, r0, hE, hM, ex, po, px⟩ => ?_
  · rcases List.mem_cons.mp hy with rfl | hy
    · exact na
    · rw [List.mem_singleton.mp hy]
      exact fun _ _ z => nomatch z
  · unfold exE at ex
    refine tE_mono (one (Q := Q) hE hM ex po px) fun x H1 ⟨as1, M1, da, hE1, hM1, hx, e, po, px⟩ => ?_
    obtain ⟨k, e1, rfl⟩ := liftB_ok e
    refine ⟨by rw [List.length_map, sizeLine_eq]; omega, fun tp hp => ?_⟩
    have L := Later.upd (o := .tup (ts.map fun t => V.ty (tyN t))) hM1 hp
    exact ⟨x, tp, as1, F, M1, da, k, rfl, upd_same, hM1.laid0 hp, hx.later L, e1, (po.later L).goal.same (hM1.laid0 hp) (.bl k)⟩

/-! ### methods -/
theorem s_mth {m : Mt} {ms : Str} {o : Expr} {apos : Pos} (hms : ms = mtS m) (hbase : attributeBase o ms X.env (eval o X.env) = eval o X.env) (hline : (apos.endLine == pos.line) = true) (hfew : es.length < 30) (ns : ∀ x ∈ es, NS x) (ha : PE X o (tE X g W ca)) (hs : PA X es (tEs X g W ces)) (hl : es = [] → ces = .nil) :
    PE X (.Call (.Attribute o ms apos) es [] pos) (tE X g W (.mth m ca ces)) := by
  subst hms
  refine ⟨fun pins s σ H Q I ⟨as, F, M, env, r0, hE, hM, ex, po, px⟩ => ?_⟩
  unfold exE at ex
  have few : ((backTo pos (starEach es X.env)).all (fun x => !x.1) && (backToKw pos (keywordEach [] X.env)).all (fun x => x.1.isSome)
      && decide (es.length + ([] : List Keyword).length + (if ([] : List Keyword).isEmpty then 0 else 1) < 30)) = true := by
    rw [star_all ns]
    show (true && decide (es.length + 0 + 0 < 30)) = true
    simp only [Bool.true_and]
    exact decide_eq_true (by omega)
  refine wpAny_Call_method_late hbase few hline rfl (thn (ha.run pins s σ H _ I (one (Q := Q) hE hM ex po px)) fun u s1 ⟨x, H1, I1, r1, as1, M1, da, hE1, hM1, hx, e, po, px⟩ => ?_)
  obtain ⟨h1, e⟩ := oi e
  obtain ⟨T, pa, slot, hty, ty⟩ := mthT_ok hM1 hx h1
  obtain ⟨h2, h3⟩ := tyV_is I1 r1 ty
  refine ⟨T, mtN m, pa, slot, hty, h2, h3, ?_⟩
  have fin : ∀ (us : List Value) (s2 : Shared), AP X pins σ (fun xs H2 => ∃ as2 M2 ds, Later as1 H1 as2 H2 ∧ RelH X.K X.w as2 F H2 M2 ∧ RepWs X.K X.w as2 F H2 xs ds ∧ ((frzs ds).bind fun ds => (if ds.all argOk then (match mthD m da ds M2 with | some (d, M) => some (Rs.ok d M) | none => none) else none)) = some r0 ∧ PO X as2 F H2 r0 Q) us s2 →
      wpAny (model X.prog X.w) X.A (call (.builtin (mtN m)) (u :: us)) (EP X pins σ Q) X.xe s2 := fun us s2 ⟨xs, H2, I2, r2, as2, M2, ds, L2, hM2, hs, e, po⟩ => by
    obtain ⟨es, e1, e2⟩ := ob e
    obtain ⟨h4, e3⟩ := oi e2
    split at e3
    · rename_i d M3 e4
      cases e3
      exact mth_ok I2 r1 r2 hM2 (hx.later L2) (hs.frz e1).weaks (fun d hd => List.all_eq_true.mp h4 d hd) e4 fun H' z L hM' hr => po d M3 rfl as2 H' z L hM' (.val hr)
    · cases e3
  have ta : tEs X g W ces σ H1 fun xs H2 => ∃ as2 M2 ds, Later as1 H1 as2 H2 ∧ RelH X.K X.w as2 F H2 M2 ∧ RepWs X.K X.w as2 F H2 xs ds ∧ ((frzs ds).bind fun ds => (if ds.all argOk then (match mthD m da ds M2 with | some (d, M) => some (Rs.ok d M) | none => none) else none)) = some r0 ∧ PO X as2 F H2 r0 Q := by
    refine tEs_bind hE1 hM1 e px fun ds M2 as2 H2 xs L2 hM2 r2 e2 => ?_
    exact ⟨as2, M2, ds, L2, hM2, r2, e2, po.later L2⟩
  cases es with
  | nil =>
    rw [hl rfl] at ta
    obtain ⟨as3, F3, M3, env3, r3, hE3, hM3, ex3, po3, px3⟩ := ta
    unfold exEs at ex3
    cases ex3
    have h5 := po3 [] M3 rfl _ _ [] (.refl hM3) hM3 .nil
    exact Calls.callWith_builtin rfl (PySem.evalArgs_none (fin [] s1 ⟨[], H1, I1, .nil, h5⟩))
  | cons e0 es =>
    have h1 := star1 (es := es) (env := X.env) (ns e0 List.mem_cons_self)
    have h2 := star_plain (env := X.env) (pos := pos) fun x hx => ns x (List.mem_cons_of_mem _ hx)
    have h5 := hs.run pos pins s1 σ H1 _ I1 ta
    rw [h1] at h5 ⊢
    exact Calls.callWith_builtin (by show (false || (backTo pos (starEach es X.env)).any (·.1)) = false; rw [h2] <;> rfl) (Calls.evalArgs_plain (thn h5 fun us s2 h6 => fin us s2 h6))
end
end Z
end
section
set_option Elab.async false
set_option linter.all false
set_option maxRecDepth 100000
set_option maxHeartbeats 1000000
set_option autoImplicit false
/-! A call of an own def: over the objects that are handed over. -/
namespace Z
open PySem PySem.Spec PyProof.Rows L2
variable {K : PySem.W.Frag} {w : World} {as as' as'' as1 F F1 F2 G : List Addr} {H H₀ H' H'' : Hp} {M M' M1 : Mem} {v : V} {vs : List V} {d : D} {ds : List D} {σ : L2.St} {env : Z.Env} {rs : List Nat} {os : List MO}
mutual
/-- a value that names no object of the memory, among other names -/
theorem Rep.vals2 (h1 : ∀ a ∈ as', a ∈ as ∨ a ∈ F) (h2 : ∀ a ∈ G, a ∈ as ∨ a ∈ F) : ∀ {v : V} {d : D}, d.val = true → Rep K w as F H v d → Rep K w as' G H v d
  | _, _, _, .non => .non
  | _, _, _, .bl b => .bl b
  | _, _, _, .int i => .int i
  | _, _, _, .str s => .str s
  | _, _, e, .tup h r => .tup h (Reps.vals2 h1 h2 e r)
  | _, _, e, .tl h n f r => .tl h (fun z => (h1 _ z).elim n f) (fun z => (h2 _ z).elim n f) (Reps.vals2 h1 h2 e r)
  | _, _, e, .sc h r => .sc h (Reps.vals2 h1 h2 e r)
  | _, _, _, .dc h => .dc h
  | _, _, e, .ref h => by cases e
theorem Reps.vals2 (h1 : ∀ a ∈ as', a ∈ as ∨ a ∈ F) (h2 : ∀ a ∈ G, a ∈ as ∨ a ∈ F) : ∀ {vs : List V} {ds : List D}, D.vals ds = true → Reps K w as F H vs ds → Reps K w as' G H vs ds
  | _, _, _, .nil => .nil
  | _, _, e, .cons h r => by
    have e' := band (show (D.val _ && D.vals _) = true from e)
    exact .cons (Rep.vals2 h1 h2 e'.1 h) (Reps.vals2 h1 h2 e'.2 r)
end
mutual
/-- more addresses that no value names -/
theorem Rep.grow (h2 : ∀ a ∈ G, a ∈ F ∨ H a = none) : ∀ {v : V} {d : D}, Rep K w as F H v d → Rep K w as G H v d
  | _, _, .non => .non
  | _, _, .bl b => .bl b
  | _, _, .int i => .int i
  | _, _, .str s => .str s
  | _, _, .tup h r => .tup h (Reps.grow h2 r)
  | _, _, .tl h n f r => .tl h n (fun z => (h2 _ z).elim f fun e => by rw [h] at e; cases e) (Reps.grow h2 r)
  | _, _, .sc h r => .sc h (Reps.grow h2 r)
  | _, _, .dc h => .dc h
  | _, _, .ref h => .ref h
theorem Reps.grow (h2 : ∀ a ∈ G, a ∈ F ∨ H a = none) : ∀ {vs : List V} {ds : List D}, Reps K w as F H vs ds → Reps K w as G H vs ds
  | _, _, .nil => .nil
  | _, _, .cons h r => .cons (Rep.grow h2 h) (Reps.grow h2 r)
end
theorem objs_get : ∀ {rs : List Nat} {os : List MO}, objs M rs = some os → os.length = rs.length ∧ ∀ (j r : Nat), rs[j]? = some r → ∃ o, M[r]? = some o ∧ os[j]? = some o
  | [], os, e => by
    cases e
    exact ⟨rfl, fun j r h => by simp at h⟩
  | r0 :: rs, os, e => by
    unfold objs at e
    split at e
    · rename_i o os' e1 e2
      cases e
      obtain ⟨h1, h2⟩ := objs_get e2
      refine ⟨by rw [List.length_cons, List.length_cons, h1], fun j r h => ?_⟩
      cases j with
      | zero =>
        simp at h
        subst h
        exact ⟨o, e1, rfl⟩
      | succ j => exact h2 j r (by simpa using h)
    · cases e
theorem putBack_len : ∀ (rs : List Nat) (os : List MO) (M : Mem), (putBack rs os M).length = M.length
  | [], _, _ => rfl
  | _ :: _, [], _ => rfl
  | r :: rs, o :: os, M => by
    unfold putBack
    rw [putBack_len, List.length_set]
theorem putBack_out : ∀ (rs : List Nat) (os : List MO) (M : Mem) (n : Nat), n ∉ rs → (putBack rs os M)[n]? = M[n]?
  | [], _, _, _, _ => rfl
  | _ :: _, [], _, _, _ => rfl
  | r :: rs, o :: os, M, n, h => by
    unfold putBack
    rw [putBack_out rs os _ n fun z => h (List.mem_cons_of_mem _ z), List.getElem?_set_ne fun z => h (by rw [z]; exact List.mem_cons_self)]
theorem putBack_in : ∀ (rs : List Nat) (os : List MO) (M : Mem) (j n : Nat) (o : MO), rs.Nodup → rs[j]? = some n → os[j]? = some o → n < M.length → (putBack rs os M)[n]? = some o
  | [], _, _, _, _, _, _, e, _, _ => by simp at e
  | _ :: _, [], _, _, _, _, _, _, e, _ => by simp at e
  | r :: rs, o0 :: os, M, 0, n, o, nd, e1, e2, hl => by
    unfold putBack
    simp at e1 e2
    subst e1 e2
    rw [putBack_out rs os _ _ (List.nodup_cons.mp nd).1, List.getElem?_set_self hl]
  | r :: rs, o0 :: os, M, j + 1, n, o, nd, e1, e2, hl => by
    unfold putBack
    exact putBack_in rs os _ j n o (List.nodup_cons.mp nd).2 (by simpa using e1) (by simpa using e2) (by rw [List.length_set]; exact hl)
theorem flats_get {os : List MO} (h : flats os = true) {j : Nat} {o : MO} (e : os[j]? = some o) : flat o = true := List.all_eq_true.mp h o (List.mem_of_getElem? e)
theorem vals_all : ∀ {p : List (Str × D)}, p.all (fun q => q.2.val) = true → D.vals (p.map (·.2)) = true
  | [], _ => rfl
  | x :: p, h => by
    have h' := band (show (x.2.val && p.all fun q => q.2.val) = true from h)
    show (x.2.val && D.vals (p.map (·.2))) = true
    rw [h'.1, vals_all h'.2]
    rfl
theorem RelM.vals {a : Addr} {o : MO} (h : RelM K w as F H a o) (f : flat o = true) (h1 : ∀ a ∈ as', a ∈ as ∨ a ∈ F) (h2 : ∀ a ∈ G, a ∈ as ∨ a ∈ F) : RelM K w as' G H a o := by
  cases h with
  | lst e r => exact .lst e (r.vals2 h1 h2 f)
  | ins e q r => exact .ins e q (r.vals2 h1 h2 (vals_all f))

/-- the addresses of the objects handed over -/
def sel (as : List Addr) (rs : List Nat) : List Addr := rs.map fun r => as.getD r 0
structure Sel (K : PySem.W.Frag) (w : World) (as F : List Addr) (H : Hp) (M : Mem) (rs : List Nat) (os : List MO) : Prop where
  hM : RelH K w as F H M
  nd : rs.Nodup
  obj : objs M rs = some os
  fl : flats os = true
theorem Sel.at_ (S : Sel K w as F H M rs os) {j r : Nat} (h : rs[j]? = some r) : ∃ a, as[r]? = some a ∧ (sel as rs)[j]? = some a ∧ r < M.length := by
  obtain ⟨o, h1, _⟩ := (objs_get S.obj).2 j r h
  have h2 := (List.getElem?_eq_some_iff.mp h1).1
  have h3 := S.hM.len
  refine ⟨as[r], List.getElem?_eq_getElem (by omega), ?_, h2⟩
  unfold sel
  rw [List.getElem?_map, h]
  show some (as.getD r 0) = some as[r]
  rw [List.getD_eq_getElem?_getD, List.getElem?_eq_getElem (by omega)]
  rfl
theorem Sel.sub (S : Sel K w as F H M rs os) : ∀ a ∈ sel as rs, a ∈ as := fun a ha => by
  obtain ⟨j, hj, e⟩ := List.getElem_of_mem ha
  have hj' : j < rs.length := by unfold sel at hj; rw [List.length_map] at hj; exact hj
  obtain ⟨b, h1, h2, _⟩ := S.at_ (List.getElem?_eq_getElem hj')
  rw [List.getElem?_eq_getElem hj, e] at h2
  cases h2
  exact List.mem_of_getElem? h1
theorem Sel.nod (S : Sel K w as F H M rs os) : (sel as rs).Nodup := by
  refine List.pairwise_iff_getElem.mpr fun i j hi hj hij e0 => ?_
  have e : (sel as rs)[i]? = (sel as rs)[j]? := by rw [List.getElem?_eq_getElem hi, List.getElem?_eq_getElem hj, e0]
  have hj' : j < rs.length := by unfold sel at hj; rw [List.length_map] at hj; exact hj
  obtain ⟨a, h1, h2, _⟩ := S.at_ (List.getElem?_eq_getElem (by omega : i < rs.length))
  obtain ⟨b, h3, h4, _⟩ := S.at_ (List.getElem?_eq_getElem hj')
  rw [h2, h4] at e
  cases e
  have z := nd_ix S.hM.nd h1 h3
  have := nd_ix S.nd (List.getElem?_eq_getElem (by omega : i < rs.length)) (by rw [z]; exact List.getElem?_eq_getElem hj')
  omega
theorem Sel.there (S : Sel K w as F H M rs os) : ∀ a ∈ as, H a ≠ none := fun a ha e => by
  obtain ⟨xs, h, _⟩ := S.hM.there a ha
  rw [h] at e
  cases e
/-- the local memory -/
theorem Sel.relH (S : Sel K w as F H M rs os) : RelH K w (sel as rs) (as ++ F) H os := by
  have hl := (objs_get S.obj).1
  refine ⟨by unfold sel; rw [List.length_map, hl], S.nod, fun a ha => ?_, fun n a o e1 e2 => ?_⟩
  · rcases List.mem_append.mp ha with ha | ha
    · exact S.there a ha
    · exact S.hM.fex a ha
  · have hn : n < rs.length := by
      have := (List.getElem?_eq_some_iff.mp e2).1
      omega
    obtain ⟨b, h1, h2, _⟩ := S.at_ (List.getElem?_eq_getElem hn)
    rw [h2] at e1
    cases e1
    obtain ⟨o', h3, h4⟩ := (objs_get S.obj).2 n _ (List.getElem?_eq_getElem hn)
    rw [h4] at e2
    cases e2
    exact (S.hM.obj _ _ _ h1 h3).vals (flats_get S.fl h4) (fun c hc => .inl (S.sub c hc)) fun c hc => (List.mem_append.mp hc)
theorem Sel.args (S : Sel K w as F H M rs os) : ∀ {vs : List V} {ds : List D}, ds.all argOk = true → (∀ r, D.ref r ∈ ds → r ∈ rs) → Reps K w as F H vs ds → Reps K w (sel as rs) (as ++ F) H vs (ds.map (ren rs))
  | _, _, _, _, .nil => .nil
  | _, d :: ds, e, q, .cons h t => by
    have e' := band (show (argOk d && ds.all argOk) = true from e)
    refine .cons ?_ (Sel.args S e'.2 (fun r hr => q r (List.mem_cons_of_mem _ hr)) t)
    by_cases hd : ∃ r, d = .ref r
    · obtain ⟨r, rfl⟩ := hd
      cases h with
      | ref h =>
        have hr := q r List.mem_cons_self
        have h2 : rs[rs.idxOf r]? = some r := by
          rw [List.getElem?_eq_getElem (List.idxOf_lt_length_of_mem hr), List.getElem_idxOf]
        obtain ⟨b, h3, h4, _⟩ := S.at_ h2
        rw [h] at h3
        cases h3
        exact .ref h4
    · have hv : d.val = true := by
        cases d <;> first | exact e'.1 | exact absurd ⟨_, rfl⟩ hd
      have hr : ren rs d = d := by
        cases d <;> first | rfl | exact absurd ⟨_, rfl⟩ hd
      rw [hr]
      exact h.vals2 (fun c hc => .inl (S.sub c hc)) (fun c hc => List.mem_append.mp hc) hv
end Z
end
section
set_option Elab.async false
set_option linter.all false
set_option maxRecDepth 100000
set_option maxHeartbeats 1000000
set_option autoImplicit false
/-! The end of such a call; the call. -/
namespace Z
open PySem PySem.Spec PyProof.Rows L2
variable {K : PySem.W.Frag} {w : World} {as as' as'' as1 F F1 F2 G : List Addr} {H H₀ H' H'' : Hp} {M M' M1 : Mem} {v : V} {vs : List V} {d d' : D} {ds ds' : List D} {σ : L2.St} {env : Z.Env} {rs : List Nat} {os : List MO}
/-- what holds at the callee's end; F2: the callee's names, G: ours -/
structure Bk (K : PySem.W.Frag) (w : World) (as F : List Addr) (H : Hp) (M : Mem) (rs : List Nat) (os : List MO) (as' F2 : List Addr) (H' : Hp) (M1 : Mem) : Prop where
  S : Sel K w as F H M rs os
  L : Later (sel as rs) H as' H'
  m : RelH K w as' F2 H' M1
  sub : ∀ a ∈ as ++ F, a ∈ F2
  fl : flats (M1.take rs.length) = true
theorem Bk.later (B : Bk K w as F H M rs os as' F2 H' M1) : Later as H as H' :=
  ⟨⟨[], by simp, fun a ha => by cases ha⟩, fun a o e n => B.L.keep a o e fun z => n (B.S.sub a z), B.S.hM.there⟩
theorem Bk.new (B : Bk K w as F H M rs os as' F2 H' M1) {r : Nat} {a : Addr} (h : as'[r]? = some a) (hr : rs.length ≤ r) : H a = none := by
  obtain ⟨new, e, hn⟩ := B.L.pre
  have hl : (sel as rs).length = rs.length := by unfold sel; rw [List.length_map]
  rw [e, List.getElem?_append_right (by omega)] at h
  exact hn a (List.mem_of_getElem? h)
/-- ours: the names from ahead, or addresses of the callee's that no value names -/
def GOk (F : List Addr) (H : Hp) (as' F2 G : List Addr) : Prop := ∀ a ∈ G, a ∈ F ∨ (H a = none ∧ (a ∈ as' ∨ a ∈ F2))
theorem Bk.g1 (B : Bk K w as F H M rs os as' F2 H' M1) (hG : GOk F H as' F2 G) : ∀ a ∈ G, a ∈ as' ∨ a ∈ F2 := fun a ha => (hG a ha).elim (fun z => .inr (B.sub a (List.mem_append_right _ z))) fun z => z.2
theorem Bk.a1 (B : Bk K w as F H M rs os as' F2 H' M1) : ∀ a ∈ as, a ∈ as' ∨ a ∈ F2 := fun a ha => .inr (B.sub a (List.mem_append_left _ ha))
theorem Bk.mem (B : Bk K w as F H M rs os as' F2 H' M1) (hG : GOk F H as' F2 G) (hG2 : ∀ a ∈ G, a ∈ F ∨ H' a ≠ none) : RelH K w as G H' (putBack rs (M1.take rs.length) M) := by
  have hl : (M1.take rs.length).length = rs.length := by
    have h1 := B.m.len
    obtain ⟨new, e, _⟩ := B.L.pre
    have h2 : (sel as rs).length = rs.length := by unfold sel; rw [List.length_map]
    have h3 : as'.length = rs.length + new.length := by rw [e, List.length_append, h2]
    rw [List.length_take]
    omega
  refine ⟨by rw [putBack_len]; exact B.S.hM.len, B.S.hM.nd, fun a ha => ?_, fun n a o e1 e2 => ?_⟩
  · rcases hG2 a ha with h | h
    · exact B.m.fex a (B.sub a (List.mem_append_right _ h))
    · exact h
  · by_cases hn : n ∈ rs
    · obtain ⟨j, hj, e3⟩ := List.getElem_of_mem hn
      have e4 : rs[j]? = some n := by rw [List.getElem?_eq_getElem hj, e3]
      obtain ⟨b, h1, h2, h3⟩ := B.S.at_ e4
      rw [e1] at h1
      cases h1
      have e5 : (M1.take rs.length)[j]? = some (M1.take rs.length)[j] := List.getElem?_eq_getElem (by omega)
      rw [putBack_in rs _ M j n _ B.S.nd e4 e5 h3] at e2
      cases e2
      have e6 : M1[j]? = some (M1.take rs.length)[j] := by
        rw [List.getElem?_take_of_lt hj] at e5
        exact e5
      exact (B.m.obj j a _ (B.L.at_ h2) e6).vals (flats_get B.fl e5) B.a1 (B.g1 hG)
    · rw [putBack_out rs _ M n hn] at e2
      have ha : a ∉ sel as rs := fun z => by
        obtain ⟨j, hj, e3⟩ := List.getElem_of_mem z
        have hj' : j < rs.length := by unfold sel at hj; rw [List.length_map] at hj; exact hj
        obtain ⟨b, h1, h2, _⟩ := B.S.at_ (List.getElem?_eq_getElem hj')
        rw [List.getElem?_eq_getElem hj, e3] at h2
        cases h2
        have := nd_ix B.S.hM.nd e1 h1
        exact hn (by rw [this]; exact List.getElem_mem hj')
      cases B.S.hM.obj n a o e1 e2 with
      | lst h r => exact .lst (B.L.keep _ _ h ha) ((r.grow fun c hc => (hG c hc).imp id And.left).later B.later)
      | ins h e r => exact .ins (B.L.keep _ _ h ha) e ((r.grow fun c hc => (hG c hc).imp id And.left).later B.later)
/-- .. none among the names is the address of an own list of the callee's but the one at av -/
theorem deep_ok (B : Bk K w as F H M rs os as' F2 H' M1) (hG : GOk F H as' F2 G) {av : Nat} (hA : ∀ a ∈ G, a ∈ F ∨ a ∉ as' ∨ as'[av]? = some a) :
    ∀ n, (∀ v d d', deep rs.length av M1 n d = some d' → Rep K w as' F2 H' v d → Rep K w as G H' v d') ∧ (∀ vs ds ds', deeps rs.length av M1 n ds = some ds' → Reps K w as' F2 H' vs ds → Reps K w as G H' vs ds') := by
  intro n
  induction n with
  | zero => exact ⟨fun v d d' e => by (unfold deep at e; cases e), fun vs ds ds' e => by (unfold deeps at e; cases e)⟩
  | succ n ih =>
    refine ⟨fun v d d' e h => ?_, fun vs ds ds' e h => ?_⟩
    · unfold deep at e
      split at e
      · rename_i hv
        cases e
        exact h.vals2 B.a1 (B.g1 hG) hv
      · split at e
        · rename_i r _
          split at e
          · cases e
          · rename_i h1
            split at e
            · rename_i zs e1
              obtain ⟨ys, e2, e3⟩ := om e
              subst e3
              cases h with
              | @ref _ b h =>
                simp only [Bool.or_eq_true, decide_eq_true_eq, beq_iff_eq, not_or, Nat.not_lt] at h1
                have hb := B.new h h1.1
                have z := B.m.obj r b _ h e1
                cases z with
                | lst h2 r2 =>
                  refine .tl h2 (fun z => B.S.there b z hb) (fun z => ?_) (ih.2 _ _ _ e2 r2)
                  rcases hA b z with h3 | h3 | h3
                  · exact B.S.hM.fex b h3 hb
                  · exact h3 (List.mem_of_getElem? h)
                  · exact h1.2 (nd_ix B.m.nd h h3)
            · cases e
        · obtain ⟨ys, e2, e3⟩ := om e
          subst e3
          cases h with
          | tup h r => exact .tup h (ih.2 _ _ _ e2 r)
        · obtain ⟨ys, e2, e3⟩ := om e
          subst e3
          cases h with
          | tl h n1 n2 r => exact .tl h (fun z => n2 (B.sub _ (List.mem_append_left _ z))) (fun z => (B.g1 hG _ z).elim n1 n2) (ih.2 _ _ _ e2 r)
        · cases e
    · unfold deeps at e
      split at e
      · cases e
      · cases e
        cases h
        exact .nil
      · rename_i e1
        cases e1
        split at e
        · rename_i e1 e2
          cases e
          cases h with
          | cons h t => exact .cons (ih.1 _ _ _ e1 h) (ih.2 _ _ _ e2 t)
        · cases e
theorem gok_F {as' F2 : List Addr} : GOk F H as' F2 F := fun a ha => .inl ha
/-- the callee's value as ours -/
theorem out_ok (S : Sel K w as F H M rs os) (L : Later (sel as rs) H as' H') (m : RelH K w as' (as ++ F) H' M1) (fl : flats (M1.take rs.length) = true) (r : RepR K w as' (as ++ F) H H' M1 v d) (e : outD rs.length M1 d = some d') :
    RelH K w as F H' (putBack rs (M1.take rs.length) M) ∧ RepR K w as F H H' (putBack rs (M1.take rs.length) M) v d' := by
  have B : Bk K w as F H M rs os as' (as ++ F) H' M1 := ⟨S, L, m, fun _ z => z, fl⟩
  have base := B.mem gok_F (fun a ha => .inl ha)
  have there := S.there
  refine ⟨base, ?_⟩
  cases r with
  | st h0 h na nd =>
    unfold outD deep at e
    simp [D.val] at e
  | @fl a vs ds h0 h na r m2 =>
    have B2 : Bk K w as F H M rs os as' (a :: (as ++ F)) H' M1 := ⟨S, L, m2, fun _ z => List.mem_cons_of_mem _ z, fl⟩
    have hG : GOk F H as' (a :: (as ++ F)) (a :: F) := fun b hb => (List.mem_cons.mp hb).elim (fun z => .inr (by rw [z]; exact ⟨h0, .inr List.mem_cons_self⟩)) .inl
    have mem := B2.mem hG fun b hb => (List.mem_cons.mp hb).elim (fun z => .inr (by rw [z, h]; exact fun q => nomatch q)) .inl
    have na2 : a ∉ as := fun z => there a z h0
    unfold outD at e
    dsimp only at e
    split at e
    · rename_i hv
      cases e
      exact .fl h0 h na2 (r.vals2 B2.a1 (B2.g1 hG) hv) mem
    · obtain ⟨ys, e2, e3⟩ := om e
      subst e3
      exact .fl h0 h na2 ((deep_ok B2 hG (av := M1.length) (fun b hb => (List.mem_cons.mp hb).elim (fun z => .inr (.inl (by rw [z]; exact na))) .inl) _).2 _ _ _ e2 r) mem
  | val r =>
    by_cases hd : ∃ n, d = .ref n
    · obtain ⟨n, rfl⟩ := hd
      cases r with
      | @ref _ b hb =>
        unfold outD at e
        dsimp only at e
        split at e
        · cases e
        · rename_i hn
          split at e
          · rename_i ds e1
            have h0 := B.new hb (by omega)
            have z := m.obj n b _ hb e1
            cases z with
            | @lst vs _ h r =>
              have hG : GOk F H as' (as ++ F) (b :: F) := fun c hc => (List.mem_cons.mp hc).elim (fun z => .inr (by rw [z]; exact ⟨h0, .inl (List.mem_of_getElem? hb)⟩)) .inl
              have mem := B.mem hG fun c hc => (List.mem_cons.mp hc).elim (fun z => .inr (by rw [z, h]; exact fun q => nomatch q)) .inl
              have nb : b ∉ as := fun z => there b z h0
              split at e
              · rename_i hv
                cases e
                exact .fl h0 h nb (r.vals2 B.a1 (B.g1 hG) hv) mem
              · obtain ⟨ys, e2, e3⟩ := om e
                subst e3
                exact .fl h0 h nb ((deep_ok B hG (av := n) (fun c hc => (List.mem_cons.mp hc).elim (fun z => .inr (.inr (by rw [z]; exact hb))) .inl) _).2 _ _ _ e2 r) mem
          · cases e
    · have e' : deep rs.length M1.length M1 100000 d = some d' := by
        cases d <;> first
          | exact e
          | exact absurd ⟨_, rfl⟩ hd
          | cases r
      exact .val ((deep_ok B gok_F (fun b hb => .inl hb) _).1 _ _ _ e' r)
theorem nodup_dups : ∀ (n : Nat) (l : List Nat), l.length ≤ n → l.eraseDups.Nodup
  | _, [], _ => by
    rw [List.eraseDups_nil]
    exact List.nodup_nil
  | 0, a :: l, h => by
    rw [List.length_cons] at h
    omega
  | n + 1, a :: l, h => by
    rw [List.eraseDups_cons]
    rw [List.length_cons] at h
    have := List.length_filter_le (fun b => !b == a) l
    refine List.nodup_cons.mpr ⟨fun z => ?_, nodup_dups n _ (by omega)⟩
    rw [List.mem_eraseDups] at z
    have := (List.mem_filter.mp z).2
    simp at this
/-- a call of an own def -/
theorem inv_ok {X : Cx} {W : WX} {Q : VK} {r : Rs D} {Fn_ : Fn} {f : Str} {n : Nat} (hn : ds.length = n) (hM : RelH X.K X.w as F H M) (hs : Reps X.K X.w as F H vs ds) (e : inv Fn_ f ds M = some r) (po : PO X as F H r Q) (px : PX X W as F H σ r) :
    spR X.K X.w X.mg Fn_ f n vs H Q (fun cls dx H' => W cls dx σ H') := by
  refine ⟨hs.length.trans hn, ?_⟩
  unfold inv at e
  obtain ⟨h1, e⟩ := oi e
  split at e
  · cases e
  · rename_i os e1
    split at e
    · rename_i hfl
      have mem : ∀ r, D.ref r ∈ ds → r ∈ refsOf ds := fun r hr => by
        unfold refsOf
        rw [List.mem_eraseDups]
        exact List.mem_flatMap.mpr ⟨_, hr, List.mem_singleton.mpr rfl⟩
      have S : Sel X.K X.w as F H M (refsOf ds) os := ⟨hM, by unfold refsOf; exact nodup_dups _ _ (Nat.le_refl _), e1, hfl⟩
      refine ⟨sel as (refsOf ds), as ++ F, os, ds.map (ren (refsOf ds)), ?_⟩
      cases q : Fn_ f (ds.map (ren (refsOf ds))) os with
      | none =>
        rw [q] at e
        cases e
      | some r1 =>
        rw [q] at e
        refine ⟨r1, S.relH, S.args h1 mem hs, rfl, fun d M1 ed as' H' v L m rr => ?_, fun c p M1 ed as' H' cls dx L m xr => ?_⟩
        · subst ed
          unfold backR at e
          dsimp only at e
          split at e
          · rename_i fl
            split at e
            · rename_i d' e2
              cases e
              obtain ⟨m2, r2⟩ := out_ok S L m fl rr e2
              exact po _ _ rfl as H' v (Bk.later ⟨S, L, m, fun _ z => z, fl⟩) m2 r2
            · cases e
          · cases e
        · subst ed
          unfold backR at e
          dsimp only at e
          obtain ⟨h2, e3⟩ := oi e
          cases e3
          have h3 := band h2
          have B : Bk X.K X.w as F H M (refsOf ds) os as' (as ++ F) H' M1 := ⟨S, L, m, fun _ z => z, h3.1⟩
          refine px _ _ _ rfl as H' cls dx B.later (B.mem gok_F fun a ha => .inl ha) ?_
          obtain ⟨x1, x2, x3, x4, x5, x6⟩ := xr
          refine ⟨x1, x2, x3, x4, x5, x6.vals2 B.a1 (B.g1 gok_F) ?_⟩
          have : ∀ p : List (Str × D), p.all (fun q => q.2.val) = true → D.vals (p.map (·.2)) = true := fun p => by
            induction p with
            | nil => exact fun _ => rfl
            | cons x p ih =>
              intro h
              have h' := band (show (x.2.val && p.all fun q => q.2.val) = true from h)
              show (x.2.val && D.vals (p.map (·.2))) = true
              rw [h'.1, ih h'.2]
              rfl
          exact this p h3.2
    · exact ⟨as, F, M, ds, r, hM, hs, e, po, fun c p M' er as' H' cls dx L m x => px c p M' er as' H' cls dx L m x⟩
end Z
end
section
set_option Elab.async false
set_option linter.all false
set_option maxRecDepth 100000
set_option maxHeartbeats 1000000
set_option autoImplicit false
/-! Calls of own defs; what a loop walks; targets. -/
namespace Z
open PySem PySem.Spec PyProof.Rows L2
variable {K : PySem.W.Frag} {w : World} {as as' as'' F F2 : List Addr} {H H₀ H' H'' : Hp} {M M' : Mem} {v : V} {vs : List V} {d : D} {ds : List D} {σ : L2.St} {env : Z.Env}
section
variable {X : Cx} {g : G} {W : WX} {c : Ctx} {e a b : Expr} {es : List Expr} {ce ca cb : E} {ces : Es} {t t' : TE} {pos : Pos}
theorem backR_len {rs : List Nat} {x : Z.R D} {r : Rs D} (e : backR rs M x = some r) : ∃ r1, x = some r1 := by
  cases x with
  | none => cases e
  | some r1 => exact ⟨r1, rfl⟩
theorem inv_len {Fn_ : Fn} {f : Str} {n : Nat} {r : Rs D} (h : ∀ (ds : List D) (M : Mem) (r : Rs D), Fn_ f ds M = some r → ds.length = n) (e : inv Fn_ f ds M = some r) : ds.length = n := by
  unfold inv at e
  obtain ⟨h1, e⟩ := oi e
  split at e
  · cases e
  · split at e
    · obtain ⟨r1, e1⟩ := backR_len e
      have := h _ _ _ e1
      rw [List.length_map] at this
      exact this
    · exact h _ _ _ e
/-- what is reckoned only where nothing is handled -/
theorem s_calm (h : g.calm = true → PE X e (tE X g W ce)) (q : g.calm = false → ∀ env M, exE g ce env M = none) : PE X e (tE X g W ce) := by
  cases hg : g.calm with
  | true => exact h hg
  | false => exact ⟨fun pins s σ H Q I ⟨as, F, M, env, r0, hE, hM, ex, po, px⟩ => by
      rw [q hg] at ex
      cases ex⟩
/-- a call of an own def -/
theorem s_call {f : Str} {p : Pos} {fa : Addr} {fd : FuncData} {ps : List Str} {k : Nat} (tk : L2N.Takes X W) (gc : g.calm = true) (hr : Room k X.A) (Fo : FnOk X.prog X.w X.K X.mg X.base (L2N.CX X.prog X.w) k fa fd ps (spR X.K X.w X.mg g.call f ps.length)) (hg : Gl X f) (hd : (f == ("__debug__" : Str)) = false) (hm : X.mg f = some (.ref fa)) (hk : PySem.W.keepIn X.K (.ref fa) = true) (hb : Binds X.K fd ps [])
    (hlen : ∀ (ds : List D) (M : Mem) (r : Rs D), g.call f ds M = some r → ds.length = ps.length)
    (ns : ∀ x ∈ es, NS x) (ha : PA X es (tEs X g W ces)) (hl : es = [] → ces = .nil) : PE X (.Call (.Name f p) es [] pos) (tE X g W (.call f ces)) := by
  cases es with
  | nil =>
    rw [hl rfl]
    refine ⟨fun pins s σ H Q I ⟨as, F, M, env, r0, hE, hM, ex, po, px⟩ => ?_⟩
    unfold exE at ex
    rw [if_pos gc] at ex
    unfold exEs at ex
    have e : inv g.call f [] M = some r0 := ex
    refine wpAny_Call_Name_kw (ld_glob I hg hm ?_ hd)
    exact PySem.W.callWith_K0 I.kIn hk (run_fnS (E := WE W) (us := []) Fo hr hb (L2N.passAt tk σ) I .nil (inv_ok (inv_len hlen e) hM .nil e po px))
  | cons e0 es =>
    have h1 := star1 (es := es) (env := X.env) (ns e0 List.mem_cons_self)
    have h2 := star_plain (env := X.env) (pos := pos) fun x hx => ns x (List.mem_cons_of_mem _ hx)
    refine PE.imp (pe_callS (E := WE W) Fo hr hg hm hk hb (L2N.passAt tk) ha hd h1 h2) fun σ H Q ⟨as, F, M, env, r0, hE, hM, ex, po, px⟩ => ?_
    unfold exE at ex
    rw [if_pos gc] at ex
    refine tEs_mono (args (Q := Q) hE hM ex po px) fun xs H1 ⟨as1, M1, ds, hE1, hM1, hx, e, po, px⟩ => ?_
    obtain ⟨es', e1, e2⟩ := ob e
    exact inv_ok (inv_len hlen e2) hM1 (hx.frz e1) e2 po px

/-! ### what a loop walks -/
/-- what is kept, but for lists that no value names -/
structure LaterF (as F : List Addr) (H : Hp) (as' : List Addr) (H' : Hp) : Prop where
  pre : ∃ new, as' = as ++ new ∧ ∀ a ∈ new, a ∈ F ∨ H a = none
  keep : ∀ (a : Addr) (o : HO), H a = some o → a ∉ as → (a ∉ F ∨ ¬ Chg o) → H' a = some o
  there : ∀ a ∈ as, ∃ o, H a = some o ∧ Chg o
theorem Later.lf (L : Later as H as' H') : LaterF as F H as' H' := ⟨let ⟨n, e, h⟩ := L.pre; ⟨n, e, fun a ha => .inr (h a ha)⟩, fun a o e n _ => L.keep a o e n, L.there⟩
theorem LaterF.nin (L : LaterF as F H as' H') {a : Addr} {o : HO} (h : H a = some o) (n : a ∉ as) (f : a ∉ F) : a ∉ as' := by
  obtain ⟨new, e, hn⟩ := L.pre
  intro z
  rw [e] at z
  rcases List.mem_append.mp z with z | z
  · exact n z
  · rcases hn a z with q | q
    · exact f q
    · rw [q] at h
      cases h
theorem LaterF.at_ (L : LaterF as F H as' H') {n : Nat} {a : Addr} (h : as[n]? = some a) : as'[n]? = some a := by
  obtain ⟨new, e, _⟩ := L.pre
  rw [e, List.getElem?_append_left (List.getElem?_eq_some_iff.mp h).1]
  exact h
theorem LaterF.any (L : LaterF as F H as' H') {a : Addr} {o : HO} (h : H a = some o) (no : ¬ Chg o) : H' a = some o := L.keep a o h (fun z => by
  obtain ⟨y, q, hc⟩ := L.there a z
  rw [q] at h
  cases h
  exact no hc) (.inr no)
theorem chg_tup {xs : List V} : ¬ Chg (.tup xs) := fun h => by rcases h with ⟨_, q⟩ | ⟨_, _, _, q⟩ <;> cases q
theorem chg_frz {o : Obj} {u : HO} : ¬ Chg (.frz o u) := fun h => by rcases h with ⟨_, q⟩ | ⟨_, _, _, q⟩ <;> cases q
theorem LaterF.tup (L : LaterF as F H as' H') {a : Addr} {xs : List V} (h : SqT K H a xs) : SqT K H' a xs := by
  rcases h with (h | ⟨o, h⟩) | h
  · exact .inl (.inl (L.any h chg_tup))
  · exact .inl (.inr ⟨o, L.any h chg_frz⟩)
  · exact .inr h
theorem LaterF.trans (L : LaterF as F H as' H') (L2 : Later as' H' as'' H'') : LaterF as F H as'' H'' := by
  obtain ⟨n1, e1, h1⟩ := L.pre
  obtain ⟨n2, e2, h2⟩ := L2.pre
  refine ⟨⟨n1 ++ n2, by rw [e2, e1, List.append_assoc], fun a ha => ?_⟩, fun a o h n q => ?_, L.there⟩
  · rcases List.mem_append.mp ha with ha | ha
    · exact h1 a ha
    · have h3 := h2 a ha
      by_cases hf : a ∈ F
      · exact .inl hf
      · refine .inr ?_
        cases q : H a with
        | none => rfl
        | some o =>
          have hm : a ∉ as := fun hm => by
            obtain ⟨xs, e, _⟩ := L2.there a (by rw [e1]; exact List.mem_append_left _ hm)
            rw [h3] at e
            cases e
          rw [L.keep a o q hm (.inl hf)] at h3
          cases h3
  · refine L2.keep a o (L.keep a o h n q) fun z => ?_
    rw [e1] at z
    rcases List.mem_append.mp z with z | z
    · exact n z
    · obtain ⟨xs, e, hc⟩ := L2.there a (by rw [e1]; exact List.mem_append_right _ z)
      have e2 := L.keep a o h n q
      rw [e] at e2
      cases e2
      rcases h1 a z with h3 | h3
      · rcases q with q | q
        · exact q h3
        · exact q hc
      · rw [h3] at h
        cases h
mutual
theorem Rep.lf (L : LaterF as F H as' H') (hF : ∀ a ∈ F2, a ∈ F ∨ H a = none) : ∀ {v : V} {d : D}, Rep K w as F H v d → Rep K w as' F2 H' v d
  | _, _, .non => .non
  | _, _, .bl b => .bl b
  | _, _, .int i => .int i
  | _, _, .str s => .str s
  | _, _, .tup h r => .tup (L.tup h) (Reps.lf L hF r)
  | _, _, .tl h n f r => .tl (L.keep _ _ h n (.inl f)) (L.nin h n f) (fun z => (hF _ z).elim f fun e => by rw [h] at e; cases e) (Reps.lf L hF r)
  | _, _, .sc h r => .sc (h.keep fun o h => L.any h chg_frz) (Reps.lf L hF r)
  | _, _, .dc h => .dc h
  | _, _, .ref h => .ref (L.at_ h)
theorem Reps.lf (L : LaterF as F H as' H') (hF : ∀ a ∈ F2, a ∈ F ∨ H a = none) : ∀ {vs : List V} {ds : List D}, Reps K w as F H vs ds → Reps K w as' F2 H' vs ds
  | _, _, .nil => .nil
  | _, _, .cons h r => .cons (Rep.lf L hF h) (Reps.lf L hF r)
end
/-- the iterator yields the items while the watch holds -/
def WkOk (K : PySem.W.Frag) (w : World) (as F : List Addr) (H : Hp) (J : L2.It) (k : Wk) : Prop :=
  ∀ (as2 F2 : List Addr) (H2 : Hp) (M2 : Mem), LaterF as F H as2 H2 → RelH K w as2 F2 H2 M2 → (∀ a ∈ F2, a ∈ F ∨ H a = none) → k.watch M2 = true → ∀ i : Nat, (i = k.items.length → J.stop i H2) ∧
    ∀ d : D, k.items[i]? = some d → J.go i H2 ∧ ∀ x H3, J.yld i H2 x H3 → Later as2 H2 as2 H3 ∧ RelH K w as2 F2 H3 M2 ∧ Rep K w as2 F2 H3 x d
def tI (X : Cx) (g : G) (W : WX) (it : Z.It) : TI := fun σ H R => ∃ as F M env r, RelE X.K X.w as F H σ env ∧ RelH X.K X.w as F H M ∧ exI g it env M = some r ∧
  (∀ (k : Wk) (M' : Mem), r = .ok k M' → ∀ (as' : List Addr) (H' : Hp), Later as H as' H' → RelH X.K X.w as' F H' M' → ∀ J, WkOk X.K X.w as' F H' J k → R J H') ∧ PX X W as F H σ r
theorem PI.imp {tg : Expr} {t t' : TI} (h : PI X tg e t) (f : ∀ σ H R, t' σ H R → t σ H R) : PI X tg e t' := ⟨fun pins s σ H R I q => h.run pins s σ H R I (f σ H R q)⟩
/-- a list or a tuple, by its value -/
theorem pi_seq {tg : Expr} (he : PE X e t) : PI X tg e (fun σ H R => t σ H fun x H1 => ∃ a, x = .ref a ∧ (((∃ xs, SqL X.K H1 a xs) ∧ R (Itl X.K a) H1) ∨ ((∃ xs, SqT X.K H1 a xs) ∧ R (Itt X.K a) H1))) := by
  refine ⟨fun pins s σ H R I h => thn (he.run pins s σ H _ I h) ?_⟩
  rintro v s1 ⟨x, H1, I1, r1, p, rfl, ⟨⟨xs, hq⟩, q⟩ | ⟨⟨xs, hq⟩, q⟩⟩
  · cases r1
    obtain ⟨its, rv, pl, hz⟩ := I1.list hq
    have fr := I1.hok.fresh (Nat.le_refl s1.heap.objs.size)
    refine wpAny_pyIter_list pl.isList ⟨_, [s1.heap.objs.size], _, _, H1, rfl, ?_, turn_list p _, ⟨_, Heap.get?_push_size _ rfl, rfl, rfl⟩, ?_, q⟩
    · exact I1.kept (t' := s1.toks) fun b o => Heap.get?_push_of_some _
    · intro b hb
      rw [List.mem_singleton.mp hb]
      exact I1.fpOk (Nat.le_refl _) fr
  · cases r1
    obtain ⟨its, rv, pl, hz⟩ := I1.tuple hq
    have fr := I1.hok.fresh (Nat.le_refl s1.heap.objs.size)
    refine wpAny_pyIter_tuple (show s1.heap.IsTuple p its.toArray from pl) ⟨_, [s1.heap.objs.size], _, _, H1, rfl, ?_, turn_tuple p _, ⟨_, Heap.get?_push_size _ rfl, rfl, rfl⟩, ?_, q⟩
    · exact I1.kept (t' := s1.toks) fun b o => Heap.get?_push_of_some _
    · intro b hb
      rw [List.mem_singleton.mp hb]
      exact I1.fpOk (Nat.le_refl _) fr
theorem wk_list {k : Wk} {p : Addr} (h : ∀ (as2 F2 : List Addr) (H2 : Hp) (M2 : Mem), LaterF as F H as2 H2 → RelH K w as2 F2 H2 M2 → (∀ a ∈ F2, a ∈ F ∨ H a = none) → k.watch M2 = true → ∃ xs, SqL K H2 p xs ∧ Reps K w as2 F2 H2 xs k.items) : WkOk K w as F H (Itl K p) k := by
  intro as2 F2 H2 M2 L hM hF hw i
  obtain ⟨xs, hq, r⟩ := h as2 F2 H2 M2 L hM hF hw
  refine ⟨fun e => ⟨xs, hq, by rw [r.length, e]; exact Nat.le_refl _⟩, fun d e => ?_⟩
  obtain ⟨x, e1, r1⟩ := r.get e
  refine ⟨⟨xs, x, hq, e1⟩, ?_⟩
  rintro y H3 ⟨rfl, hy⟩
  have e2 := hy xs hq
  rw [e1] at e2
  cases e2
  exact ⟨.refl hM, hM, r1⟩
theorem wk_tup {k : Wk} {p : Addr} (h : ∀ (as2 F2 : List Addr) (H2 : Hp) (M2 : Mem), LaterF as F H as2 H2 → RelH K w as2 F2 H2 M2 → (∀ a ∈ F2, a ∈ F ∨ H a = none) → k.watch M2 = true → ∃ xs, SqT K H2 p xs ∧ Reps K w as2 F2 H2 xs k.items) : WkOk K w as F H (Itt K p) k := by
  intro as2 F2 H2 M2 L hM hF hw i
  obtain ⟨xs, hq, r⟩ := h as2 F2 H2 M2 L hM hF hw
  refine ⟨fun e => ⟨xs, hq, by rw [r.length, e]; exact Nat.le_refl _⟩, fun d e => ?_⟩
  obtain ⟨x, e1, r1⟩ := r.get e
  refine ⟨⟨xs, x, hq, e1⟩, ?_⟩
  rintro y H3 ⟨rfl, hy⟩
  have e2 := hy xs hq
  rw [e1] at e2
  cases e2
  exact ⟨.refl hM, hM, r1⟩
/-- the walk of a list or a tuple -/
theorem wkSeq_ok {k : Wk} (hM : RelH K w as F H M) (hx : RepW K w as F H v d) (e : wkSeq d M = some k) : ∃ p, v = .ref p ∧ (((∃ xs, SqL K H p xs) ∧ WkOk K w as F H (Itl K p) k) ∨ ((∃ xs, SqT K H p xs) ∧ WkOk K w as F H (Itt K p) k)) := by
  unfold wkSeq at e
  split at e
  · rename_i ds e1
    cases e
    cases hx with
    | val hx =>
      cases hx with
      | @tup p vs ds' h r =>
        cases e1
        exact ⟨p, rfl, .inr ⟨⟨_, h⟩, wk_tup fun as2 F2 H2 M2 L hM hF hw => ⟨vs, L.tup h, r.lf L hF⟩⟩⟩
      | @tl p vs ds' h n f r =>
        cases e1
        exact ⟨p, rfl, .inl ⟨⟨_, SqL.of h⟩, wk_list fun as2 F2 H2 M2 L hM hF hw => ⟨vs, SqL.of (L.keep _ _ h n (.inl f)), r.lf L hF⟩⟩⟩
      | @sc p vs ds' h r =>
        cases e1
        exact ⟨p, rfl, .inl ⟨⟨_, h.sql⟩, wk_list fun as2 F2 H2 M2 L hM hF hw => ⟨vs, (h.keep fun o h => L.any h chg_frz).sql, r.lf L hF⟩⟩⟩
      | @ref n p h =>
        unfold seqOf at e1
        dsimp only at e1
        split at e1
        · rename_i zs e2
          cases e1
          have z := hM.obj n p _ h e2
          cases z with
          | lst h2 r2 =>
            refine ⟨p, rfl, .inl ⟨⟨_, SqL.of h2⟩, wk_list fun as2 F2 H2 M2 L hM2 hF hw => ?_⟩⟩
            have hw' : watchOf (.ref n) ds M2 = true := hw
            unfold watchOf at hw'
            dsimp only at hw'
            split at hw'
            · rename_i ys e3
              have e4 := D.beqs_eq _ _ hw'
              subst e4
              have z2 := hM2.obj n p _ (L.at_ h) e3
              cases z2 with
              | lst h3 r3 => exact ⟨_, SqL.of h3, r3⟩
            · cases hw'
        · cases e1
      | _ => cases e1
    | @fl p vs ds' h n f r =>
      cases e1
      exact ⟨p, rfl, .inl ⟨⟨_, SqL.of h⟩, wk_list fun as2 F2 H2 M2 L hM hF hw => ⟨vs, SqL.of (L.keep _ _ h n (.inl f)), r.lf L hF⟩⟩⟩
    | st => cases e1
  · cases e
theorem liftW_ok {x : Option Wk} {r : Rs Wk} (e : liftW x M = some r) : ∃ k, x = some k ∧ r = .ok k M := by
  unfold liftW at e
  split at e
  · cases e
    exact ⟨_, rfl, rfl⟩
  · cases e
theorem s_seq {tg : Expr} (he : PE X e (tE X g W ce)) : PI X tg e (tI X g W (.seq ce)) := PI.imp (pi_seq he) fun σ H R ⟨as, F, M, env, r0, hE, hM, ex, po, px⟩ => by
  unfold exI at ex
  refine tE_bind hE hM ex px fun d M1 as1 H1 x L1 hM1 r1 e1 => ?_
  obtain ⟨k, e2, rfl⟩ := liftW_ok e1
  obtain ⟨p, rfl, ⟨h1, h2⟩ | ⟨h1, h2⟩⟩ := wkSeq_ok hM1 (r1.weak hM.fex) e2
  · exact ⟨p, rfl, .inl ⟨h1, po _ _ rfl _ _ L1 hM1 _ h2⟩⟩
  · exact ⟨p, rfl, .inr ⟨h1, po _ _ rfl _ _ L1 hM1 _ h2⟩⟩
theorem rangeL_get : ∀ (n : Nat) (lo : Int) (i : Nat) (d : D), (rangeL lo n)[i]? = some d → i < n ∧ d = .int (lo + i)
  | 0, _, _, _, e => by
    unfold rangeL at e
    simp at e
  | n + 1, lo, 0, d, e => by
    unfold rangeL at e
    simp at e
    exact ⟨by omega, by rw [← e]; simp⟩
  | n + 1, lo, i + 1, d, e => by
    unfold rangeL at e
    obtain ⟨h1, h2⟩ := rangeL_get n (lo + 1) i d (by simpa using e)
    exact ⟨by omega, by rw [h2]; congr 1; omega⟩
theorem rangeL_len : ∀ (n : Nat) (lo : Int), (rangeL lo n).length = n
  | 0, _ => rfl
  | n + 1, lo => by
    unfold rangeL
    rw [List.length_cons, rangeL_len n]
theorem wk_rng {lo : Int} {n : Nat} : WkOk K w as F H (Itr lo n) ⟨rangeL lo n, still⟩ := by
  intro as2 F2 H2 M2 L hM hF hw i
  refine ⟨fun e => ?_, fun d e => ?_⟩
  · rw [show i = (rangeL lo n).length from e, rangeL_len]
    exact Nat.le_refl _
  · obtain ⟨h1, rfl⟩ := rangeL_get n lo i d e
    refine ⟨h1, ?_⟩
    rintro x H3 ⟨rfl, rfl⟩
    exact ⟨.refl hM, hM, .int _⟩
theorem wkRng_ok {x y : V} {da db : D} {k : Wk} (hx : RepW K w as F H x da) (hy : RepW K w as F H y db) (e : wkRng da db = some k) : ∃ i j : Int, x = .int i ∧ y = .int j ∧ da = .int i ∧ (-(2 ^ 62) ≤ i ∧ i < 2 ^ 62 ∧ -(2 ^ 62) ≤ j ∧ j < 2 ^ 62) ∧ k = ⟨rangeL i (j - i).toNat, still⟩ := by
  unfold wkRng at e
  split at e
  · rename_i lo hi
    obtain ⟨h, e⟩ := oi e
    cases e
    have h1 := band h
    have h2 := band h1.2
    have h3 := band h2.2
    cases hx with
    | val hx =>
      cases hx
      cases hy with
      | val hy =>
        cases hy
        exact ⟨lo, hi, rfl, rfl, rfl, ⟨of_decide_eq_true h1.1, of_decide_eq_true h2.1, of_decide_eq_true h3.1, of_decide_eq_true h3.2⟩, rfl⟩
  · cases e
theorem s_rng2 {tg : Expr} {p : Pos} (hg : Gl X "range") (hm : X.mg "range" = none) (na : NS a) (nb : NS b) (ha : PE X a (tE X g W ca)) (hb : PE X b (tE X g W cb)) : PI X tg (.Call (.Name "range" p) [a, b] [] pos) (tI X g W (.rng ca cb)) := by
  have h2 : starEach [b] X.env = [(false, eval b X.env)] := star1 nb
  have h1 : starEach [a, b] X.env = [(false, eval a X.env), (false, eval b X.env)] := by rw [star1 na, h2]
  refine PI.imp (pi_range2 hg hm (pa_cons ha (pa_cons hb pa_nil h2) (star1 na)) h1 h2) fun σ H R ⟨as, F, M, env, r0, hE, hM, ex, po, px⟩ => ?_
  unfold exI at ex
  refine tE_bind hE hM ex px fun da M1 as1 H1 x L1 hM1 r1 e1 => ?_
  refine tE_bind (hE.later L1) hM1 e1 (px.later L1) fun db M2 as2 H2 y L2 hM2 r2 e2 => ?_
  obtain ⟨k, e3, rfl⟩ := liftW_ok e2
  obtain ⟨i, j, rfl, rfl, _, h3, rfl⟩ := wkRng_ok ((r1.weak hM.fex).later L2) (r2.weak hM1.fex) e3
  exact ⟨i, j, rfl, h3, po _ _ rfl _ _ (L1.trans L2) hM2 _ wk_rng⟩
theorem exE_c : exE g (.c d) env M = some (.ok d M) := by
  unfold exE
  rfl
theorem s_rng1 {tg : Expr} {p : Pos} (hg : Gl X "range") (hm : X.mg "range" = none) (na : NS a) (ha : PE X a (tE X g W ca)) : PI X tg (.Call (.Name "range" p) [a] [] pos) (tI X g W (.rng (.c (.int 0)) ca)) := by
  refine PI.imp (pi_range1 hg hm (pa_cons ha pa_nil (star1 na)) (star1 na)) fun σ H R ⟨as, F, M, env, r0, hE, hM, ex, po, px⟩ => ?_
  unfold exI at ex
  have ex' : ((exE g ca env M).bind fun y M => liftW (wkRng (.int 0) y) M) = some r0 := by
    rw [exE_c] at ex
    exact ex
  refine tE_bind hE hM ex' px fun da M1 as1 H1 x L1 hM1 r1 e1 => ?_
  obtain ⟨k, e3, rfl⟩ := liftW_ok e1
  obtain ⟨i, j, h0, rfl, e4, h3, rfl⟩ := wkRng_ok (RepW.val (.int 0)) (r1.weak hM.fex) e3
  cases e4
  refine ⟨j, rfl, h3.2.2.1, h3.2.2.2, po _ _ rfl _ _ L1 hM1 _ ?_⟩
  have e5 : (j - 0).toNat = j.toNat := by rw [Int.sub_zero]
  rw [e5]
  exact wk_rng
end
end Z
end
section
set_option Elab.async false
set_option linter.all false
set_option maxRecDepth 100000
set_option maxHeartbeats 1000000
set_option autoImplicit false
/-! Targets; list comprehensions. -/
namespace Z
open PySem PySem.Spec PyProof.Rows L2
variable {K : PySem.W.Frag} {w : World} {as as' as'' F F2 : List Addr} {H H₀ H' H'' : Hp} {M M' : Mem} {v : V} {vs : List V} {d : D} {ds : List D} {σ σ1 : L2.St} {env env1 : Z.Env}
/-! ### targets -/
def setsV : List Nat → List V → L2.St → L2.St
  | i :: is, v :: vs, σ => setsV is vs (σ.set i (some v))
  | _, _, σ => σ
theorem wipe_set {i : Nat} {x : Option V} {σ : L2.St} : ∀ {l : List Nat}, i ∈ l → wipe (σ.set i x) l = wipe σ l
  | [], h => by cases h
  | j :: l, h => by
    unfold wipe
    by_cases e : i ∈ l
    · rw [wipe_set e]
    · have : i = j := by
        rcases List.mem_cons.mp h with h | h
        · exact h
        · exact absurd h e
      subst this
      clear h
      have key : ∀ (l : List Nat) (σ : L2.St), i ∉ l → wipe (σ.set i x) l = (wipe σ l).set i x := fun l => by
        induction l with
        | nil => exact fun _ _ => rfl
        | cons k l ih =>
          intro σ hn
          unfold wipe
          rw [ih σ fun z => hn (List.mem_cons_of_mem _ z), List.set_comm _ _ fun z => hn (by rw [z]; exact List.mem_cons_self)]
      rw [key l σ e, List.set_set]
theorem wipe_sets : ∀ {is : List Nat} {xs : List V} {σ : L2.St} {l : List Nat}, (∀ i ∈ is, i ∈ l) → wipe (setsV is xs σ) l = wipe σ l
  | [], _, _, _, _ => by unfold setsV; rfl
  | i :: is, [], _, _, _ => by unfold setsV; rfl
  | i :: is, x :: xs, σ, l, h => by
    unfold setsV
    rw [wipe_sets fun j hj => h j (List.mem_cons_of_mem _ hj), wipe_set (h i List.mem_cons_self)]
theorem wipe_get {σ : L2.St} {i : Nat} : ∀ {l : List Nat}, i ∈ l → i < σ.length → (wipe σ l)[i]? = some none
  | [], h, _ => by cases h
  | j :: l, h, hl => by
    unfold wipe
    by_cases e : j = i
    · rw [e, List.getElem?_set_self (by rw [wipe_length]; exact hl)]
    · rw [List.getElem?_set_ne e]
      exact wipe_get ((List.mem_cons.mp h).resolve_left fun z => e z.symm) hl
theorem wipe_wipe {σ : L2.St} {l : List Nat} : wipe (wipe σ l) l = wipe σ l := by
  refine List.ext_getElem? fun i => ?_
  by_cases h : i ∈ l
  · by_cases hl : i < σ.length
    · rw [wipe_get h (by rw [wipe_length]; exact hl), wipe_get h hl]
    · rw [List.getElem?_eq_none (by rw [wipe_length, wipe_length]; omega), List.getElem?_eq_none (by rw [wipe_length]; omega)]
  · rw [wipe_out h]
theorem RelE.sets : ∀ {is : List Nat} {xs : List V} {ds : List D} {σ : L2.St} {env env1 : Z.Env}, RelE K w as F H σ env → Reps K w as F H xs ds → bindT is ds env = some env1 → RelE K w as F H (setsV is xs σ) env1 ∧ is.length = ds.length
  | [], _, _, _, _, _, h, .nil, e => by
    cases e
    exact ⟨h, rfl⟩
  | i :: is, _, _, _, _, _, h, .nil, e => by cases e
  | [], _, _, _, _, _, h, .cons _ _, e => by cases e
  | i :: is, _, _, _, _, _, h, .cons r t, e => by
    have := RelE.sets (is := is) (h.set (i := i) r) t e
    exact ⟨this.1, by rw [List.length_cons, List.length_cons, this.2]⟩
/-- a target's reading -/
def tG (X : Cx) (is : List Nat) : TG := fun v σ H Q => ∃ as F M d env env1, RelE X.K X.w as F H σ env ∧ RelH X.K X.w as F H M ∧ Rep X.K X.w as F H v d ∧ bindG is d M env = some env1 ∧
  ∀ σ1, RelE X.K X.w as F H σ1 env1 → (∀ l, (∀ i ∈ is, i ∈ l) → wipe σ1 l = wipe σ l) → Q σ1 H
section
variable {X : Cx} {g : G} {W : WX} {c : Ctx} {e a b : Expr} {es : List Expr} {ce ca cb : E} {ces : Es} {t t' : TE} {pos : Pos}
theorem PG.imp {tg : Expr} {t t' : TG} (h : PG X tg t) (f : ∀ v σ H Q, t' v σ H Q → t v σ H Q) : PG X tg t' := ⟨fun pins s σ H v u Q I r q => h.run pins s σ H v u Q I r (f v σ H Q q)⟩
theorem PGs.imp {tg : List Expr} {t t' : TGs} (h : PGs X tg t) (f : ∀ v σ H Q, t' v σ H Q → t v σ H Q) : PGs X tg t' := ⟨fun pins s σ H v u Q I r q => h.run pins s σ H v u Q I r (f v σ H Q q)⟩
/-- a stored name -/
structure Sto (X : Cx) (x : Str) (i : Nat) : Prop where
  at_ : X.N[i]? = some x
  loc : Loc X.env.scope x
  fn : X.fn x = true ∨ X.env.scope.names.lookup x = some .local
theorem s_gname {x : Str} {i : Nat} (nd : X.N.Nodup) (h : Sto X x i) : PG X (.Name x pos) (tG X [i]) := PG.imp (pg_name nd h.at_ h.loc h.fn) fun v σ H Q ⟨as, F, M, d, env, env1, hE, hM, r, e, q⟩ => by
  unfold bindG at e
  cases e
  exact q _ (hE.set r) fun l hl => wipe_set (hl i List.mem_cons_self)
def gNames (is : List Nat) : TGs := fun vs σ H Q => vs.length = is.length ∧ Q (setsV is vs σ) H
theorem s_gnames (nd : X.N.Nodup) : ∀ {es : List Expr} {is : List Nat}, es.length = is.length → (∀ (j : Nat) (e : Expr) (i : Nat), es[j]? = some e → is[j]? = some i → ∃ x p, e = Expr.Name x p ∧ Sto X x i) → PGs X es (gNames is) ∧ (assignEach es X.env).length = is.length ∧ (assignEach es X.env).findIdx? (·.1) = none
  | [], [], _, _ => by
    refine ⟨PGs.imp pgs_nil fun vs σ H Q ⟨h, q⟩ => ?_, rfl, rfl⟩
    cases vs with
    | nil => exact ⟨rfl, q⟩
    | cons v vs => cases h
  | e :: es, i :: is, hl, h => by
    obtain ⟨x, p, rfl, hs⟩ := h 0 e i rfl rfl
    obtain ⟨h1, h2, h3⟩ := s_gnames nd (es := es) (is := is) (by simpa using hl) fun j e i e1 e2 => h (j + 1) e i (by simpa using e1) (by simpa using e2)
    refine ⟨PGs.imp (pgs_cons (pg_name (pos := p) nd hs.at_ hs.loc hs.fn) h1 rfl) fun vs σ H Q ⟨hl, q⟩ => ?_, ?_, ?_⟩
    · cases vs with
      | nil => cases hl
      | cons v vs => exact ⟨v, vs, rfl, by simpa using hl, q⟩
    · show (assignEach es X.env).length + 1 = is.length + 1
      rw [h2]
    · show (List.findIdx? (fun x => x.1) ((false, _) :: assignEach es X.env)) = none
      rw [List.findIdx?_cons, h3]
      rfl
  | [], i :: is, hl, _ => by simp at hl
  | e :: es, [], hl, _ => by simp at hl
theorem bindG_two {is : List Nat} (h2 : 2 ≤ is.length) (e : bindG is d M env = some env1) : ∃ ds, d = .tup ds ∧ bindT is ds env = some env1 := by
  match is, h2 with
  | i :: j :: is, _ =>
    unfold bindG at e
    dsimp only at e
    split at e
    · exact ⟨_, rfl, e⟩
    · cases e
theorem s_gtup {is : List Nat} {k : Nat} (hc : X.calm = true) (nd : X.N.Nodup) (h2 : 2 ≤ is.length) (hl : es.length = is.length) (h : ∀ (j : Nat) (e : Expr) (i : Nat), es[j]? = some e → is[j]? = some i → ∃ x p, e = Expr.Name x p ∧ Sto X x i) : PG X (.Tuple es k pos) (tG X is) := by
  obtain ⟨h1, h3, h4⟩ := s_gnames nd hl h
  refine PG.imp (pg_tup hc h1 h3 h4) fun v σ H Q ⟨as, F, M, d, env, env1, hE, hM, r, e, q⟩ => ?_
  obtain ⟨ds, rfl, e2⟩ := bindG_two h2 e
  cases r with
  | @tup p xs ds hq r =>
    obtain ⟨h5, h6⟩ := hE.sets r e2
    have h7 := r.length
    exact ⟨p, xs, rfl, hq, by omega, by omega, q _ h5 fun l hl => wipe_sets hl⟩

/-! ### one clause -/
theorem compL_ok {wt : Mem → Bool} {body : D → Mem → Z.R (Option D)} : ∀ {l : List D} {M : Mem} {r : Rs (List D)}, compL wt body l M = some r → ∃ ds M', r = .ok ds M'
  | [], M, r, e => by
    unfold compL at e
    obtain ⟨_, e⟩ := oi e
    cases e
    exact ⟨_, _, rfl⟩
  | x :: xs, M, r, e => by
    unfold compL at e
    obtain ⟨_, e⟩ := oi e
    split at e
    · split at e
      · cases e
        exact ⟨_, _, rfl⟩
      · cases e
    · cases e
theorem compL_cons {wt : Mem → Bool} {body : D → Mem → Z.R (Option D)} {x : D} {xs : List D} {ds : List D} (e : compL wt body (x :: xs) M = some (.ok ds M')) : wt M = true ∧ ∃ y M1 ys, body x M = some (.ok y M1) ∧ compL wt body xs M1 = some (.ok ys M') ∧ ds = (match y with | some y => y :: ys | none => ys) := by
  unfold compL at e
  obtain ⟨h, e⟩ := oi e
  split at e
  · rename_i y M1 e1
    split at e
    · rename_i ys M2 e2
      cases e
      exact ⟨h, y, M1, ys, e1, e2, rfl⟩
    · cases e
  · cases e
theorem compL_nil {wt : Mem → Bool} {body : D → Mem → Z.R (Option D)} {ds : List D} (e : compL wt body [] M = some (.ok ds M')) : wt M = true ∧ ds = [] ∧ M' = M := by
  unfold compL at e
  obtain ⟨h, e⟩ := oi e
  cases e
  exact ⟨h, rfl, rfl⟩
mutual
/-- a list that no value names is written -/
theorem Rep.poke {p : Addr} {xs ys : List V} (hp : H p = some (.lst xs)) : ∀ {v : V} {d : D}, Rep K w as (p :: F) H v d → Rep K w as (p :: F) (upd H p (.lst ys)) v d
  | _, _, .non => .non
  | _, _, .bl b => .bl b
  | _, _, .int i => .int i
  | _, _, .str s => .str s
  | _, _, .tup h r => .tup (by
      rcases h with (h | ⟨o, h⟩) | h
      · exact .inl (.inl (by rw [upd_ne (ne_of h hp (fun z => nomatch z))]; exact h))
      · exact .inl (.inr ⟨o, by rw [upd_ne (ne_of h hp (fun z => nomatch z))]; exact h⟩)
      · exact .inr h) (Reps.poke hp r)
  | _, _, .tl h n f r => .tl (by rw [upd_ne fun z => f (by rw [z]; exact List.mem_cons_self)]; exact h) n f (Reps.poke hp r)
  | _, _, .sc h r => .sc (h.keep fun o h => by rw [upd_ne (ne_of h hp (fun z => nomatch z))]; exact h) (Reps.poke hp r)
  | _, _, .dc h => .dc h
  | _, _, .ref h => .ref h
theorem Reps.poke {p : Addr} {xs ys : List V} (hp : H p = some (.lst xs)) : ∀ {vs : List V} {ds : List D}, Reps K w as (p :: F) H vs ds → Reps K w as (p :: F) (upd H p (.lst ys)) vs ds
  | _, _, .nil => .nil
  | _, _, .cons h r => .cons (Rep.poke hp h) (Reps.poke hp r)
end
theorem RelH.poke {p : Addr} {xs ys : List V} (hp : H p = some (.lst xs)) (np : p ∉ as) (h : RelH K w as (p :: F) H M) : RelH K w as (p :: F) (upd H p (.lst ys)) M := by
  refine ⟨h.len, h.nd, fun a ha => ?_, fun n a o e1 e2 => ?_⟩
  · by_cases e : a = p
    · rw [e, upd_same]
      exact fun z => nomatch z
    · rw [upd_ne e]
      exact h.fex a ha
  · cases h.obj n a o e1 e2 with
    | lst h1 r => exact .lst (by rw [upd_ne fun z => np (by rw [← z]; exact List.mem_of_getElem? e1)]; exact h1) (r.poke hp)
    | ins h1 e r => exact .ins (by rw [upd_ne fun z => np (by rw [← z]; exact List.mem_of_getElem? e1)]; exact h1) e (r.poke hp)
theorem Later.poke {p : Addr} {o : HO} (L : Later as H as' H') (hp : H p = none) : Later as H as' (L2.upd H' p o) := ⟨L.pre, fun a u e n => by rw [upd_ne (ne_of_none e hp)]; exact L.keep a u e n, L.there⟩
theorem LaterF.poke {p : Addr} {xs ys : List V} (L : LaterF as F H as' H') (hf : p ∈ F) (hp : H p = some (.lst xs)) : LaterF as F H as' (L2.upd H' p (.lst ys)) := ⟨L.pre, fun a u e n q => by
  by_cases z : a = p
  · subst z
    rw [hp] at e
    cases e
    rcases q with q | q
    · exact absurd hf q
    · exact absurd (.inl ⟨_, rfl⟩) q
  · rw [upd_ne z]
    exact L.keep a u e n q, L.there⟩
/-- no exception leaves -/
def W0 : WX := fun _ _ _ _ => False
theorem px_ok {α : Type} {x : α} : PX X W as F H σ (.ok x M) := fun c p M' e => by cases e
/-- what one turn does -/
def turn1 (g : G) (gt : List Nat) (cond elt : E) (own : List Nat) (env : Z.Env) : D → Mem → Z.R (Option D) := fun d M => match bindG gt d M (wipeE env own) with
        | some env1 => (exT g cond env1 M).bind fun t M => if t then (exE g elt env1 M).bind fun y M => (match frz y with
          | some y => some (.ok (some y) M)
          | none => none) else some (.ok none M)
        | none => none
theorem s_comp {own : List (Str × Nat)} {gt : List Nat} {it : Z.It} {cc : E} (hcalm : g.calm = true → X.calm = true) (hown : ∀ i ∈ gt, i ∈ own.map (·.2)) :
    ∀ σ H Q, tE X g W (.comp gt it cc ce (own.map (·.2))) σ H Q → X.calm = true ∧ tLc (tI X g W it) (tG X gt) (tB_ X g W0 cc) (tE X g W0 ce) (own.map (·.2)) σ H Q := by
  intro σ H Q ⟨as, F, M, env, r0, hE, hM, ex, po, px⟩
  unfold exE at ex
  obtain ⟨hc, ex⟩ := oi ex
  refine ⟨hcalm hc, ?_⟩
  rcases rb ex with ⟨k, M1, e1, e2⟩ | ⟨c, p, M1, e1, e2⟩
  · refine ⟨as, F, M, env, _, hE, hM, e1, fun k' M1' ek as1 H1 L1 hM1 J hJ D hD => ?_, px_ok⟩
    cases ek
    have e2' : (compL k.watch (turn1 g gt cc ce (own.map (·.2)) env) k.items M1).bind (fun ds M => if ds.length ≤ 16777216 then some (Rs.ok (Z.D.fl ds) M) else none) = some r0 := e2
    rcases rb e2' with ⟨dsf, Mf, e3, e4⟩ | ⟨c, p, M3, e3, _⟩
    · obtain ⟨hlen, e5⟩ := op e4
      cases e5
      have nD1 := nin_new hM1 hD
      have hD0 : H D = none := L1.free hD fun z => nD1 (L1.sub _ z)
      refine ⟨fun i m Hc => m = k.items.length - i ∧ i ≤ k.items.length ∧ ∃ as2 M2 acc ds rest, Later as1 H1 as2 Hc ∧ RelH X.K X.w as2 (D :: F) Hc M2 ∧ D ∉ as2 ∧ Hc D = some (.lst acc) ∧ Reps X.K X.w as2 (D :: F) Hc acc ds ∧
        compL k.watch (turn1 g gt cc ce (own.map (·.2)) env) (k.items.drop i) M2 = some (.ok rest Mf) ∧ ds ++ rest = dsf, ⟨k.items.length, rfl, Nat.zero_le _, as1, M1, [], [], dsf, .upd hM1 hD, hM1.laid hD, nD1, upd_same, .nil, e3, rfl⟩, ?_⟩
      rintro i m Hc ⟨rfl, hi, as2, M2, acc, ds, rest, L2, hM2, nD2, hDc, hr, ec, el⟩
      have GF : ∀ a ∈ D :: F, a ∈ F ∨ H1 a = none := fun a ha => (List.mem_cons.mp ha).elim (fun z => .inr (by rw [z]; exact hD)) .inl
      by_cases hlt : i < k.items.length
      · have hd : k.items[i]? = some k.items[i] := List.getElem?_eq_getElem hlt
        rw [List.drop_eq_getElem_cons hlt] at ec
        obtain ⟨hw, y, M3, ys, e6, e7, e8⟩ := compL_cons ec
        obtain ⟨go, step⟩ := (hJ as2 (D :: F) Hc M2 L2.lf hM2 GF hw i).2 _ hd
        refine .inr ⟨go, fun H' => k.items.length - (i + 1) = k.items.length - (i + 1) ∧ i + 1 ≤ k.items.length ∧ ∃ as2 M2 acc ds rest, Later as1 H1 as2 H' ∧ RelH X.K X.w as2 (D :: F) H' M2 ∧ D ∉ as2 ∧ H' D = some (.lst acc) ∧ Reps X.K X.w as2 (D :: F) H' acc ds ∧
          compL k.watch (turn1 g gt cc ce (own.map (·.2)) env) (k.items.drop (i + 1)) M2 = some (.ok rest Mf) ∧ ds ++ rest = dsf, fun H' n => ⟨_, by omega, n⟩, fun x H3 hy => ?_⟩
        obtain ⟨L3, hM3, rx⟩ := step x H3 hy
        unfold turn1 at e6
        split at e6
        · rename_i env1 e9
          have hE1 : RelE X.K X.w as2 (D :: F) H3 σ env := (((hE.later L1).shun hD).later (L2.trans L3))
          refine ⟨as2, D :: F, M2, _, wipeE env (own.map (·.2)), env1, hE1.wipe _, hM3, rx, e9, fun σ1 hE2 hw2 => ⟨?_, ?_⟩⟩
          · rw [hw2 _ hown, wipe_wipe]
          · refine tB_bind hE2 hM3 e6 px_ok fun t M4 as4 H4 L4 hM4 e10 => ?_
            have nD4 : D ∉ as4 := L4.nin (L3.keep _ _ hDc nD2) nD2
            have hD4 : H4 D = some (.lst acc) := L4.keep _ _ (L3.keep _ _ hDc nD2) nD2
            cases t with
            | true =>
              rw [if_pos rfl] at e10 ⊢
              refine tE_bind (hE2.later L4) hM4 e10 px_ok fun z M5 as5 H5 v L5 hM5 r5 e11 => ?_
              split at e11
              · rename_i y' e12
                cases e11
                have nD5 := L5.nin hD4 nD4
                have hD5 := L5.keep _ _ hD4 nD4
                have r6 : Rep X.K X.w as5 (D :: F) H5 v y' := (r5.weak hM4.fex).frz e12
                have r7 : Reps X.K X.w as5 (D :: F) H5 acc ds := hr.later (L3.trans (L4.trans L5))
                refine ⟨acc, hD5, ?_, rfl, hlt, as5, M3, acc ++ [v], ds ++ [y'], ys, (L2.trans (L3.trans (L4.trans L5))).poke hD, hM5.poke hD5 nD5, nD5, upd_same, (r7.append (.cons r6 .nil)).poke hD5, e7, ?_⟩
                · rw [hr.length, ← lim]
                  have := congrArg List.length el
                  rw [List.length_append, e8, List.length_cons] at this
                  omega
                · rw [← el, e8, List.append_assoc]
                  rfl
              · cases e11
            | false =>
              rw [if_neg Bool.false_ne_true] at e10 ⊢
              cases e10
              exact ⟨rfl, hlt, as4, M3, acc, ds, ys, L2.trans (L3.trans L4), hM4, nD4, hD4, hr.later (L3.trans L4), e7, by rw [← el, e8]⟩
        · cases e6
      · have hi' : i = k.items.length := by omega
        rw [hi', List.drop_length] at ec
        obtain ⟨hw, rfl, rfl⟩ := compL_nil ec
        refine .inl ⟨(hJ as2 (D :: F) Hc _ L2.lf hM2 GF hw i).1 hi', ?_⟩
        rw [List.append_nil] at el
        subst el
        exact po _ _ rfl as2 Hc _ (L1.trans L2) (hM2.less sub_cons) (.fl hD0 hDc nD2 hr hM2)
    · obtain ⟨_, _, q⟩ := compL_ok e3
      cases q
  · refine ⟨as, F, M, env, _, hE, hM, e1, fun k' M1' ek => (by cases ek), fun c' p' M1' ek as' H' cls dx L hM' hx => ?_⟩
    cases ek
    exact px _ _ _ e2 as' H' cls dx L hM' hx
end
end Z
end
section
set_option Elab.async false
set_option linter.all false
set_option maxRecDepth 100000
set_option maxHeartbeats 1000000
set_option autoImplicit false
/-! Comprehensions of two clauses. -/
namespace Z
open PySem PySem.Spec PyProof.Rows L2
variable {K : PySem.W.Frag} {w : World} {as as' as'' F F2 : List Addr} {H H₀ H' H'' : Hp} {M M' : Mem} {v : V} {vs : List V} {d : D} {ds : List D} {σ σ1 : L2.St} {env env1 : Z.Env}
theorem RelE.lf (L : LaterF as F H as' H') (h : RelE K w as F H σ env) : RelE K w as' F H' σ env := ⟨h.len, fun i d e => by
  obtain ⟨v, e1, r⟩ := h.at_ i d e
  exact ⟨v, e1, r.lf L fun a ha => .inl ha⟩⟩
theorem LaterF.refl (h : RelH K w as F H M) : LaterF as F H as H := (Later.refl h).lf
theorem compF_ok {wt : Mem → Bool} {body : D → Mem → Z.R (List D)} : ∀ {l : List D} {M : Mem} {r : Rs (List D)}, compF wt body l M = some r → ∃ ds M', r = .ok ds M'
  | [], M, r, e => by
    unfold compF at e
    obtain ⟨_, e⟩ := oi e
    cases e
    exact ⟨_, _, rfl⟩
  | x :: xs, M, r, e => by
    unfold compF at e
    obtain ⟨_, e⟩ := oi e
    split at e
    · split at e
      · cases e
        exact ⟨_, _, rfl⟩
      · cases e
    · cases e
theorem compF_cons {wt : Mem → Bool} {body : D → Mem → Z.R (List D)} {x : D} {xs : List D} {ds : List D} (e : compF wt body (x :: xs) M = some (.ok ds M')) : wt M = true ∧ ∃ y M1 ys, body x M = some (.ok y M1) ∧ compF wt body xs M1 = some (.ok ys M') ∧ ds = y ++ ys := by
  unfold compF at e
  obtain ⟨h, e⟩ := oi e
  split at e
  · rename_i y M1 e1
    split at e
    · rename_i ys M2 e2
      cases e
      exact ⟨h, y, M1, ys, e1, e2, rfl⟩
    · cases e
  · cases e
theorem compF_nil {wt : Mem → Bool} {body : D → Mem → Z.R (List D)} {ds : List D} (e : compF wt body [] M = some (.ok ds M')) : wt M = true ∧ ds = [] ∧ M' = M := by
  unfold compF at e
  obtain ⟨h, e⟩ := oi e
  cases e
  exact ⟨h, rfl, rfl⟩
section
variable {X : Cx} {g : G} {W : WX} {c : Ctx} {e a b : Expr} {es : List Expr} {ce ca cb : E} {ces : Es} {t t' : TE} {pos : Pos}
/-- what an inner turn does -/
def turn2 (g : G) (gt : List Nat) (elt : E) (own : List Nat) (env : Z.Env) : D → Mem → Z.R (Option D) := fun d2 M => match bindG gt d2 M (wipeE env own) with
          | some env2 => (exE g elt env2 M).bind fun y M => (match frz y with
            | some y => some (.ok (some y) M)
            | none => none)
          | none => none
/-- .. an outer one -/
def turnF (g : G) (gt1 : List Nat) (it2 : Z.It) (gt2 : List Nat) (elt : E) (own own2 : List Nat) (env : Z.Env) : D → Mem → Z.R (List D) := fun d M => match bindG gt1 d M (wipeE env own) with
        | some env1 => (exI g it2 env1 M).bind fun w2 M => compL w2.watch (turn2 g gt2 elt own2 env1) w2.items M
        | none => none
theorem s_comp2 {own : List (Str × Nat)} {gt gt1 : List Nat} {it it1 : Z.It} (hcalm : g.calm = true → X.calm = true) (hown : ∀ i ∈ gt ++ gt1, i ∈ own.map (·.2)) :
    ∀ σ H Q, tE X g W (.comp2 gt it gt1 it1 ce (own.map (·.2)) gt1) σ H Q → X.calm = true ∧ tLc2 (tI X g W it) (tG X gt) tYes (tI X g W0 it1) (tG X gt1) tYes (tE X g W0 ce) (own.map (·.2)) gt1 σ H Q := by
  intro σ H Q ⟨as, F, M, env, r0, hE, hM, ex, po, px⟩
  unfold exE at ex
  obtain ⟨hc, ex⟩ := oi ex
  refine ⟨hcalm hc, ?_⟩
  rcases rb ex with ⟨k, M1, e1, e2⟩ | ⟨c, p, M1, e1, e2⟩
  · refine ⟨as, F, M, env, _, hE, hM, e1, fun k' M1' ek as1 H1 L1 hM1 J hJ D hD => ?_, px_ok⟩
    cases ek
    have e2' : (compF k.watch (turnF g gt it1 gt1 ce (own.map (·.2)) gt1 env) k.items M1).bind (fun ds M => if ds.length ≤ 16777216 then some (Rs.ok (Z.D.fl ds) M) else none) = some r0 := e2
    rcases rb e2' with ⟨dsf, Mf, e3, e4⟩ | ⟨c, p, M3, e3, _⟩
    · obtain ⟨hlen, e5⟩ := op e4
      cases e5
      have nD1 := nin_new hM1 hD
      have hD0 : H D = none := L1.free hD fun z => nD1 (L1.sub _ z)
      refine ⟨fun i m Hc => m = k.items.length - i ∧ i ≤ k.items.length ∧ ∃ as2 M2 acc ds rest, Later as1 H1 as2 Hc ∧ RelH X.K X.w as2 (D :: F) Hc M2 ∧ D ∉ as2 ∧ Hc D = some (.lst acc) ∧ Reps X.K X.w as2 (D :: F) Hc acc ds ∧
        compF k.watch (turnF g gt it1 gt1 ce (own.map (·.2)) gt1 env) (k.items.drop i) M2 = some (.ok rest Mf) ∧ ds ++ rest = dsf, ⟨k.items.length, rfl, Nat.zero_le _, as1, M1, [], [], dsf, .upd hM1 hD, hM1.laid hD, nD1, upd_same, .nil, e3, rfl⟩, ?_⟩
      rintro i m Hc ⟨rfl, hi, as2, M2, acc, ds, rest, L2, hM2, nD2, hDc, hr, ec, el⟩
      have GF : ∀ a ∈ D :: F, a ∈ F ∨ H1 a = none := fun a ha => (List.mem_cons.mp ha).elim (fun z => .inr (by rw [z]; exact hD)) .inl
      by_cases hlt : i < k.items.length
      · have hd : k.items[i]? = some k.items[i] := List.getElem?_eq_getElem hlt
        rw [List.drop_eq_getElem_cons hlt] at ec
        obtain ⟨hw, y, M3, ys, e6, e7, e8⟩ := compF_cons ec
        obtain ⟨go, step⟩ := (hJ as2 (D :: F) Hc M2 L2.lf hM2 GF hw i).2 _ hd
        refine .inr ⟨go, fun H' => k.items.length - (i + 1) = k.items.length - (i + 1) ∧ i + 1 ≤ k.items.length ∧ ∃ as2 M2 acc ds rest, Later as1 H1 as2 H' ∧ RelH X.K X.w as2 (D :: F) H' M2 ∧ D ∉ as2 ∧ H' D = some (.lst acc) ∧ Reps X.K X.w as2 (D :: F) H' acc ds ∧
          compF k.watch (turnF g gt it1 gt1 ce (own.map (·.2)) gt1 env) (k.items.drop (i + 1)) M2 = some (.ok rest Mf) ∧ ds ++ rest = dsf, fun H' n => ⟨_, by omega, n⟩, fun x H3 hy => ?_⟩
        obtain ⟨L3, hM3, rx⟩ := step x H3 hy
        unfold turnF at e6
        split at e6
        · rename_i env1 e9
          have hE1 : RelE X.K X.w as2 (D :: F) H3 σ env := (((hE.later L1).shun hD).later (L2.trans L3))
          refine ⟨as2, D :: F, M2, _, wipeE env (own.map (·.2)), env1, hE1.wipe _, hM3, rx, e9, fun σ1 hE2 hw2 => ⟨?_, ?_⟩⟩
          · rw [hw2 _ fun i hi => hown i (List.mem_append_left _ hi), wipe_wipe]
          · dsimp only [tYes]
            rw [if_pos rfl]
            rcases rb e6 with ⟨k2, M4, e10, e11⟩ | ⟨_, _, _, _, q⟩
            · refine ⟨as2, D :: F, M2, env1, _, hE2, hM3, e10, fun k' M4' ek as4 H4 L4 hM4 J1 hJ1 => ?_, px_ok⟩
              cases ek
              have hD3 := L3.keep _ _ hDc nD2
              have nD4 : D ∉ as4 := L4.nin hD3 nD2
              have hD4 : H4 D = some (.lst acc) := L4.keep _ _ hD3 nD2
              have LL := L2.trans (L3.trans L4)
              refine ⟨fun j m Hc => m = k2.items.length - j ∧ j ≤ k2.items.length ∧ ∃ as5 M5 acc ds1 rest, LaterF as4 (D :: F) H4 as5 Hc ∧ Later as1 H1 as5 Hc ∧ RelH X.K X.w as5 (D :: F) Hc M5 ∧ D ∉ as5 ∧ Hc D = some (.lst acc) ∧ Reps X.K X.w as5 (D :: F) Hc acc ds1 ∧
                compL k2.watch (turn2 g gt1 ce gt1 env1) (k2.items.drop j) M5 = some (.ok rest M3) ∧ ds1 ++ rest = ds ++ y, ⟨k2.items.length, rfl, Nat.zero_le _, as4, M4, acc, ds, y, .refl hM4, LL, hM4, nD4, hD4, hr.later (L3.trans L4), e11, rfl⟩, ?_⟩
              rintro j m Hd ⟨rfl, hj, as5, M5, acc5, ds5, rest5, LF5, L5, hM5, nD5, hD5, hr5, ec5, el5⟩
              have GF5 : ∀ a ∈ D :: F, a ∈ D :: F ∨ H4 a = none := fun a ha => .inl ha
              have hlen5 : ds5.length + rest5.length ≤ 16777216 := by
                have h1 := congrArg List.length el5
                have h2 := congrArg List.length el
                rw [List.length_append, List.length_append] at h1
                rw [e8, List.length_append, List.length_append] at h2
                omega
              by_cases hlt5 : j < k2.items.length
              · have hd5 : k2.items[j]? = some k2.items[j] := List.getElem?_eq_getElem hlt5
                rw [List.drop_eq_getElem_cons hlt5] at ec5
                obtain ⟨hw5, y5, M6, ys5, e12, e13, e14⟩ := compL_cons ec5
                obtain ⟨go5, step5⟩ := (hJ1 as5 (D :: F) Hd M5 LF5 hM5 GF5 hw5 j).2 _ hd5
                refine .inr ⟨go5, fun H' => k2.items.length - (j + 1) = k2.items.length - (j + 1) ∧ j + 1 ≤ k2.items.length ∧ ∃ as5 M5 acc ds1 rest, LaterF as4 (D :: F) H4 as5 H' ∧ Later as1 H1 as5 H' ∧ RelH X.K X.w as5 (D :: F) H' M5 ∧ D ∉ as5 ∧ H' D = some (.lst acc) ∧ Reps X.K X.w as5 (D :: F) H' acc ds1 ∧
                  compL k2.watch (turn2 g gt1 ce gt1 env1) (k2.items.drop (j + 1)) M5 = some (.ok rest M3) ∧ ds1 ++ rest = ds ++ y, fun H' n => ⟨_, by omega, n⟩, fun x5 H6 hy5 => ?_⟩
                obtain ⟨L6, hM6, rx5⟩ := step5 x5 H6 hy5
                unfold turn2 at e12
                split at e12
                · rename_i env2 e15
                  have hE6 : RelE X.K X.w as5 (D :: F) H6 σ1 env1 := ((hE2.later L4).lf LF5).later L6
                  refine ⟨as5, D :: F, M5, _, wipeE env1 gt1, env2, hE6.wipe _, hM6, rx5, e15, fun σ2 hE7 hw7 => ⟨?_, ?_⟩⟩
                  · rw [hw7 _ fun i hi => hi, wipe_wipe]
                  · dsimp only [tYes]
                    rw [if_pos rfl]
                    refine tE_bind hE7 hM6 e12 px_ok fun z M7 as7 H7 v L7 hM7 r7 e16 => ?_
                    split at e16
                    · rename_i y' e17
                      cases e16
                      have hD6 := L6.keep _ _ hD5 nD5
                      have nD6 := L7.nin hD6 nD5
                      have hD7 := L7.keep _ _ hD6 nD5
                      have r8 : Rep X.K X.w as7 (D :: F) H7 v y' := (r7.weak hM6.fex).frz e17
                      have r9 : Reps X.K X.w as7 (D :: F) H7 acc5 ds5 := hr5.later (L6.trans L7)
                      refine ⟨acc5, hD7, ?_, rfl, hlt5, as7, M6, acc5 ++ [v], ds5 ++ [y'], ys5, (LF5.trans (L6.trans L7)).poke List.mem_cons_self hD4, (L5.trans (L6.trans L7)).poke hD, hM7.poke hD7 nD6, nD6, upd_same, (r9.append (.cons r8 .nil)).poke hD7, e13, ?_⟩
                      · rw [hr5.length, ← lim]
                        rw [e14, List.length_cons] at hlen5
                        omega
                      · rw [← el5, e14, List.append_assoc]
                        rfl
                    · cases e16
                · cases e12
              · have hj' : j = k2.items.length := by omega
                rw [hj', List.drop_length] at ec5
                obtain ⟨hw5, rfl, rfl⟩ := compL_nil ec5
                refine .inl ⟨(hJ1 as5 (D :: F) Hd _ LF5 hM5 GF5 hw5 j).1 hj', rfl, hlt, as5, _, acc5, ds5, ys, L5, hM5, nD5, hD5, hr5, e7, ?_⟩
                rw [List.append_nil] at el5
                rw [el5, ← el, e8, List.append_assoc]
            · cases q
        · cases e6
      · have hi' : i = k.items.length := by omega
        rw [hi', List.drop_length] at ec
        obtain ⟨hw, rfl, rfl⟩ := compF_nil ec
        refine .inl ⟨(hJ as2 (D :: F) Hc _ L2.lf hM2 GF hw i).1 hi', ?_⟩
        rw [List.append_nil] at el
        subst el
        exact po _ _ rfl as2 Hc _ (L1.trans L2) (hM2.less sub_cons) (.fl hD0 hDc nD2 hr hM2)
    · obtain ⟨_, _, q⟩ := compF_ok e3
      cases q
  · refine ⟨as, F, M, env, _, hE, hM, e1, fun k' M1' ek => (by cases ek), fun c' p' M1' ek as' H' cls dx L hM' hx => ?_⟩
    cases ek
    exact px _ _ _ e2 as' H' cls dx L hM' hx
end
end Z
end
section
set_option Elab.async false
set_option linter.all false
set_option maxRecDepth 100000
set_option maxHeartbeats 2000000
set_option autoImplicit false
/-! Names, forms, what the compiler lets through. -/
namespace Z
open PySem PySem.Spec PyProof.Rows L2
variable {K : PySem.W.Frag} {w : World} {as as' as'' F F2 : List Addr} {H H₀ H' H'' : Hp} {M M' : Mem} {v : V} {vs : List V} {d : D} {ds : List D} {σ σ1 : L2.St} {env env1 : Z.Env}
theorem idx_get {x : Str} : ∀ {N : List Str} {i : Nat}, idxStr x N = some i → N[i]? = some x
  | [], _, e => by cases e
  | y :: r, i, e => by
    unfold idxStr at e
    split at e
    · rename_i h
      cases e
      rw [h]
      rfl
    · obtain ⟨j, h1, h2⟩ := om e
      subst h2
      rw [List.getElem?_cons_succ]
      exact idx_get h1
theorem vis_ok {sc : Scope} {x : Str} (h : isVis sc x = true) : Vis sc x := by
  unfold isVis at h
  split at h
  · rename_i e
    exact .inl e
  · rename_i e
    exact .inr (.inl e)
  · rename_i e
    exact .inr (.inr e)
  · cases h
theorem loc_ok {sc : Scope} {x : Str} (h : isLoc sc x = true) : Loc sc x := by
  unfold isLoc at h
  split at h
  · rename_i e
    exact .inl e
  · rename_i e
    exact .inr e
  · cases h
theorem dbg_ok {x : Str} (h : notDebug x = true) : (x == ("__debug__" : Str)) = false ∧ (x == ("__classdict__" : Str)) = false := by
  have h1 := band (show (!(x == ("__debug__" : Str)) && !(x == ("__classdict__" : Str))) = true from h)
  exact ⟨by simpa using h1.1, by simpa using h1.2⟩
section
variable {X : Cx} {g : G} {W : WX} {c : Ctx} {e a b : Expr} {es : List Expr} {ce ca cb : E} {ces : Es} {t t' : TE} {pos : Pos} {n : Nat} {x : Str}
theorem gl_ok (O : OkC X c g W) (h : isGl c.sc x = true) : Gl X x := by
  have e : c.sc.names.lookup x = some .globalImplicit := by
    unfold isGl at h
    split at h
    · rename_i e
      exact e
    · cases h
  rw [← O.sc] at e
  exact e
theorem bi_name (O : OkC X c g W) (h1 : c.gl.lookup x = none) (h2 : biNames.contains x = true) : X.mg x = none := O.gls.free x (List.contains_iff_mem.mp h2) h1
theorem isBi_ok (O : OkC X c g W) (h : isBi c x = true) : Gl X x ∧ X.mg x = none := by
  have h1 := band (show (isGl c.sc x && ((c.gl.lookup x).isNone && biNames.contains x)) = true from h)
  have h2 := band h1.2
  exact ⟨gl_ok O h1.1, bi_name O (Option.isNone_iff_eq_none.mp h2.1) h2.2⟩
theorem sto_ok (O : OkC X c g W) {i : Nat} (h : slotL c x = some i) : Sto X x i := by
  unfold slotL at h
  obtain ⟨h1, h2⟩ := oi h
  have h3 := band (show (isLoc c.sc x && _) = true from h1)
  exact ⟨by rw [O.N]; exact idx_get h2, by rw [O.sc]; exact loc_ok h3.1, O.st x h1⟩
theorem cBi_ok {f : Str} {bi : Bi} (h : cBi f = some bi) : bootBuiltins f = some (biV bi) ∧ f ≠ "__name__" ∧ (f == ("__debug__" : Str)) = false ∧ bi ≠ .sortedR ∧ bi ≠ .range := by
  unfold cBi at h
  repeat (split at h; · rename_i e; cases h; subst e; exact ⟨by decide +kernel, by decide, by decide, by decide, by decide⟩)
  cases h
theorem cMt_ok {f : Str} {m : Mt} (h : cMt f = some m) : f = mtS m := by
  unfold cMt at h
  repeat (split at h; · rename_i e; cases h; subst e; rfl)
  cases h
theorem cTy_ok (O : OkC X c g W) {T : Ty} (h : cTy c e = some T) : ∃ x p, e = Expr.Name x p ∧ PE X e (tC (.ty (tyN T))) := by
  unfold cTy at h
  split at h
  · rename_i x p
    obtain ⟨h1, h2⟩ := oi h
    obtain ⟨hg, hm⟩ := isBi_ok O h1
    refine ⟨x, p, rfl, ?_⟩
    repeat (split at h2; · rename_i e; cases h2; subst e; exact pe_bltn hg hm (by decide +kernel) rfl (by decide) (by decide))
    cases h2
  · cases h
theorem cTys_ok (O : OkC X c g W) : ∀ {es : List Expr} {ts : List Ty}, cTys c es = some ts → PA X es (fun σ H Q => Q (ts.map fun t => V.ty (tyN t)) H)
  | [], ts, h => by
    cases h
    exact PA.imp pa_nil fun σ H Q q => q
  | e :: es, ts, h => by
    unfold cTys at h
    split at h
    · rename_i t ts' h1 h2
      cases h
      obtain ⟨x, p, rfl, he⟩ := cTy_ok O h1
      exact PA.imp (pa_cons he (cTys_ok O h2) rfl) fun σ H Q q => q
    · cases h

/-! ### what is let through -/
theorem cE_e1 {n : Nat} (h : cE n c e = some ce) : ∃ k c1, cE1 k c e = some c1 := by
  cases n with
  | zero =>
    unfold cE at h
    cases h
  | succ n =>
    unfold cE at h
    obtain ⟨c1, h1, _⟩ := om h
    exact ⟨n, c1, h1⟩
theorem e1_ns {n : Nat} (h : cE1 n c e = some ce) : NS e := by
  intro x p z
  subst z
  cases n with
  | zero =>
    unfold cE1 at h
    cases h
  | succ n =>
    unfold cE1 at h
    cases h
theorem cE_ns {n : Nat} (h : cE n c e = some ce) : NS e := by
  obtain ⟨k, c1, h1⟩ := cE_e1 h
  exact e1_ns h1
theorem cEs_ns : ∀ {n : Nat} {es : List Expr} {ces : Es}, cEs n c es = some ces → (∀ x ∈ es, NS x) ∧ (es = [] → ces = .nil)
  | 0, _, _, h => by
    unfold cEs at h
    cases h
  | n + 1, [], _, h => by
    unfold cEs at h
    cases h
    exact ⟨fun x hx => (by cases hx), fun _ => rfl⟩
  | n + 1, e :: es, _, h => by
    unfold cEs at h
    split at h
    · rename_i h1 h2
      refine ⟨fun x hx => ?_, fun z => nomatch z⟩
      rcases List.mem_cons.mp hx with z | z
      · rw [z]
        exact cE_ns h1
      · exact (cEs_ns h2).1 x z
    · cases h
theorem e1_set {n : Nat} {xs : List Expr} {k : Nat} {p : Pos} (h : cE1 n c (.Set xs k p) = some ce) : False := by
  cases n with
  | zero =>
    unfold cE1 at h
    cases h
  | succ n =>
    unfold cE1 at h
    cases h
theorem cE_mark {n : Nat} (h : cE n c e = some ce) (op : CmpOp) : behindInMarks op e = false := by
  obtain ⟨k, c1, h1⟩ := cE_e1 h
  cases e <;> first
    | rfl
    | exact (e1_set h1).elim
theorem e1_slice {n : Nat} {x y z : Option Expr} {p : Pos} (h : cE1 n c (.Slice x y z p) = some ce) : False := by
  cases n with
  | zero =>
    unfold cE1 at h
    cases h
  | succ n =>
    unfold cE1 at h
    cases h
theorem cE_sub {n : Nat} (h : cE n c e = some ce) : ∀ u t, subscripted e false u t = operate [u, t] (getItem u t) := by
  obtain ⟨k, c1, h1⟩ := cE_e1 h
  intro u t
  cases e <;> first
    | rfl
    | exact (e1_slice h1).elim
theorem cIt_set {n : Nat} {it : Z.It} (h : cIt n c e = some it) : ∀ env x, foldedSetIterable e env x = pure x := by
  intro env x
  cases e <;> first
    | rfl
    | (exfalso
       cases n with
       | zero =>
         unfold cIt at h
         cases h
       | succ n =>
         unfold cIt at h
         obtain ⟨c1, h1, _⟩ := om h
         obtain ⟨k, c2, h2⟩ := cE_e1 h1
         exact e1_set h2)
theorem base_ok {o : Expr} {m : Str} {env : PySem.Env} (h : okBase o = true) : attributeBase o m env (eval o env) = eval o env := by
  unfold attributeBase
  split
  · unfold okBase at h
    simp at h
  · rfl

/-! ### tests by truth -/
theorem bind_bind {α β γ : Type} (x : Z.R α) (f : α → Mem → Z.R β) (k : β → Mem → Z.R γ) : (x.bind f).bind k = x.bind fun a M => (f a M).bind k := by
  cases x with
  | none => rfl
  | some r => cases r <;> rfl
theorem opt_bind {α β γ : Type} (x : Option α) (f : α → Z.R β) (k : β → Mem → Z.R γ) : R.bind (x.bind f) k = x.bind fun a => (f a).bind k := by
  cases x <;> rfl
theorem lift1_bind {β : Type} (x : Option D) (k : D → Mem → Z.R β) : (lift1 x M).bind k = x.bind fun d => k d M := by
  cases x <;> rfl
theorem plain_c : Plain g (.c d) := fun env M => by
  unfold exT exE
  rfl
theorem plain_var {i : Nat} : Plain g (.var i) := fun env M => by
  unfold exT exE
  split <;> rfl
theorem plain_idx : Plain g (.idx ca cb) := fun env M => by
  rw [exT, exE]
  simp only [bind_bind, lift1_bind]
theorem plain_call {f : Str} : Plain g (.call f ces) := fun env M => by
  rw [exT, exE]
  split
  · simp only [bind_bind, opt_bind]
  · rfl
theorem plain_bi {bi : Bi} : Plain g (.bi bi ces) := fun env M => by
  rw [exT, exE]
  split
  · simp only [bind_bind, lift1_bind]
  · rfl
theorem plain_isi {ts : List Ty} : Plain g (.isi ca ts) := fun env M => by
  rw [exT, exE]
  simp only [bind_bind]
  congr 1
  funext x M
  cases isTs x M ts <;> rfl
end
end Z
end
section
set_option Elab.async false
set_option linter.all false
set_option maxRecDepth 100000
set_option maxHeartbeats 4000000
set_option autoImplicit false
/-! Instances: attributes, own methods, making. -/
namespace Z
open PySem PySem.Spec PyProof.Rows L2
variable {K : PySem.W.Frag} {w : World} {as as' as'' F F2 : List Addr} {H H₀ H' H'' : Hp} {M M' : Mem} {v : V} {vs : List V} {d : D} {ds : List D} {σ σ1 : L2.St} {env env1 : Z.Env}
/-- an instance as it lies -/
structure InsAt (K : PySem.W.Frag) (w : World) (as F : List Addr) (H : Hp) (M : Mem) (C : Str) (x : V) (d : D) (r : Nat) (ps : List (Str × D)) (a dx : Addr) (fs : List (Str × V)) : Prop where
  ex : x = .ref a
  ed : d = .ref r
  ix : as[r]? = some a
  at_ : H a = some (.ins (He.ga K C) dx fs)
  nm : fs.map (·.1) = ps.map (·.1)
  vs : Reps K w as F H (fs.map (·.2)) (ps.map (·.2))
  few : ps.length < 1000
theorem ins_at {C : Str} {r : Nat} {ps : List (Str × D)} (hM : RelH K w as F H M) (hx : RepW K w as F H v d) (e : insOf C d M = some (r, ps)) : ∃ a dx fs, InsAt K w as F H M C v d r ps a dx fs := by
  unfold insOf at e
  split at e
  · split at e
    · rename_i c' fs' e1
      obtain ⟨⟨h1, h2⟩, h3⟩ := op e
      cases h3
      subst h1
      cases hx with
      | val hx =>
        cases hx with
        | @ref _ a h =>
          have z := hM.obj _ a _ h e1
          cases z with
          | ins h4 h5 h6 => exact ⟨a, _, _, rfl, rfl, h, h4, h5, h6, h2⟩
    · cases e
  · cases e
section
variable {X : Cx} {g : G} {W : WX} {c : Ctx} {e a b : Expr} {es : List Expr} {ce ca cb co : E} {ces : Es} {t t' : TE} {pos : Pos} {n : Nat} {x : Str}
theorem s_att {o : Expr} {C f : Str} (hb : attributeBase o f X.env (eval o X.env) = eval o X.env) (hC : Cls X.K (He.ga X.K C)) (hN : NoAttr X.K (He.ga X.K C) f) (ho : PE X o (tE X g W co)) : PE X (.Attribute o f pos) (tE X g W (.att C co f)) :=
  PE.imp (pe_fld ho hb) fun σ H Q ⟨as, F, M, env, r0, hE, hM, ex, po, px⟩ => by
    unfold exE at ex
    refine tE_mono (one (Q := Q) hE hM ex po px) fun x H1 ⟨as1, M1, da, hE1, hM1, hx, e, po, px⟩ => ?_
    split at e
    · rename_i r ps e1
      obtain ⟨d, e2, rfl⟩ := lift1_ok e
      obtain ⟨a, dx, fs, I⟩ := ins_at hM1 hx e1
      obtain ⟨v, e3, hv⟩ := (Reps.field I.nm I.vs).1 e2
      exact ⟨a, _, dx, fs, v, I.ex, I.at_, hC, hN, e3, po.goal.same hM1 hv⟩
    · cases e
/-! ### own methods -/
theorem meth_form {o : Expr} {m : Str} {apos : Pos} {env : PySem.Env} (hbase : attributeBase o m env (eval o env) = eval o env)
    (hfew : ((backTo pos (starEach es env)).all (fun x => !x.1) && (backToKw pos (keywordEach [] env)).all (fun x => x.1.isSome)
      && decide (es.length + ([] : List Keyword).length + (if ([] : List Keyword).isEmpty then 0 else 1) < 30)) = true)
    (hline : (apos.endLine == pos.line) = true) : eval (.Call (.Attribute o m apos) es [] pos) env = (do
      let ov ← eval o env
      standAt apos.atName
      let (f, first) ← holding [ov] (getMethod ov m (do return (← importBound o env).getD true))
      callWith pos f first (backTo pos (starEach es env)) (backToKw pos (keywordEach [] env))) := by
  have hform : methodCallForm (es.length + ([] : List Keyword).length) (backTo pos (starEach es env)) (backToKw pos (keywordEach [] env)) = true := hfew
  have hpos : methodCallPos true o env apos pos = pure pos := by unfold methodCallPos; simp [hline]
  rw [arm_eval_Call, hbase]
  unfold methodCall
  simp only [hform, hpos, calleeOf, if_true, pure_bind]
theorem few_ok (ns : ∀ x ∈ es, NS x) (hfew : es.length < 30) {env : PySem.Env} : ((backTo pos (starEach es env)).all (fun x => !x.1) && (backToKw pos (keywordEach [] env)).all (fun x => x.1.isSome)
      && decide (es.length + ([] : List Keyword).length + (if ([] : List Keyword).isEmpty then 0 else 1) < 30)) = true := by
  rw [star_all ns]
  show (true && decide (es.length + 0 + 0 < 30)) = true
  simp only [Bool.true_and]
  exact decide_eq_true (by omega)
/-- o.m(..) -/
theorem s_own {o : Expr} {C m : Str} {apos : Pos} {fa : Addr} {fd : FuncData} {ps : List Str} {k : Nat} (gc : g.calm = true) (tk : L2N.Takes X W) (hr : Room k X.A) (Fo : FnOk X.prog X.w X.K X.mg X.base (L2N.CX X.prog X.w) k fa fd ps (spR X.K X.w X.mg g.call (qual C m) ps.length))
    (hC : Cls X.K (He.ga X.K C)) (hm : Meth X.K (He.ga X.K C) m fa) (hb : Binds X.K fd ps []) (hlen : ∀ (ds : List D) (M : Mem) (r : Rs D), g.call (qual C m) ds M = some r → ds.length = ps.length)
    (hbase : attributeBase o m X.env (eval o X.env) = eval o X.env) (hline : (apos.endLine == pos.line) = true) (hfew : es.length < 30) (ns : ∀ x ∈ es, NS x) (ho : PE X o (tE X g W co)) (ha : PA X es (tEs X g W ces)) (hl : es = [] → ces = .nil) :
    PE X (.Call (.Attribute o m apos) es [] pos) (tE X g W (.own C m co ces)) := by
  refine ⟨fun pins s σ H Q I ⟨as, F, M, env, r0, hE, hM, ex, po, px⟩ => ?_⟩
  unfold exE at ex
  rw [if_pos gc] at ex
  refine PySem.W.methodCall_KW (thn (ho.run pins s σ H _ I (one (Q := Q) hE hM ex po px)) fun u s1 ⟨x, H1, I1, rx, as1, M1, da, hE1, hM1, hx, e, po, px⟩ => ?_) (meth_form hbase (few_ok ns hfew) hline)
  split at e
  · rename_i r qs e1
    obtain ⟨a, dx, fs, J⟩ := ins_at hM1 hx e1
    obtain ⟨h1, e⟩ := oi e
    have hno := (Reps.field J.nm J.vs).2 (Option.isNone_iff_eq_none.mp h1)
    have ex1 := J.ex
    subst ex1
    obtain rfl : u = Value.ref a := rx
    refine getmeth_ok I1 J.at_ hC hm hno ?_
    have ta : tEs X g W ces σ H1 fun xs H2 => spR X.K X.w X.mg g.call (qual C m) ps.length (.ref a :: xs) H2 Q (WE W σ) := by
      refine tEs_bind hE1 hM1 e px fun ds M2 as2 H2 xs L2 hM2 r2 e2 => ?_
      obtain ⟨es', e3, e4⟩ := ob e2
      have hd := J.ed
      subst hd
      exact inv_ok (inv_len hlen e4) hM2 (.cons (.ref (L2.at_ J.ix)) (r2.frz e3)) e4 (po.later L2) (px.later L2)
    cases es with
    | nil =>
      rw [hl rfl] at ta
      obtain ⟨as3, F3, M3, env3, r3, hE3, hM3, ex3, po3, px3⟩ := ta
      unfold exEs at ex3
      cases ex3
      have h5 := po3 [] M3 rfl _ _ [] (.refl hM3) hM3 .nil
      exact PySem.W.callWith_K0 (first := [.ref a]) I1.kIn hm.kp (run_fnS (E := WE W) (us := [.ref a]) (vs := [.ref a]) Fo hr hb (L2N.passAt tk σ) I1 (.cons rfl .nil) h5)
    | cons e0 es =>
      have h1 := star1 (es := es) (env := X.env) (ns e0 List.mem_cons_self)
      have h2 := star_plain (env := X.env) (pos := pos) fun x hx => ns x (List.mem_cons_of_mem _ hx)
      refine PySem.W.callWith_K (first := [.ref a]) (h₀ := X.base) I.ok.mod.kin hm.kp (thn (ha.run pos pins s1 σ H1 _ I1 ta) fun us s2 ⟨xs, H2, I2, r, q2⟩ => ⟨I2.kIn, ?_⟩) h1 h2
      exact run_fnS (E := WE W) (us := .ref a :: us) (vs := .ref a :: xs) Fo hr hb (L2N.passAt tk σ) I2 (.cons rfl r) q2
  · cases e
theorem plain_own {C m : Str} : Plain g (.own C m co ces) := fun env M => by
  rw [exT, exE]
  split
  · simp only [bind_bind]
    congr 1
    funext x M
    split
    · split
      · simp only [bind_bind, opt_bind]
      · rfl
    · rfl
  · rfl
end
end Z
end
section
set_option Elab.async false
set_option linter.all false
set_option maxRecDepth 100000
set_option maxHeartbeats 4000000
set_option autoImplicit false
/-! Making an instance. -/
namespace Z
open PySem PySem.Spec PyProof.Rows L2
variable {K : PySem.W.Frag} {w : World} {as as' as'' F F2 : List Addr} {H H₀ H' H'' : Hp} {M M' : Mem} {v : V} {vs : List V} {d : D} {ds : List D} {σ σ1 : L2.St} {env env1 : Z.Env}
section
variable {X : Cx} {g : G} {W : WX} {c : Ctx} {e a b : Expr} {es : List Expr} {ce ca cb co : E} {ces : Es} {t t' : TE} {pos : Pos} {n : Nat} {x : Str}
theorem run_makeS {CX : CXT} {k : Nat} {f C : Addr} {fd : FuncData} {ps : List Str} {sp : Sp} {E : L2.St → XK} {pins : List (Addr × Obj)} {σ : L2.St} {H : Hp} {s : Shared} {Q : VK} {us : List Value} {vs : List V} (M : Mk X.K C f) (F : FnOk X.prog X.w X.K X.mg X.base CX k f fd ps sp) (hr : Room (k + 1) X.A) (hb : Binds X.K fd ps [])
    (hx : PassesAt CX X σ (E σ)) (I : Inv X pins σ H s) (r : Vals vs us)
    (h : ∀ x dx, H x = none → H dx = none → dx ≠ x → sp (.ref x :: vs) (upd (upd H dx (.own x)) x (.ins C dx [])) (fun v H2 => v = .non ∧ Q (.ref x) H2) (E σ)) :
    wpAny (model X.prog X.w) X.A (call (.ref C) us) (EP X pins σ Q) X.xe s := by
  have hq := h (s.heap.objs.size + 1) s.heap.objs.size (I.hok.fresh (Nat.le_succ _)) (I.hok.fresh (Nat.le_refl _)) (Nat.ne_of_lt (Nat.lt_succ_self _))
  have I2 := Inv.made (C := C) I
  have r2 : Vals (V.ref (s.heap.objs.size + 1) :: vs) (Value.ref (s.heap.objs.size + 1) :: us) := .cons rfl r
  have hl : (Value.ref (s.heap.objs.size + 1) :: us).length = ps.length := by
    have e := r2.length
    rw [F.len _ _ _ _ hq] at e
    exact e.symm
  have b := hb _ (Value.ref (s.heap.objs.size + 1) :: us) I2.kIn (by rw [List.append_nil]; exact hl)
  rw [List.append_nil] at b
  refine wpAny_call (make_map (f := f) I.kIn M.makes M.init (beq_iff_eq.mp M.fn) (codeAny_mono (F.run _ X.stack _ _ ⟨Value.ref (s.heap.objs.size + 1) :: us, []⟩ (Value.ref (s.heap.objs.size + 1) :: us) _ _ (E σ) (hr.make C us [])
    (I2.env0.make C us []) b r2 hq) fun r s' hq' => ?_))
  cases r with
  | error e => exact hx pins _ _ e s' I2 hq'
  | ok fl =>
    cases fl with
    | ret u =>
      obtain ⟨v, H', I3, rv, ev, q3⟩ := I2.after hq'
      subst ev
      exact ⟨rv, ⟨V.ref (s.heap.objs.size + 1), H', I3, rfl, q3⟩⟩
    | next => exact False.elim hq'
    | brk => exact False.elim hq'
    | cont => exact False.elim hq'
/-- C(..) -/
theorem s_new {C : Str} {p : Pos} {fa : Addr} {fd : FuncData} {ps : List Str} (gc : g.calm = true) (gr : 1 ≤ g.room) (tk : L2N.Takes X W) (hr : Room g.room X.A) (Fo : FnOk X.prog X.w X.K X.mg X.base (L2N.CX X.prog X.w) (g.room - 1) fa fd ps (spR X.K X.w X.mg g.ini (qual C "__init__") ps.length))
    (hM : Mk X.K (He.ga X.K C) fa) (hb : Binds X.K fd ps []) (hlen : ∀ (ds : List D) (M : Mem) (r : Rs D), g.ini (qual C "__init__") ds M = some r → ds.length = ps.length)
    (hg : Gl X C) (hd : (C == ("__debug__" : Str)) = false) (hm : X.mg C = some (.ref (He.ga X.K C))) (ns : ∀ x ∈ es, NS x) (ha : PA X es (tEs X g W ces)) (hl : es = [] → ces = .nil) :
    PE X (.Call (.Name C p) es [] pos) (tE X g W (.new C ces)) := by
  refine ⟨fun pins s σ H Q I ⟨as, F, M, env, r0, hE, hM0, ex, po, px⟩ => ?_⟩
  unfold exE at ex
  rw [if_pos (by rw [gc, decide_eq_true gr]; rfl)] at ex
  have hr' : Room (g.room - 1 + 1) X.A := by rw [Nat.sub_add_cancel gr]; exact hr
  have go : tEs X g W ces σ H fun xs H1 => ∀ x dx, H1 x = none → H1 dx = none → dx ≠ x → spR X.K X.w X.mg g.ini (qual C "__init__") ps.length (.ref x :: xs) (upd (upd H1 dx (.own x)) x (.ins (He.ga X.K C) dx [])) (fun v H2 => v = .non ∧ Q (.ref x) H2) (WE W σ) := by
    refine tEs_bind hE hM0 ex px fun ds M1 as1 H1 xs L1 hM1 r1 e1 x dx hx hdx ne => ?_
    obtain ⟨es', e2, e3⟩ := ob e1
    obtain ⟨L2', hM2, hix⟩ := hM1.pushI (c := C) hx hdx ne
    rcases rb e3 with ⟨v, M', e4, e5⟩ | ⟨cc, p, M', e4, e5⟩
    · refine inv_ok (inv_len hlen e4) hM2 (.cons (.ref hix) ((r1.frz e2).later L2')) e4 (fun d M'' ed as' H' v' L hM' hr' => ?_) fun c p M'' ed => (by cases ed)
      cases ed
      split at e5
      · cases e5
        cases hr' with
        | val h => 
          cases h
          exact ⟨rfl, po _ _ rfl _ _ _ (L1.trans (L2'.trans L)) hM' (.val (.ref (L.at_ hix)))⟩
      · cases e5
    · cases e5
      refine inv_ok (inv_len hlen e4) hM2 (.cons (.ref hix) ((r1.frz e2).later L2')) e4 (fun d M'' ed => (by cases ed)) fun c p M'' ed as' H' cls dx' L hM' hx' => ?_
      cases ed
      exact px _ _ _ rfl _ _ _ _ (L1.trans (L2'.trans L)) hM' hx'
  refine wpAny_Call_Name_kw (ld_glob I hg hm ?_ hd)
  cases es with
  | nil =>
    rw [hl rfl] at go
    obtain ⟨as3, F3, M3, env3, r3, hE3, hM3, ex3, po3, px3⟩ := go
    unfold exEs at ex3
    cases ex3
    have h5 := po3 [] M3 rfl _ _ [] (.refl hM3) hM3 .nil
    exact PySem.W.callWith_K0 I.kIn hM.kp (run_makeS (E := WE W) (us := []) hM Fo hr' hb (L2N.passAt tk σ) I .nil h5)
  | cons e0 es =>
    have h1 := star1 (es := es) (env := X.env) (ns e0 List.mem_cons_self)
    have h2 := star_plain (env := X.env) (pos := pos) fun x hx => ns x (List.mem_cons_of_mem _ hx)
    refine PySem.W.callWith_K (h₀ := X.base) I.ok.mod.kin hM.kp (thn (ha.run pos pins s σ H _ I go) fun us s1 ⟨vs, H1, I1, r, q⟩ => ⟨I1.kIn, ?_⟩) h1 h2
    exact run_makeS (E := WE W) hM Fo hr' hb (L2N.passAt tk σ) I1 r q
/-! ### a text's signs -/
theorem wk_txt {z : Str} : WkOk K w as F H (Its z) ⟨signs z, still⟩ := by
  intro as2 F2 H2 M2 L hM hF hw i
  have hl : (signs z).length = z.cps.size := by
    unfold signs
    rw [List.length_map, Array.length_toList]
  refine ⟨fun e => ?_, fun d e => ?_⟩
  · show z.cps.size ≤ i
    rw [show i = (signs z).length from e, hl]
    exact Nat.le_refl _
  · have e : (signs z)[i]? = some d := e
    unfold signs at e
    rw [List.getElem?_map] at e
    obtain ⟨ch, h1, h2⟩ := om e
    subst h2
    have h3 : z.cps[i]? = some ch := by rw [← Array.getElem?_toList]; exact h1
    refine ⟨(Array.getElem?_eq_some_iff.mp h3).1, ?_⟩
    rintro x H3 ⟨rfl, c', h4, rfl⟩
    rw [h3] at h4
    cases h4
    exact ⟨.refl hM, hM, .str _⟩
theorem s_txt {tg : Expr} (he : PE X e (tE X g W ce)) : PI X tg e (tI X g W (.txt ce)) := PI.imp (pi_str he) fun σ H R ⟨as, F, M, env, r0, hE, hM, ex, po, px⟩ => by
  unfold exI at ex
  refine tE_bind hE hM ex px fun d M1 as1 H1 x L1 hM1 r1 e1 => ?_
  obtain ⟨k, e2, rfl⟩ := liftW_ok e1
  unfold wkTxt at e2
  split at e2
  · rename_i z
    cases e2
    cases r1 with
    | val r1 =>
      cases r1
      exact ⟨z, rfl, po _ _ rfl _ _ L1 hM1 _ wk_txt⟩
  · cases e2
end
end Z
end
section
set_option Elab.async false
set_option linter.all false
set_option maxRecDepth 100000
set_option maxHeartbeats 4000000
set_option autoImplicit false
/-! Expressions: all kinds together. -/
namespace Z
open PySem PySem.Spec PyProof.Rows L2
variable {K : PySem.W.Frag} {w : World} {as as' as'' F F2 : List Addr} {H H₀ H' H'' : Hp} {M M' : Mem} {v : V} {vs : List V} {d : D} {ds : List D} {σ σ1 : L2.St} {env env1 : Z.Env}
section
variable {X : Cx} {g : G} {W : WX} {c : Ctx} {e a b : Expr} {es : List Expr} {ce ca cb : E} {ces : Es} {t t' : TE} {pos : Pos} {n : Nat} {x : Str}
theorem OkC.blk {scope : Scope} (O : OkC X c g W) (hb : L2.blkC c.N c.sc scope (ownOf c scope) = true) (s : Shared) (H : Hp) (C : Addr) (cl : List (Str × Addr)) (fp : List Addr) :
    OkC (X.blk s H scope (compEnvC scope cl C X.env) fp) { c with sc := relS scope c.sc, own := some ((ownOf c scope).map (·.1)) } g W0 := by
  have B := blkOk_by hb
  refine ⟨O.N, O.nd, ?_, fun x h => ?_, O.calm, fun u s' h => ?_, O.room, O.units, O.gls, O.fn, O.atr, O.own, O.new, O.exc⟩
  · rw [← O.sc]
    rfl
  · have h1 := band (show (isLoc (relS scope c.sc) x && (notDebug x && ((ownOf c scope).map (·.1)).contains x)) = true from h)
    have h2 := List.contains_iff_mem.mp (band h1.2).2
    obtain ⟨p, hp, rfl⟩ := List.mem_map.mp h2
    obtain ⟨q, hq, e⟩ := List.mem_filterMap.mp hp
    have u := B.uniq q hq
    have hx : q.1 = p.1 := by
      split at e
      · obtain ⟨i, _, e2⟩ := om e
        rw [← e2]
      · obtain ⟨i, _, e2⟩ := om e
        rw [← e2]
      · cases e
    rw [← hx]
    split at e
    · rename_i hk
      rw [hk] at u
      exact .inr (lookup_relS_keep (sc := X.env.scope) (fun z => nomatch z) u)
    · rename_i hk
      rw [hk] at u
      refine .inl ?_
      show (scope.names.lookup q.1 == some NameKind.cell) = true
      rw [u]
      rfl
    · cases e
  · obtain ⟨_, _, _, _, _, _, _, _, _, _, _, _, _, _, _, _, hw⟩ := h
    exact hw
theorem cNames_ok (O : OkC X c g W) : ∀ {es : List Expr} {is : List Nat}, cNames c es = some is → es.length = is.length ∧ ∀ (j : Nat) (e : Expr) (i : Nat), es[j]? = some e → is[j]? = some i → ∃ x p, e = Expr.Name x p ∧ Sto X x i
  | [], is, h => by
    cases h
    exact ⟨rfl, fun j e i e1 => by simp at e1⟩
  | e0 :: es, is, h => by
    unfold cNames at h
    split at h
    · rename_i hz
      cases hz
    · rename_i x p es' hz
      cases hz
      split at h
      · rename_i i is' h1 h2
        cases h
        obtain ⟨h3, h4⟩ := cNames_ok O h2
        refine ⟨by rw [List.length_cons, List.length_cons, h3], fun j e i e1 e2 => ?_⟩
        cases j with
        | zero =>
          simp at e1 e2
          subst e1 e2
          exact ⟨x, p, rfl, sto_ok O h1⟩
        | succ j => exact h4 j e i (by simpa using e1) (by simpa using e2)
      · cases h
    · cases h
theorem s_tgt {tg : Expr} {gt : List Nat} (O : OkC X c g W) (hc : X.calm = true) (h : cTgt c tg = some gt) : PG X tg (tG X gt) := by
  unfold cTgt at h
  split at h
  · obtain ⟨i, h1, h2⟩ := om h
    subst h2
    exact s_gname O.nd (sto_ok O h1)
  · obtain ⟨h1, h2⟩ := op h
    obtain ⟨h3, h4⟩ := cNames_ok O h2
    exact s_gtup hc O.nd (by omega) h3 h4
  · cases h
theorem s_const (h : PE X e (tE X g W (.c d))) (he : ∀ whole, isTrue e X.env whole = (do let v ← whole; standAt e.pos; holding [v] (truthy v))) : PE X e (tE X g W (.c d)) ∧ PT X e (tB_ X g W (.c d)) := ⟨h, s_truth h plain_c he⟩
/-- the two readings of an expression -/
abbrev Both (X : Cx) (g : G) (W : WX) (e : Expr) (ce : E) : Prop := PE X e (tE X g W ce) ∧ PT X e (tB_ X g W ce)
structure AllOk (g : G) (n : Nat) : Prop where
  e : ∀ (X : Cx) (c : Ctx) (W : WX) (e : Expr) (ce : E), OkC X c g W → cE n c e = some ce → Both X g W e ce
  es : ∀ (X : Cx) (c : Ctx) (W : WX) (es : List Expr) (ces : Es), OkC X c g W → cEs n c es = some ces → PA X es (tEs X g W ces)
  e1 : ∀ (X : Cx) (c : Ctx) (W : WX) (e : Expr) (ce : E), OkC X c g W → cE1 n c e = some ce → Both X g W e ce
  o : ∀ (X : Cx) (c : Ctx) (W : WX) (e : Option Expr) (ce : E), OkC X c g W → cOpt n c e = some ce → L2.PO X e (tO X g W ce)
  an : ∀ (X : Cx) (c : Ctx) (W : WX) (es : List Expr) (r : Option E), OkC X c g W → cAnd n c es = some r → (es = [] ∧ r = none) ∨ ∃ a rest ce, es = a :: rest ∧ r = some ce ∧ ∀ pos, PE X (.BoolOp .And es pos) (tE X g W ce) ∧ PW X (.BoolOp .And es pos) (tB_ X g W ce)
  or : ∀ (X : Cx) (c : Ctx) (W : WX) (es : List Expr) (r : Option E), OkC X c g W → cOr n c es = some r → (es = [] ∧ r = none) ∨ ∃ a rest ce, es = a :: rest ∧ r = some ce ∧ ∀ pos, PE X (.BoolOp .Or es pos) (tE X g W ce) ∧ PW X (.BoolOp .Or es pos) (tB_ X g W ce)
  ifs : ∀ (X : Cx) (c : Ctx) (W : WX) (es : List Expr) (ce : E), OkC X c g W → cIfs n c es = some ce → PTs X es (tB_ X g W ce)
  it : ∀ (X : Cx) (c : Ctx) (W : WX) (e tg : Expr) (it : Z.It), OkC X c g W → cIt n c e = some it → PI X tg e (tI X g W it)
theorem and_cons {rest : List Expr} {r : Option E} (ha : Both X g W a ca) (hr : (rest = [] ∧ r = none) ∨ ∃ b rest' cb, rest = b :: rest' ∧ r = some cb ∧ ∀ pos, PE X (.BoolOp .And rest pos) (tE X g W cb) ∧ PW X (.BoolOp .And rest pos) (tB_ X g W cb)) (pos : Pos) :
    PE X (.BoolOp .And (a :: rest) pos) (tE X g W (r.elim ca (.and ca))) ∧ PW X (.BoolOp .And (a :: rest) pos) (tB_ X g W (r.elim ca (.and ca))) := by
  rcases hr with ⟨rfl, rfl⟩ | ⟨b, rest', cb, rfl, rfl, h⟩
  · exact ⟨pe_one ha.1, pw_and1 ha.2⟩
  · exact ⟨s_and ha.1 (h pos).1, s_andT ha.2 (h pos).2⟩
theorem or_cons {rest : List Expr} {r : Option E} (ha : Both X g W a ca) (hr : (rest = [] ∧ r = none) ∨ ∃ b rest' cb, rest = b :: rest' ∧ r = some cb ∧ ∀ pos, PE X (.BoolOp .Or rest pos) (tE X g W cb) ∧ PW X (.BoolOp .Or rest pos) (tB_ X g W cb)) (pos : Pos) :
    PE X (.BoolOp .Or (a :: rest) pos) (tE X g W (r.elim ca (.or ca))) ∧ PW X (.BoolOp .Or (a :: rest) pos) (tB_ X g W (r.elim ca (.or ca))) := by
  rcases hr with ⟨rfl, rfl⟩ | ⟨b, rest', cb, rfl, rfl, h⟩
  · exact ⟨pe_one ha.1, pw_or1 ha.2⟩
  · exact ⟨s_or ha.1 (h pos).1, s_orT ha.2 (h pos).2⟩
theorem both_mat {p : Pos} (h : Both X g W e ce) : Both X g W e (matAt c p ce) := by
  unfold matAt
  split
  · exact ⟨s_mat h.1, s_none fun env M => by rw [exT] <;> (intros; contradiction)⟩
  · exact h
/-- a call of a built-in by its name -/
theorem both_bi {f : Str} {p : Pos} {n : Nat} {bi : Bi} (O : OkC X c g W) (A : AllOk g n) (hg : Gl X f) (hm : X.mg f = none) (h1 : cBi f = some bi) (h2 : cEs n c es = some ces) : Both X g W (.Call (.Name f p) es [] pos) (.bi bi ces) := by
  obtain ⟨h3, h4, h5, h6, h7⟩ := cBi_ok h1
  obtain ⟨h8, h9⟩ := cEs_ns h2
  have h := s_bi (p := p) (pos := pos) h6 h7 O.units O.calm hg hm h3 h4 h5 h8 (A.es X c W es ces O h2) h9
  exact ⟨h, s_truth h plain_bi fun _ => rfl⟩
theorem AllOk.zero : AllOk g 0 := ⟨fun X c W e ce O h => by (unfold cE at h; cases h), fun X c W e ce O h => by (unfold cEs at h; cases h), fun X c W e ce O h => by (unfold cE1 at h; cases h), fun X c W e ce O h => by (unfold cOpt at h; cases h),
  fun X c W e ce O h => by (unfold cAnd at h; cases h), fun X c W e ce O h => by (unfold cOr at h; cases h), fun X c W e ce O h => by (unfold cIfs at h; cases h), fun X c W e tg ce O h => by (unfold cIt at h; cases h)⟩
theorem it_succ {n : Nat} (A : AllOk g n) (X : Cx) (c : Ctx) (W : WX) (e tg : Expr) (it : Z.It) (O : OkC X c g W) (h : cIt (n + 1) c e = some it) : PI X tg e (tI X g W it) := by
  have seq : ∀ {e : Expr} {it : Z.It}, (cE n c e).map Z.It.seq = some it → PI X tg e (tI X g W it) := fun {e it} h => by
    obtain ⟨ce, h1, rfl⟩ := om h
    exact s_seq (A.e X c W e ce O h1).1
  unfold cIt at h
  split at h
  · split at h
    · rename_i hb
      have hb := band hb
      obtain ⟨ca, h1, rfl⟩ := om h
      obtain ⟨hg, hm⟩ := isBi_ok O hb.2
      have hf := of_decide_eq_true hb.1
      subst hf
      exact s_rng1 hg hm (cE_ns h1) (A.e X c W _ ca O h1).1
    · exact seq h
  · split at h
    · rename_i hb
      have hb := band hb
      obtain ⟨hg, hm⟩ := isBi_ok O hb.2
      have hf := of_decide_eq_true hb.1
      subst hf
      split at h
      · rename_i ca cb h1 h2
        cases h
        exact s_rng2 hg hm (cE_ns h1) (cE_ns h2) (A.e X c W _ ca O h1).1 (A.e X c W _ cb O h2).1
      · cases h
    · exact seq h
  · split at h
    · obtain ⟨ce, h1, rfl⟩ := om h
      exact s_txt (A.e X c W _ ce O h1).1
    · exact seq h
end
end Z
end
section
set_option Elab.async false
set_option linter.all false
set_option maxRecDepth 100000
set_option maxHeartbeats 8000000
set_option autoImplicit false
/-! Expressions: the induction. -/
namespace Z
open PySem PySem.Spec PyProof.Rows L2
variable {K : PySem.W.Frag} {w : World} {as as' as'' F F2 : List Addr} {H H₀ H' H'' : Hp} {M M' : Mem} {v : V} {vs : List V} {d : D} {ds : List D} {σ σ1 : L2.St} {env env1 : Z.Env}
section
variable {X : Cx} {g : G} {W : WX} {c : Ctx} {e a b : Expr} {es : List Expr} {ce ca cb : E} {ces : Es} {t t' : TE} {pos : Pos} {n : Nat} {x : Str}
theorem both_none (h : PE X e (tE X g W ce)) (q : ∀ env M, exT g ce env M = none) : Both X g W e ce := ⟨h, s_none q⟩
theorem both_lc {elt tg iter : Expr} {ifs : List Expr} {scope : Scope} (O : OkC X c g W) (A : AllOk g n) (hb : L2.blkC c.N c.sc scope (ownOf c scope) = true) {gt : List Nat} {it : Z.It} {cc : E}
    (h1 : cTgt { c with sc := relS scope c.sc, own := some ((ownOf c scope).map (·.1)) } tg = some gt) (h2 : cIt n c iter = some it) (h3 : cIfs n { c with sc := relS scope c.sc, own := some ((ownOf c scope).map (·.1)) } ifs = some cc)
    (h4 : cE n { c with sc := relS scope c.sc, own := some ((ownOf c scope).map (·.1)) } elt = some ce) (h5 : gt.all (fun i => ((ownOf c scope).map (·.2)).contains i) = true) :
    PE X (.ListComp elt [⟨tg, iter, ifs, 0⟩] scope pos) (tE X g W (.comp gt it cc ce ((ownOf c scope).map (·.2)))) := by
  have B : BlkOk X.N X.env.scope scope (ownOf c scope) := by
    rw [O.N, O.sc]
    exact blkOk_by hb
  have hown : ∀ i ∈ gt, i ∈ (ownOf c scope).map (·.2) := fun i hi => List.contains_iff_mem.mp (List.all_eq_true.mp h5 i hi)
  refine ⟨fun pins s σ H Q I h => ?_⟩
  obtain ⟨hc, h'⟩ := s_comp O.calm hown σ H Q h
  exact (pe_lc hc O.nd (A.it X c W iter tg it O h2) B (fun s H C cl fp => s_tgt (O.blk hb s H C cl fp) hc h1) (fun s H C cl fp => A.ifs _ _ _ ifs cc (O.blk hb s H C cl fp) h3)
    (fun s H C cl fp => (A.e _ _ _ elt ce (O.blk hb s H C cl fp) h4).1) (cIt_set h2 _)).run pins s σ H Q I h'
theorem both_lc2 {elt tg iter tg1 iter1 : Expr} {scope : Scope} (O : OkC X c g W) (A : AllOk g n) (hb : L2.blkC c.N c.sc scope (ownOf c scope) = true) {gt gt1 : List Nat} {it it1 : Z.It}
    (h1 : cTgt { c with sc := relS scope c.sc, own := some ((ownOf c scope).map (·.1)) } tg = some gt) (h2 : cIt n c iter = some it) (h3 : cTgt { c with sc := relS scope c.sc, own := some ((ownOf c scope).map (·.1)) } tg1 = some gt1)
    (h6 : cIt n { c with sc := relS scope c.sc, own := some ((ownOf c scope).map (·.1)) } iter1 = some it1)
    (h4 : cE n { c with sc := relS scope c.sc, own := some ((ownOf c scope).map (·.1)) } elt = some ce) (h5 : (gt ++ gt1).all (fun i => ((ownOf c scope).map (·.2)).contains i) = true) :
    PE X (.ListComp elt [⟨tg, iter, [], 0⟩, ⟨tg1, iter1, [], 0⟩] scope pos) (tE X g W (.comp2 gt it gt1 it1 ce ((ownOf c scope).map (·.2)) gt1)) := by
  have B : BlkOk X.N X.env.scope scope (ownOf c scope) := by
    rw [O.N, O.sc]
    exact blkOk_by hb
  have hown : ∀ i ∈ gt ++ gt1, i ∈ (ownOf c scope).map (·.2) := fun i hi => List.contains_iff_mem.mp (List.all_eq_true.mp h5 i hi)
  refine ⟨fun pins s σ H Q I h => ?_⟩
  obtain ⟨hc, h'⟩ := s_comp2 O.calm hown σ H Q h
  exact (pe_lc2 hc O.nd (A.it X c W iter tg it O h2) B (fun i hi => hown i (List.mem_append_right _ hi)) (fun s H C cl fp => s_tgt (O.blk hb s H C cl fp) hc h1) (fun s H C cl fp => pts_nil)
    (fun s H C cl fp => A.it _ _ _ iter1 tg1 it1 (O.blk hb s H C cl fp) h6) (fun s H C cl fp => s_tgt (O.blk hb s H C cl fp) hc h3) (fun s H C cl fp => pts_nil)
    (fun s H C cl fp => (A.e _ _ _ elt ce (O.blk hb s H C cl fp) h4).1) (cIt_set h2 _) (cIt_set h6)).run pins s σ H Q I h'
theorem both_call {f : Str} {p : Pos} (O : OkC X c g W) (A : AllOk g n) (hg : isGl c.sc f = true) (hd : notDebug f = true) (h1 : c.gl.lookup f = some .fn) (h2 : cEs n c es = some ces) : Both X g W (.Call (.Name f p) es [] pos) (.call f ces) := by
  obtain ⟨h8, h9⟩ := cEs_ns h2
  have h : PE X (.Call (.Name f p) es [] pos) (tE X g W (.call f ces)) := s_calm (fun gc => by
    obtain ⟨a, fd, ps, hm, hk, hb, Fo, hl⟩ := O.fn gc f h1
    exact s_call (p := p) (pos := pos) O.tk gc (O.room gc) Fo (gl_ok O hg) (dbg_ok hd).1 hm hk hb hl h8 (A.es X c W es ces O h2) h9) fun gc env M => by
      rw [exE, gc]
      rfl
  exact ⟨h, s_truth h plain_call fun _ => rfl⟩
theorem both_new {f : Str} {p : Pos} {fl ms : List Str} (O : OkC X c g W) (A : AllOk g n) (hg : isGl c.sc f = true) (hd : notDebug f = true) (h1 : c.gl.lookup f = some (.cls fl ms)) (h2 : cEs n c es = some ces) : Both X g W (.Call (.Name f p) es [] pos) (.new f ces) := by
  obtain ⟨h8, h9⟩ := cEs_ns h2
  have h : PE X (.Call (.Name f p) es [] pos) (tE X g W (.new f ces)) := s_calm (fun gc => by
    by_cases gr : 1 ≤ g.room
    · obtain ⟨hm, a, fd, ps, M, hb, Fo, hl⟩ := O.new gc gr f fl ms h1
      exact s_new (p := p) (pos := pos) gc gr O.tk (O.room gc) Fo M hb hl (gl_ok O hg) (dbg_ok hd).1 hm h8 (A.es X c W es ces O h2) h9
    · exact ⟨fun pins s σ H Q I ⟨as, F, M, env, r0, hE, hM, ex, po, px⟩ => by
        unfold exE at ex
        rw [if_neg (by rw [decide_eq_false gr, Bool.and_false]; exact Bool.false_ne_true)] at ex
        cases ex⟩) fun gc env M => by
      rw [exE, gc]
      rfl
  exact both_none h fun env M => by rw [exT] <;> (intros; contradiction)
theorem e1_name {p : Pos} (O : OkC X c g W) (h : (match slot c x with
      | some i => some (E.var i)
      | none => if isGl c.sc x && notDebug x then (match c.gl.lookup x with
        | some (.con d) => some (.c d)
        | _ => none) else none) = some ce) : Both X g W (.Name x p) ce := by
  split at h
  · rename_i i h1
    cases h
    unfold slot at h1
    obtain ⟨h2, h3⟩ := oi h1
    have h4 := band h2
    obtain ⟨h5, h6⟩ := dbg_ok h4.2
    have vis := vis_ok h4.1
    rw [← O.sc] at vis
    have q : PE X (.Name x p) (tE X g W (.var i)) := s_var (pe_var (by rw [O.N]; exact idx_get h3) vis h5 h6)
    exact ⟨q, s_truth q plain_var fun _ => rfl⟩
  · obtain ⟨h2, h3⟩ := oi h
    have h4 := band h2
    split at h3
    · rename_i d h5
      cases h3
      obtain ⟨u, v, h6, h7, h8⟩ := O.gls.con x d h5
      have q : PE X (.Name x p) (tE X g W (.c d)) := s_c (pe_glob (gl_ok O h4.1) h6 h7 (dbg_ok h4.2).1) h8
      exact ⟨q, s_truth q plain_c fun _ => rfl⟩
    · cases h3
/-- the calls of names -/
theorem e1_call {f : Str} {p : Pos} {args : List Expr} (O : OkC X c g W) (A : AllOk g n) (h : cE1 (n + 1) c (.Call (.Name f p) args [] pos) = some ce) : Both X g W (.Call (.Name f p) args [] pos) ce := by
  have bi : ∀ {args : List Expr} {ce : E}, isGl c.sc f = true → c.gl.lookup f = none → biNames.contains f = true → (match cBi f, cEs n c args with
            | some b, some as => some (E.bi b as)
            | _, _ => none) = some ce → Both X g W (.Call (.Name f p) args [] pos) ce := fun {args ce} hg h0 hc h => by
    split at h
    · rename_i b as h1 h2
      cases h
      exact both_bi O A (gl_ok O hg) (bi_name O h0 hc) h1 h2
    · cases h
  unfold cE1 at h
  dsimp only at h
  have hh := oi h
  clear h
  obtain ⟨h0, h⟩ := hh
  have h1 := band h0
  split at h
  · rename_i h2
    obtain ⟨as, h3, rfl⟩ := om h
    exact both_call O A h1.1 h1.2 h2 h3
  · rename_i fl ms h2
    obtain ⟨as, h3, rfl⟩ := om h
    exact both_new O A h1.1 h1.2 h2 h3
  · cases h
  · rename_i h2
    split at h
    · cases h
    · rename_i hc
      have hc : biNames.contains f = true := by simpa using hc
      have nm := bi_name O h2 hc
      have gl := gl_ok O h1.1
      split at h
      · rename_i a ts k p2
        split at h
        · rename_i hf
          subst hf
          split at h
          · rename_i ca ts' h3 h4
            obtain ⟨h5, h6⟩ := op h
            cases h6
            have q : PE X (.Call (.Name "isinstance" p) [a, .Tuple ts k p2] [] pos) (tE X g W (.isi ca ts')) := tys_ok (cTys_ok O h4) h5 (cE_ns h3) (A.e X c W a ca O h3).1 gl nm
            exact ⟨q, s_truth q plain_isi fun _ => rfl⟩
          · cases h
        · exact bi h1.1 h2 hc h
      · rename_i a t _
        split at h
        · rename_i hf
          subst hf
          split at h
          · rename_i ca T h3 h4
            cases h
            obtain ⟨y, p2, rfl, hT⟩ := cTy_ok O h4
            have q : PE X (.Call (.Name "isinstance" p) [a, .Name y p2] [] pos) (tE X g W (.isi ca [T])) := s_isi1 gl nm (cE_ns h3) (A.e X c W a ca O h3).1 hT
            exact ⟨q, s_truth q plain_isi fun _ => rfl⟩
          · cases h
        · exact bi h1.1 h2 hc h
      · rename_i r p2 a p3
        split at h
        · rename_i hf
          have hf := band hf
          have hf2 := band hf.2
          obtain ⟨ca, h3, rfl⟩ := om h
          have e1 := of_decide_eq_true hf.1
          have e2 := of_decide_eq_true hf2.1
          obtain ⟨hg2, hm2⟩ := isBi_ok O hf2.2
          subst e1 e2
          have q : PE X (.Call (.Name "list" p) [.Call (.Name "range" p2) [a] [] p3] [] pos) (tE X g W (.bi .range (.cons ca .nil))) := s_listRg O.calm gl nm hg2 hm2 (cE_ns h3) (A.e X c W a ca O h3).1
          exact ⟨q, s_truth q plain_bi fun _ => rfl⟩
        · exact bi h1.1 h2 hc h
      · exact bi h1.1 h2 hc h
end
end Z
end
section
set_option Elab.async false
set_option linter.all false
set_option maxRecDepth 100000
set_option maxHeartbeats 8000000
set_option autoImplicit false
/-! Expressions: the induction. -/
namespace Z
open PySem PySem.Spec PyProof.Rows L2
section
variable {X : Cx} {g : G} {W : WX} {c : Ctx} {e a b : Expr} {es : List Expr} {ce ca cb : E} {ces : Es} {t t' : TE} {pos : Pos} {n : Nat} {x : Str}
theorem e1_mth {o : Expr} {m : Str} {ap : Pos} {args : List Expr} (O : OkC X c g W) (A : AllOk g n) (h : cE1 (n + 1) c (.Call (.Attribute o m ap) args [] pos) = some ce) : Both X g W (.Call (.Attribute o m ap) args [] pos) ce := by
  unfold cE1 at h
  dsimp only at h
  obtain ⟨h0, h1⟩ := oi h
  have h2 := band h0
  have h3 := band h2.2
  split at h1
  · rename_i C _
    obtain ⟨h4, h1⟩ := oi h1
    split at h1
    · rename_i co cas e2 e3
      cases h1
      obtain ⟨h8, h9⟩ := cEs_ns e3
      unfold hasM at h4
      split at h4
      · rename_i fl ms h5
        have h : PE X (.Call (.Attribute o m ap) args [] pos) (tE X g W (.own C m co cas)) := s_calm (fun gc => by
          obtain ⟨a, fd, ps, M, hb, Fo, hl⟩ := O.own gc C fl ms m h5 (List.contains_iff_mem.mp h4)
          exact s_own gc O.tk (O.room gc) Fo (O.atr C fl ms h5).1 M hb hl (base_ok h2.1) h3.1 (of_decide_eq_true h3.2) h8 (A.e X c W o co O e2).1 (A.es X c W args cas O e3) h9) fun gc env M => by
            rw [exE, gc]
            rfl
        exact ⟨h, s_truth h plain_own fun _ => rfl⟩
      · cases h4
    · cases h1
  · split at h1
    · rename_i mt co cas e1 e2 e3
      cases h1
      obtain ⟨h8, h9⟩ := cEs_ns e3
      exact both_none (s_mth (cMt_ok e1) (base_ok h2.1) h3.1 (of_decide_eq_true h3.2) h8 (A.e X c W o co O e2).1 (A.es X c W args cas O e3) h9) fun env M => by rw [exT] <;> (intros; contradiction)
    · cases h1
theorem e1_succ {n : Nat} (A : AllOk g n) (X : Cx) (c : Ctx) (W : WX) (e : Expr) (ce : E) (O : OkC X c g W) (h : cE1 (n + 1) c e = some ce) : Both X g W e ce := by
  have h' := h
  unfold cE1 at h
  split at h
  · cases h
    exact s_const (s_c pe_non fun _ _ _ => .non) fun _ => rfl
  · cases h
    exact s_const (s_c pe_bl fun _ _ _ => .bl _) fun _ => rfl
  · cases h
    exact s_const (s_c pe_int fun _ _ _ => .int _) fun _ => rfl
  · cases h
    exact s_const (s_c pe_str fun _ _ _ => .str _) fun _ => rfl
  · exact e1_name O h
  · split at h
    · rename_i ca p cb h1 h2 h3
      cases h
      exact both_none (s_bin h2 (A.e X c W _ ca O h1).1 (A.e X c W _ cb O h3).1) fun env M => by rw [exT] <;> (intros; contradiction)
    · cases h
  · obtain ⟨ca, h1, rfl⟩ := om h
    exact both_none (s_neg (A.e X c W _ ca O h1).1) fun env M => by rw [exT] <;> (intros; contradiction)
  · obtain ⟨ca, h1, rfl⟩ := om h
    exact ⟨s_not (A.e X c W _ ca O h1).1, s_notT (A.e X c W _ ca O h1).2⟩
  · split at h
    · rename_i ca r h1 h2
      cases h
      have q := and_cons (A.e X c W _ ca O h1) (A.an X c W _ r O h2)
      exact ⟨(q _).1, (q _).2.pt⟩
    · cases h
  · split at h
    · rename_i ca r h1 h2
      cases h
      have q := or_cons (A.e X c W _ ca O h1) (A.or X c W _ r O h2)
      exact ⟨(q _).1, (q _).2.pt⟩
    · cases h
  · split at h
    · rename_i ct ca cb h1 h2 h3
      cases h
      have q1 := A.e X c W _ ct O h1
      have q2 := A.e X c W _ ca O h2
      have q3 := A.e X c W _ cb O h3
      exact ⟨s_ite q1.2 q2.1 q3.1, s_iteT q1.2 q2.2 q3.2⟩
    · cases h
  · split at h
    · rename_i ca cb h1 h2
      cases h
      exact s_cmp (by have := O.units; omega) (cE_mark h2 _) (A.e X c W _ ca O h1).1 (A.e X c W _ cb O h2).1
    · cases h
  · split at h
    · rename_i ca cb cd h1 h2 h3
      cases h
      exact s_chn (by have := O.units; omega) (cE_mark h3 _) (A.e X c W _ ca O h1).1 (A.e X c W _ cb O h2).1 (A.e X c W _ cd O h3).1
    · cases h
  · obtain ⟨ces, h1, rfl⟩ := om h
    exact both_none (s_tup (A.es X c W _ ces O h1)) fun env M => by rw [exT] <;> (intros; contradiction)
  · obtain ⟨ces, h1, rfl⟩ := om h
    exact both_none (s_lst (A.es X c W _ ces O h1)) fun env M => by rw [exT] <;> (intros; contradiction)
  · split at h
    · rename_i ca cl ch h1 h2 h3
      cases h
      exact both_none (s_sli (A.e X c W _ ca O h1).1 (A.o X c W _ cl O h2) (A.o X c W _ ch O h3)) fun env M => by rw [exT] <;> (intros; contradiction)
    · cases h
  · split at h
    · rename_i ca ci h1 h2
      cases h
      have q := s_idx (pos := by assumption) (cE_sub h2) (A.e X c W _ ca O h1).1 (A.e X c W _ ci O h2).1
      exact ⟨q, s_truth q plain_idx fun _ => rfl⟩
    · cases h
  · dsimp only at h
    obtain ⟨hb, h1⟩ := oi h
    split at h1
    · rename_i g1 w1 t1 e1 q1 q2 q3 q4
      obtain ⟨h5, h6⟩ := oi h1
      cases h6
      exact both_none (both_lc O A hb q1 q2 q3 q4 h5) fun env M => by rw [exT] <;> (intros; contradiction)
    · cases h1
  · dsimp only at h
    obtain ⟨hb, h1⟩ := oi h
    split at h1
    · rename_i g1 w1 g2 w2 e1 q1 q2 q3 q4 q5
      obtain ⟨h5, h6⟩ := oi h1
      cases h6
      exact both_none (both_lc2 O A hb q1 q2 q3 q4 q5 h5) fun env M => by rw [exT] <;> (intros; contradiction)
    · cases h1
  · exact e1_call O A h'
  · exact e1_mth O A h'
  · obtain ⟨h0, h1⟩ := oi h
    split at h1
    · rename_i C _
      obtain ⟨h4, h1⟩ := oi h1
      obtain ⟨co, h2, rfl⟩ := om h1
      unfold hasF at h4
      split at h4
      · rename_i fl ms h5
        obtain ⟨h6, h7⟩ := O.atr C fl ms h5
        exact both_none (s_att (base_ok h0) h6 (h7 _ (List.contains_iff_mem.mp h4)) (A.e X c W _ co O h2).1) fun env M => by rw [exT] <;> (intros; contradiction)
      · cases h4
    · cases h1
  · cases h
theorem AllOk.succ {n : Nat} (A : AllOk g n) : AllOk g (n + 1) where
  e := fun X c W e ce O h => by
    unfold cE at h
    obtain ⟨c1, h1, rfl⟩ := om h
    exact both_mat (A.e1 X c W e c1 O h1)
  es := fun X c W es ces O h => by
    unfold cEs at h
    split at h
    · rename_i hz
      cases hz
    · cases h
      exact s_nil
    · rename_i hz
      cases hz
      split at h
      · rename_i h1 h2
        cases h
        exact s_cons (cE_ns h1) (A.e X _ W _ _ O h1).1 (A.es X _ W _ _ O h2)
      · cases h
  e1 := e1_succ A
  o := fun X c W e ce O h => by
    unfold cOpt at h
    split at h
    · rename_i hz
      cases hz
    · cases h
      exact s_nopart
    · rename_i hz
      cases hz
      exact s_part (A.e X _ W _ _ O h).1
  an := fun X c W es r O h => by
    unfold cAnd at h
    split at h
    · rename_i hz
      cases hz
    · cases h
      exact .inl ⟨rfl, rfl⟩
    · rename_i hz
      cases hz
      split at h
      · rename_i h1 h2
        cases h
        exact .inr ⟨_, _, _, rfl, rfl, and_cons (A.e X _ W _ _ O h1) (A.an X _ W _ _ O h2)⟩
      · cases h
  or := fun X c W es r O h => by
    unfold cOr at h
    split at h
    · rename_i hz
      cases hz
    · cases h
      exact .inl ⟨rfl, rfl⟩
    · rename_i hz
      cases hz
      split at h
      · rename_i h1 h2
        cases h
        exact .inr ⟨_, _, _, rfl, rfl, or_cons (A.e X _ W _ _ O h1) (A.or X _ W _ _ O h2)⟩
      · cases h
  ifs := fun X c W es ce O h => by
    unfold cIfs at h
    split at h
    · rename_i hz
      cases hz
    · cases h
      refine ⟨fun pins s σ H Q I ⟨as, F, M, env, r0, hE, hM, ex, po, px⟩ => pts_nil.run pins s σ H Q I ?_⟩
      unfold exT at ex
      cases ex
      exact po _ _ rfl _ _ (.refl hM) hM
    · rename_i hz
      cases hz
      exact pts_one (A.e X _ W _ _ O h).2
    · cases h
  it := it_succ A
theorem allOk (g : G) : ∀ n, AllOk g n
  | 0 => .zero
  | n + 1 => (allOk g n).succ
end
end Z
end
section
set_option Elab.async false
set_option linter.all false
set_option maxRecDepth 100000
set_option maxHeartbeats 4000000
set_option autoImplicit false
/-! Statements, each kind by itself. -/
namespace Z
open PySem PySem.Spec PyProof.Rows L2
variable {K : PySem.W.Frag} {w : World} {as as' as'' F F2 : List Addr} {H H₀ H' H'' : Hp} {M M' : Mem} {v : V} {vs : List V} {d : D} {ds : List D} {σ σ1 : L2.St} {env env1 : Z.Env}
section
variable (X : Cx)
def PFl (W : WX) (as F : List Addr) (H : Hp) (fl : Fl) (D : Ends) : Prop := match fl with
  | .nx env' M' => ∀ (as' : List Addr) (H' : Hp) (σ' : L2.St), Later as H as' H' → RelE X.K X.w as' F H' σ' env' → RelH X.K X.w as' F H' M' → D.nx σ' H'
  | .bk env' M' => ∀ (as' : List Addr) (H' : Hp) (σ' : L2.St), Later as H as' H' → RelE X.K X.w as' F H' σ' env' → RelH X.K X.w as' F H' M' → D.bk σ' H'
  | .ct env' M' => ∀ (as' : List Addr) (H' : Hp) (σ' : L2.St), Later as H as' H' → RelE X.K X.w as' F H' σ' env' → RelH X.K X.w as' F H' M' → D.ct σ' H'
  | .rt d M' => ∀ (as' : List Addr) (H' : Hp) (v : V), Later as H as' H' → RelH X.K X.w as' F H' M' → RepR X.K X.w as' F H H' M' v d → D.rt v H'
  | .ex env' c p M' => ∀ (as' : List Addr) (H' : Hp) (σ' : L2.St) (cls : Value) (dx : Option Addr), Later as H as' H' → RelE X.K X.w as' F H' σ' env' → RelH X.K X.w as' F H' M' → XRep X.K X.w X.mg as' F H' cls dx c p → W cls dx σ' H'
def tS (g : G) (W : WX) (s : S) : TS := fun D σ H => ∃ as F M env fl, RelE X.K X.w as F H σ env ∧ RelH X.K X.w as F H M ∧ exS g s env M = some fl ∧ PFl X W as F H fl D
def tSs (g : G) (W : WX) (s : Ss) : TS := fun D σ H => ∃ as F M env fl, RelE X.K X.w as F H σ env ∧ RelH X.K X.w as F H M ∧ exSs g s env M = some fl ∧ PFl X W as F H fl D
end
section
variable {X : Cx} {g : G} {W : WX} {c : Ctx} {e a b : Expr} {es : List Expr} {ce ca cb : E} {ces : Es} {pos : Pos} {n : Nat} {x : Str} {fl : Fl} {De De' : Ends} {st : Stmt} {sts : List Stmt} {cs : S} {css : Ss}
theorem PFl.later (h : PFl X W as F H fl De) (L : Later as H as' H') : PFl X W as' F H' fl De := by
  cases fl with
  | nx env' M' => exact fun as2 H2 σ2 L2 hE hM => h as2 H2 σ2 (L.trans L2) hE hM
  | bk env' M' => exact fun as2 H2 σ2 L2 hE hM => h as2 H2 σ2 (L.trans L2) hE hM
  | ct env' M' => exact fun as2 H2 σ2 L2 hE hM => h as2 H2 σ2 (L.trans L2) hE hM
  | rt d M' => exact fun as2 H2 v L2 hM hr => h as2 H2 v (L.trans L2) hM (hr.back L L2.sub)
  | ex env' c p M' => exact fun as2 H2 σ2 cls dx L2 hE hM hx => h as2 H2 σ2 cls dx (L.trans L2) hE hM hx
theorem PS.imp {t t' : TS} (h : PS X st t) (f : ∀ D σ H, t' D σ H → t D σ H) : PS X st t' := ⟨fun pins s σ H D I q => h.run pins s σ H D I (f D σ H q)⟩
theorem PSs.imp {t t' : TS} (h : PSs X sts t) (f : ∀ D σ H, t' D σ H → t D σ H) : PSs X sts t' := ⟨fun pins s σ H D I q => h.run pins s σ H D I (f D σ H q)⟩
/-- steps of statements -/
theorem onb {α : Type} {x : Z.R α} {f : α → Mem → Option Fl} (e : onR env x f = some fl) : (∃ a M', x = some (.ok a M') ∧ f a M' = some fl) ∨ ∃ c p M', x = some (.exc c p M') ∧ fl = .ex env c p M' := by
  unfold onR at e
  split at e
  · cases e
  · cases e
    exact .inr ⟨_, _, _, rfl, rfl⟩
  · exact .inl ⟨_, _, rfl, e⟩
theorem px_ex {α : Type} {c : Str} {p : List (Str × D)} (hE : RelE X.K X.w as F H σ env) (h : PFl X W as F H (.ex env c p M') De) : PX X W as F H σ (.exc c p M' : Rs α) := fun c2 p2 M2 q as' H' cls dx L hM hx => by
  cases q
  exact h as' H' σ cls dx L (hE.later L) hM hx
theorem tE_on {f : D → Mem → Option Fl} {Q : VK} (hE : RelE X.K X.w as F H σ env) (hM : RelH X.K X.w as F H M) (ex : onR env (exE g ce env M) f = some fl) (pf : PFl X W as F H fl De)
    (ho : ∀ d M' as' H' v, Later as H as' H' → RelE X.K X.w as' F H' σ env → RelH X.K X.w as' F H' M' → RepR X.K X.w as' F H H' M' v d → f d M' = some fl → PFl X W as' F H' fl De → Q v H') : tE X g W ce σ H Q := by
  rcases onb ex with ⟨d, M', e1, e2⟩ | ⟨c, p, M', e1, rfl⟩
  · refine ⟨as, F, M, env, _, hE, hM, e1, fun d2 M2 q as' H' v L hM' hr => ?_, px_ok⟩
    cases q
    exact ho d M' as' H' v L (hE.later L) hM' hr e2 (pf.later L)
  · exact ⟨as, F, M, env, _, hE, hM, e1, fun d2 M2 q => (by cases q), px_ex hE pf⟩
theorem tB_on {f : Bool → Mem → Option Fl} {Q : Bool → Hp → Prop} (hE : RelE X.K X.w as F H σ env) (hM : RelH X.K X.w as F H M) (ex : onR env (exT g ce env M) f = some fl) (pf : PFl X W as F H fl De)
    (ho : ∀ d M' as' H', Later as H as' H' → RelE X.K X.w as' F H' σ env → RelH X.K X.w as' F H' M' → f d M' = some fl → PFl X W as' F H' fl De → Q d H') : tB_ X g W ce σ H Q := by
  rcases onb ex with ⟨d, M', e1, e2⟩ | ⟨c, p, M', e1, rfl⟩
  · refine ⟨as, F, M, env, _, hE, hM, e1, fun d2 M2 q as' H' L hM' => ?_, px_ok⟩
    cases q
    exact ho d M' as' H' L (hE.later L) hM' e2 (pf.later L)
  · exact ⟨as, F, M, env, _, hE, hM, e1, fun d2 M2 q => (by cases q), px_ex hE pf⟩
theorem s_skip (h : PS X st tNext) : PS X st (tS X g W .skip) := PS.imp h fun D σ H ⟨as, F, M, env, fl, hE, hM, ex, pf⟩ => by
  unfold exS at ex
  cases ex
  exact pf _ _ _ (.refl hM) hE hM
theorem s_brk : PS X (.Break pos) (tS X g W .brk) := PS.imp ps_break fun D σ H ⟨as, F, M, env, fl, hE, hM, ex, pf⟩ => by
  unfold exS at ex
  cases ex
  exact pf _ _ _ (.refl hM) hE hM
theorem s_cont : PS X (.Continue pos) (tS X g W .cont) := PS.imp ps_continue fun D σ H ⟨as, F, M, env, fl, hE, hM, ex, pf⟩ => by
  unfold exS at ex
  cases ex
  exact pf _ _ _ (.refl hM) hE hM
theorem s_expr (hs : swapsWith e none pos.line X.env = pure false) (he : PE X e (tE X g W ce)) : PS X (.Expr e pos) (tS X g W (.expr ce)) := PS.imp (ps_expr he hs) fun D σ H ⟨as, F, M, env, fl, hE, hM, ex, pf⟩ => by
  unfold exS at ex
  refine tE_on hE hM ex pf fun d M1 as1 H1 v L1 hE1 hM1 r1 e1 pf1 => ?_
  cases e1
  exact pf1 _ _ _ (.refl hM1) hE1 hM1
theorem s_ret (he : PE X e (tE X g W ce)) : PS X (.Return (some e) pos) (tS X g W (.ret ce)) := PS.imp (ps_ret he) fun D σ H ⟨as, F, M, env, fl, hE, hM, ex, pf⟩ => by
  unfold exS at ex
  refine tE_on hE hM ex pf fun d M1 as1 H1 v L1 hE1 hM1 r1 e1 pf1 => ?_
  cases e1
  exact pf _ _ _ L1 hM1 r1
theorem s_retN : PS X (.Return none pos) (tS X g W (.ret (.c .non))) := PS.imp ps_retN fun D σ H ⟨as, F, M, env, fl, hE, hM, ex, pf⟩ => by
  unfold exS at ex
  rw [exE_c] at ex
  cases ex
  exact pf _ _ _ (.refl hM) hM (.val .non)
theorem s_if {sa sb : List Stmt} {csa csb : Ss} {ct : E} {t : Expr} (ht : PT X t (tB_ X g W ct)) (ha : PSs X sa (tSs X g W csa)) (hb : PSs X sb (tSs X g W csb)) : PS X (.If t sa sb pos) (tS X g W (.ife ct csa csb)) := PS.imp (ps_if ht ha hb) fun D σ H ⟨as, F, M, env, fl, hE, hM, ex, pf⟩ => by
  unfold exS at ex
  refine tB_on hE hM ex pf fun k M1 as1 H1 L1 hE1 hM1 e1 pf1 => ?_
  cases k with
  | true =>
    rw [if_pos rfl] at e1 ⊢
    exact ⟨as1, F, M1, env, fl, hE1, hM1, e1, pf1⟩
  | false =>
    rw [if_neg Bool.false_ne_true] at e1 ⊢
    exact ⟨as1, F, M1, env, fl, hE1, hM1, e1, pf1⟩
/-- name = value: what is wanted of the value -/
theorem asg_name {i : Nat} : ∀ D σ H, tS X g W (.asg (.name i) ce) D σ H → tE X g W ce σ H fun x H1 => D.nx (σ.set i (some x)) H1 := fun D σ H ⟨as, F, M, env, fl, hE, hM, ex, pf⟩ => by
  unfold exS at ex
  obtain ⟨_, ex⟩ := oi ex
  refine tE_on hE hM ex pf fun d M1 as1 H1 v L1 hE1 hM1 r1 e1 pf1 => ?_
  split at e1
  · cases e1
  · rename_i y e2
    cases e1
    exact pf1 _ _ _ (.refl hM1) (hE1.set ((r1.weak hM.fex).frz e2)) hM1
theorem s_set {i : Nat} {p : Pos} (O : OkC X c g W) (hi : slotL c x = some i) (hs : swapsWith e (some (.Name x p)) pos.line X.env = pure false) (he : PE X e (tE X g W ce)) : PS X (.Assign [.Name x p] e pos) (tS X g W (.asg (.name i) ce)) :=
  let S := sto_ok O hi
  PS.imp (ps_set O.nd S.at_ S.loc he hs S.fn) asg_name
/-- several names = a tuple -/
theorem s_asgT {ts : List Expr} {is : List Nat} {k : Nat} {p : Pos} (O : OkC X c g W) (h2 : 2 ≤ ts.length) (hn : cNames c ts = some is) (hs : swapsWith e (some (.Tuple ts k p)) pos.line X.env = pure false) (hw : swappedStores [.Tuple ts k p] e X.env = pure none) (he : PE X e (tE X g W ce)) :
    PS X (.Assign [.Tuple ts k p] e pos) (tS X g W (.asg (.tup is) ce)) := by
  obtain ⟨h3, h4⟩ := cNames_ok O hn
  refine ⟨fun pins s σ H D I ⟨as, F, M, env, fl, hE, hM, ex, pf⟩ => ?_⟩
  unfold exS at ex
  obtain ⟨hg, ex⟩ := oi ex
  have hc := O.calm hg
  refine (ps_asg he (s_gtup hc O.nd (by omega) h3 h4) hs hw rfl).run pins s σ H D I ?_
  refine tE_on hE hM ex pf fun d M1 as1 H1 v L1 hE1 hM1 r1 e1 pf1 => ?_
  split at e1
  · cases e1
  · rename_i y e2
    dsimp only at e1
    split at e1
    · rename_i env1 e3
      cases e1
      exact ⟨as1, F, M1, _, env, env1, hE1, hM1, (r1.weak hM.fex).frz e2, e3, fun σ1 hE2 _ => pf1 _ _ _ (.refl hM1) hE2 hM1⟩
    · cases e1
theorem setSub_ok {od id y : D} {M2 : Mem} {o i x : V} {Q : Hp → Prop} (hM : RelH X.K X.w as F H M) (ho : RepW X.K X.w as F H o od) (hi : RepW X.K X.w as F H i id) (hx : Rep X.K X.w as F H x y) (e : setSub od id y M = some M2)
    (q : ∀ H', Later as H as H' → RelH X.K X.w as F H' M2 → Q H') : rSetL o i x H Q := by
  unfold setSub at e
  split at e
  · rename_i r j
    split at e
    · rename_i zs e1
      split at e
      · rename_i k e2
        obtain ⟨h1, e3⟩ := oi e
        cases e3
        cases ho with
        | val ho =>
          cases ho with
          | @ref _ p hp =>
            cases hi with
            | val hi =>
              cases hi
              have z := hM.obj r p _ hp e1
              cases z with
              | lst h2 r2 =>
                obtain ⟨L, m⟩ := hM.put hp (r2.set k hx)
                exact ⟨p, _, j, k, rfl, rfl, h2, by rw [r2.length]; exact ixN_of e2, q _ L m⟩
      · cases e
    · cases e
  · cases e
/-- o[i] = value -/
theorem s_asgS {o i : Expr} {co ci : E} {p : Pos} (hs : swapsWith e (some (.Subscript o i p)) pos.line X.env = pure false) (he : PE X e (tE X g W ce)) (ho : PE X o (tE X g W co)) (hi : PE X i (tE X g W ci))
    (ha : ∀ v, assign (.Subscript o i p) X.env v = (do
      let ov ← holding [v] (eval o X.env)
      let iv ← holding [v, ov] (eval i X.env)
      standAt p
      holding [v, ov, iv] (setItem ov iv v)
      release [v, ov, iv] [])) : PS X (.Assign [.Subscript o i p] e pos) (tS X g W (.asg (.sub co ci) ce)) := PS.imp (ps_asg he (pg_sub ho hi set_list ha) hs rfl rfl) fun D σ H ⟨as, F, M, env, fl, hE, hM, ex, pf⟩ => by
  unfold exS at ex
  obtain ⟨_, ex⟩ := oi ex
  refine tE_on hE hM ex pf fun d M1 as1 H1 v L1 hE1 hM1 r1 e1 pf1 => ?_
  split at e1
  · cases e1
  · rename_i y e2
    dsimp only at e1
    have ry := (r1.weak hM.fex).frz e2
    refine tE_on hE1 hM1 e1 pf1 fun od M2 as2 H2 ov L2 hE2 hM2 r2 e3 pf2 => ?_
    refine tE_on hE2 hM2 e3 pf2 fun id M3 as3 H3 iv L3 hE3 hM3 r3 e4 pf3 => ?_
    split at e4
    · rename_i M4 e5
      cases e4
      exact setSub_ok hM3 ((r2.weak hM1.fex).later L3) (r3.weak hM2.fex) ((ry.later L2).later L3) e5 fun H' L m => pf3 _ _ _ L (hE3.later L) m
    · cases e4
/-- x, y = a, b -/
theorem s_par {y : Str} {a b : Expr} {i j : Nat} {px py pt : Pos} {kt k2 : Nat} {pt2 : Pos} (O : OkC X c g W) (hi : slotL c x = some i) (hj : slotL c y = some j) (hx : X.env.scope.names.lookup x = some .local) (hy : X.env.scope.names.lookup y = some .local) (hxy : x ≠ y)
    (hw : swappedStores [.Tuple [.Name x px, .Name y py] kt pt] (.Tuple [a, b] k2 pt2) X.env = pure (some [x, y])) (ha : PA X [a, b] (tEs X g W ces)) :
    PS X (.Assign [.Tuple [.Name x px, .Name y py] kt pt] (.Tuple [a, b] k2 pt2) pos) (tS X g W (.asg (.tup [i, j]) (.tup ces))) := by
  have S1 := sto_ok O hi
  have S2 := sto_ok O hj
  have hij : i ≠ j := fun z => by
    have h1 := S1.at_
    have h2 := S2.at_
    rw [z, h2] at h1
    cases h1
    exact hxy rfl
  refine ⟨fun pins s σ H D I ⟨as, F, M, env, fl, hE, hM, ex, pf⟩ => ?_⟩
  unfold exS at ex
  obtain ⟨hg, ex⟩ := oi ex
  have hc := O.calm hg
  refine (ps_par hc O.nd S1.at_ S2.at_ hij hx hy ha hw rfl).run pins s σ H D I ?_
  rcases onb ex with ⟨d, M', e1, e2⟩ | ⟨cc, p, M', e1, rfl⟩
  · split at e2
    · cases e2
    · rename_i y' e3
      dsimp only at e2
      split at e2
      · rename_i env1 e4
        cases e2
        unfold exE at e1
        refine tEs_bind hE hM e1 px_ok fun ds M1 as1 H1 vs L1 hM1 rs e5 => ?_
        obtain ⟨es', e6, e7⟩ := ob e5
        obtain ⟨_, e8⟩ := op e7
        cases e8
        have r := rs.frz e6
        cases e3
        unfold bindG at e4
        dsimp only at e4
        obtain ⟨h5, h6⟩ := (hE.later L1).sets r e4
        have hl := r.length
        match vs, hl, r, h5 with
        | [v, w], _, r, h5 => exact ⟨v, w, rfl, pf _ _ _ L1 h5 hM1⟩
        | [], hl, _, _ => simp at hl h6; omega
        | [_], hl, _, _ => simp at hl h6; omega
        | _ :: _ :: _ :: _, hl, _, _ => simp at hl h6; omega
      · cases e2
  · unfold exE at e1
    exact tEs_bind hE hM e1 (px_ex hE pf) fun ds M1 as1 H1 vs L1 hM1 rs e5 => by
      cases hq : frzs ds with
      | none =>
        rw [hq] at e5
        cases e5
      | some zs =>
        rw [hq] at e5
        have e5 : (if zs.length ≤ 16777216 then some (Rs.ok (Z.D.tup zs) M1) else none) = some (Rs.exc cc p M') := e5
        obtain ⟨_, e6⟩ := op e5
        cases e6
end
end Z
end
section
set_option Elab.async false
set_option linter.all false
set_option maxRecDepth 100000
set_option maxHeartbeats 4000000
set_option autoImplicit false
/-! Loops, blocks, statements together. -/
namespace Z
open PySem PySem.Spec PyProof.Rows L2
variable {K : PySem.W.Frag} {w : World} {as as' as'' F F2 : List Addr} {H H₀ H' H'' : Hp} {M M' : Mem} {v : V} {vs : List V} {d : D} {ds : List D} {σ σ1 : L2.St} {env env1 : Z.Env}
section
variable {X : Cx} {g : G} {W : WX} {c : Ctx} {e a b : Expr} {es : List Expr} {ce ca cb : E} {ces : Es} {pos : Pos} {n : Nat} {x : Str} {fl : Fl} {De De' : Ends} {st : Stmt} {sts : List Stmt} {cs : S} {css : Ss}
theorem s_done : PSs X [] (tSs X g W .nil) := PSs.imp pss_nil fun D σ H ⟨as, F, M, env, fl, hE, hM, ex, pf⟩ => by
  unfold exSs at ex
  cases ex
  exact pf _ _ _ (.refl hM) hE hM
theorem s_seq2 (h1 : PS X st (tS X g W cs)) (h2 : PSs X sts (tSs X g W css)) : PSs X (st :: sts) (tSs X g W (.cons cs css)) := PSs.imp (pss_cons h1 h2) fun D σ H ⟨as, F, M, env, fl, hE, hM, ex, pf⟩ => by
  unfold exSs at ex
  cases q : exS g cs env M with
  | none =>
    rw [q] at ex
    cases ex
  | some fl1 =>
    rw [q] at ex
    refine ⟨as, F, M, env, fl1, hE, hM, q, ?_⟩
    cases fl1 with
    | nx env' M' => exact fun as' H' σ' L hE' hM' => ⟨as', F, M', env', fl, hE', hM', ex, pf.later L⟩
    | bk env' M' =>
      cases ex
      exact pf
    | ct env' M' =>
      cases ex
      exact pf
    | rt d M' =>
      cases ex
      exact pf
    | ex env' cc p M' =>
      cases ex
      exact pf
/-- the turns of a for -/
theorem s_for {tg iter : Expr} {gt : List Nat} {it : Z.It} {body : List Stmt} (hp : PassesOwn (model X.prog X.w) X.A X.env X.xe) (hcalm : g.calm = true → X.calm = true) (hi : PI X tg iter (tI X g W it)) (hg : X.calm = true → PG X tg (tG X gt)) (hb : PSs X body (tSs X g W css)) (hs : ∀ x, foldedSetIterable iter X.env x = pure x) :
    PS X (.For tg iter body [] pos) (tS X g W (.for_ gt it css)) := by
  refine ⟨fun pins s σ H De I ⟨as, F, M, env, fl, hE, hM, ex, pf⟩ => ?_⟩
  unfold exS at ex
  obtain ⟨h0, ex⟩ := oi ex
  have hc := hcalm h0
  refine (ps_for hp hc hi (hg hc) hb hs).run pins s σ H De I ?_
  rcases onb ex with ⟨k, M1, e1, e2⟩ | ⟨cc, p, M1, e1, rfl⟩
  · refine ⟨as, F, M, env, _, hE, hM, e1, fun k' M1' ek as1 H1 L1 hM1 J hJ => ?_, px_ok⟩
    cases ek
    refine ⟨fun i m σ' H' => m = k.items.length - i ∧ i ≤ k.items.length ∧ ∃ as2 env2 M2, Later as1 H1 as2 H' ∧ RelE X.K X.w as2 F H' σ' env2 ∧ RelH X.K X.w as2 F H' M2 ∧
      forM k.watch (fun d env M => match bindG gt d M env with
        | some env1 => exSs g css env1 M
        | none => none) (k.items.drop i) env2 M2 = some fl, ⟨k.items.length, rfl, Nat.zero_le _, as1, env, M1, .refl hM1, hE.later L1, hM1, e2⟩, ?_⟩
    rintro i m σ' H' ⟨rfl, hi, as2, env2, M2, L2, hE2, hM2, ec⟩
    have pf2 := (pf.later L1).later L2
    by_cases hlt : i < k.items.length
    · have hd : k.items[i]? = some k.items[i] := List.getElem?_eq_getElem hlt
      rw [List.drop_eq_getElem_cons hlt] at ec
      unfold forM at ec
      obtain ⟨hw, ec⟩ := oi ec
      obtain ⟨go, step⟩ := (hJ as2 F H' M2 L2.lf hM2 (fun a ha => .inl ha) hw i).2 _ hd
      refine .inr ⟨go, fun σ' H' => k.items.length - (i + 1) = k.items.length - (i + 1) ∧ i + 1 ≤ k.items.length ∧ ∃ as2 env2 M2, Later as1 H1 as2 H' ∧ RelE X.K X.w as2 F H' σ' env2 ∧ RelH X.K X.w as2 F H' M2 ∧
        forM k.watch (fun d env M => match bindG gt d M env with
          | some env1 => exSs g css env1 M
          | none => none) (k.items.drop (i + 1)) env2 M2 = some fl, fun σ' H' n => ⟨_, by omega, n⟩, fun x H3 hy => ?_⟩
      obtain ⟨L3, hM3, rx⟩ := step x H3 hy
      cases q : bindG gt k.items[i] M2 env2 with
      | none =>
        rw [q] at ec
        cases ec
      | some env3 =>
        rw [q] at ec
        dsimp only at ec
        refine ⟨as2, F, M2, _, env2, env3, hE2.later L3, hM3, rx, q, fun σ1 hE3 _ => ?_⟩
        cases q2 : exSs g css env3 M2 with
        | none =>
          rw [q2] at ec
          cases ec
        | some fl1 =>
          rw [q2] at ec
          refine ⟨as2, F, M2, env3, fl1, hE3, hM3, q2, ?_⟩
          have pf3 := pf2.later L3
          cases fl1 with
          | nx env' M' => exact fun as' H' σ' L hE' hM' => ⟨rfl, hlt, as', env', M', L2.trans (L3.trans L), hE', hM', ec⟩
          | ct env' M' => exact fun as' H' σ' L hE' hM' => ⟨rfl, hlt, as', env', M', L2.trans (L3.trans L), hE', hM', ec⟩
          | bk env' M' =>
            cases ec
            exact pf3
          | rt d M' =>
            cases ec
            exact pf3
          | ex env' cc p M' =>
            cases ec
            exact pf3
    · have hi' : i = k.items.length := by omega
      rw [hi', List.drop_length] at ec
      unfold forM at ec
      obtain ⟨hw, ec⟩ := oi ec
      cases ec
      exact .inl ⟨(hJ as2 F H' M2 L2.lf hM2 (fun a ha => .inl ha) hw i).1 hi', pf2 _ _ _ (.refl hM2) hE2 hM2⟩
  · exact ⟨as, F, M, env, _, hE, hM, e1, fun k' M1' ek => (by cases ek), px_ex hE pf⟩

/-! ### an assignment's forms -/
theorem sw_no {n : Nat} {tg : Option Expr} {l : Nat} (h : cE n c e = some ce) (hl : isLC e = false) (env : PySem.Env) : swapsWith e tg l env = pure false := by
  obtain ⟨k, c1, h1⟩ := cE_e1 h
  cases e <;> first
    | rfl
    | (cases hl; done)
    | (exfalso
       cases k with
       | zero =>
         unfold cE1 at h1
         cases h1
       | succ k =>
         unfold cE1 at h1
         cases h1)
theorem sw_other {l : Nat} {tg : Expr} (env : PySem.Env) (h : ∀ x p, tg ≠ Expr.Name x p) {n : Nat} (hc : cE n c e = some ce) : swapsWith e (some tg) l env = pure false := by
  by_cases hl : isLC e = true
  · cases e <;> first
      | (cases hl; done)
      | skip
    cases tg <;> first
      | rfl
      | exact absurd rfl (h _ _)
  · exact sw_no hc (by simpa using hl) env
/-- whether a comprehension's own slot is swapped -/
def swB (env : PySem.Env) (scope : Scope) (y : Str) (py pos : Pos) : Bool := env.blockKind == .function && env.kindOf y == some .local && py.line == pos.line && !(scope.names.any fun (n, k) => n == y && (k == .local || k == .cell))
theorem sw_is {elt : Expr} {gs : List Comprehension} {scope : Scope} {py : Pos} {y : Str} {l : Nat} {env : PySem.Env} : swapsWith (.ListComp elt gs scope pos) (some (.Name y py)) l env = pure (swB env scope y py pos) := rfl
theorem swB_local {env : PySem.Env} {scope : Scope} {y : Str} {py : Pos} (h : swB env scope y py pos = true) : env.scope.names.lookup y = some .local := by
  have h1 := band (band (band (show (env.blockKind == .function && env.kindOf y == some .local && py.line == pos.line && !(scope.names.any fun (n, k) => n == y && (k == .local || k == .cell))) = true from h)).1).1
  have h2 := h1.2
  exact eq_of_beq h2
theorem mat_read {p : Pos} {Q : VK} (h : tE X g W (matAt c p ce) σ H Q) : tE X g W ce σ H Q := by
  unfold matAt at h
  split at h
  · obtain ⟨as, F, M, env, r0, hE, hM, ex, po, px⟩ := h
    unfold exE at ex
    refine tE_bind hE hM ex px fun d M1 as1 H1 x L1 hM1 r1 e1 => ?_
    split at e1
    · rename_i ds
      cases e1
      cases r1 with
      | val r => cases r
      | fl h0 h1 na r2 hM2 =>
        obtain ⟨L2, hM3, r3⟩ := hM2.push h0 h1 na r2 L1
        exact po _ _ rfl _ _ _ L2 hM3 (.val r3)
    · cases e1
  · exact h
theorem s_setLC {n : Nat} {elt : Expr} {gs : List Comprehension} {scope : Scope} {i : Nat} {p posc : Pos} (O : OkC X c g W) (hi : slotL c x = some i) (h : cE n c (.ListComp elt gs scope posc) = some ce) : PS X (.Assign [.Name x p] (.ListComp elt gs scope posc) pos) (tS X g W (.asg (.name i) ce)) := by
  have he := (allOk g n).e X c W _ ce O h
  have S := sto_ok O hi
  cases hb : swB X.env scope x p posc with
  | false => exact s_set O hi (by rw [sw_is, hb]) he.1
  | true =>
    have hyl := swB_local hb
    have hsw : swapsWith (.ListComp elt gs scope posc) (some (.Name x p)) pos.line X.env = pure true := by rw [sw_is, hb]
    cases n with
    | zero =>
      unfold cE at h
      cases h
    | succ n =>
      unfold cE at h
      obtain ⟨c1, h1, rfl⟩ := om h
      cases n with
      | zero =>
        unfold cE1 at h1
        cases h1
      | succ n =>
        have A := allOk g n
        unfold cE1 at h1
        split at h1 <;> rename_i heq <;> first
          | (cases heq; done)
          | skip
        · cases heq
          dsimp only at h1
          obtain ⟨hblk, h1⟩ := oi h1
          have B : BlkOk X.N X.env.scope scope (ownOf c scope) := by
            rw [O.N, O.sc]
            exact blkOk_by hblk
          split at h1
          · rename_i q1 q2 q3 q4
            obtain ⟨h5, h6⟩ := oi h1
            cases h6
            refine ⟨fun pins s σ H De I hq => ?_⟩
            have hown : ∀ i ∈ _, i ∈ (ownOf c scope).map (·.2) := fun i hi => List.contains_iff_mem.mp (List.all_eq_true.mp h5 i hi)
            obtain ⟨hc, h'⟩ := s_comp O.calm hown σ H _ (mat_read (asg_name De σ H hq))
            exact (ps_setLc hc O.nd S.at_ hyl hsw (A.it X c W _ _ _ O q2) B (fun s H C cl fp => s_tgt (O.blk hblk s H C cl fp) hc q1) (fun s H C cl fp => A.ifs _ _ _ _ _ (O.blk hblk s H C cl fp) q3)
              (fun s H C cl fp => (A.e _ _ _ _ _ (O.blk hblk s H C cl fp) q4).1) (cIt_set q2 _)).run pins s σ H De I h'
          · cases h1
        · cases heq
          dsimp only at h1
          obtain ⟨hblk, h1⟩ := oi h1
          have B : BlkOk X.N X.env.scope scope (ownOf c scope) := by
            rw [O.N, O.sc]
            exact blkOk_by hblk
          split at h1
          · rename_i q1 q2 q3 q4 q5
            obtain ⟨h5, h6⟩ := oi h1
            cases h6
            refine ⟨fun pins s σ H De I hq => ?_⟩
            have hown : ∀ i ∈ _, i ∈ (ownOf c scope).map (·.2) := fun i hi => List.contains_iff_mem.mp (List.all_eq_true.mp h5 i hi)
            obtain ⟨hc, h'⟩ := s_comp2 O.calm hown σ H _ (mat_read (asg_name De σ H hq))
            exact (ps_setLc2 hc O.nd S.at_ hyl hsw (A.it X c W _ _ _ O q2) B (fun i hi => hown i (List.mem_append_right _ hi)) (fun s H C cl fp => s_tgt (O.blk hblk s H C cl fp) hc q1) (fun s H C cl fp => pts_nil)
              (fun s H C cl fp => A.it _ _ _ _ _ _ (O.blk hblk s H C cl fp) q4) (fun s H C cl fp => s_tgt (O.blk hblk s H C cl fp) hc q3) (fun s H C cl fp => pts_nil)
              (fun s H C cl fp => (A.e _ _ _ _ _ (O.blk hblk s H C cl fp) q5).1) (cIt_set q2 _) (cIt_set q4)).run pins s σ H De I h'
          · cases h1
        · cases h1
end
end Z
end
section
set_option Elab.async false
set_option linter.all false
set_option maxRecDepth 100000
set_option maxHeartbeats 4000000
set_option autoImplicit false
/-! while, op=, attributes that are set, raise. -/
namespace Z
open PySem PySem.Spec PyProof.Rows L2
variable {K : PySem.W.Frag} {w : World} {as as' as'' F F2 : List Addr} {H H₀ H' H'' : Hp} {M M' : Mem} {v : V} {vs : List V} {d : D} {ds : List D} {σ σ1 : L2.St} {env env1 : Z.Env}
section
variable {X : Cx} {g : G} {W : WX} {c : Ctx} {e a b : Expr} {es : List Expr} {ce ca cb co : E} {ces : Es} {pos : Pos} {n : Nat} {x : Str} {fl : Fl} {De De' : Ends} {st : Stmt} {sts : List Stmt} {cs : S} {css : Ss}
/-! ### while -/
def loopN {α β : Type} (step : α → Option (α ⊕ β)) : Nat → α → Option β
  | 0, _ => none
  | n + 1, a => match step a with
    | none => none
    | some (.inl a') => loopN step n a'
    | some (.inr b) => some b
theorem loop_fuel {α β : Type} {step : α → Option (α ⊕ β)} {a : α} {b : β} (h : loopM step a = some b) : ∃ n, loopN step n a = some b := by
  refine loopM.partial_correctness step (fun a b => ∃ n, loopN step n a = some b) (fun loop ih a b e => ?_) a b h
  split at e
  · cases e
  · rename_i a' q
    obtain ⟨n, hn⟩ := ih _ _ e
    refine ⟨n + 1, ?_⟩
    unfold loopN
    rw [q]
    exact hn
  · rename_i b' q
    cases e
    refine ⟨1, ?_⟩
    unfold loopN
    rw [q]
theorem s_whl {t : Expr} {ct : E} {body : List Stmt} (hp : PassesOwn (model X.prog X.w) X.A X.env X.xe) (ht : PT X t (tB_ X g W ct)) (hb : PSs X body (tSs X g W css)) : PS X (.While t body [] pos) (tS X g W (.whl ct css)) := PS.imp (ps_while hp ht hb) fun D σ H ⟨as, F, M, env, fl, hE, hM, ex, pf⟩ => by
  unfold exS at ex
  obtain ⟨m0, e0⟩ := loop_fuel ex
  refine ⟨fun m σ' H' => ∃ as' env' M', Later as H as' H' ∧ RelE X.K X.w as' F H' σ' env' ∧ RelH X.K X.w as' F H' M' ∧ loopN (wStep (exT g ct) (exSs g css)) m (env', M') = some fl, ⟨m0, as, env, M, .refl hM, hE, hM, e0⟩, ?_⟩
  rintro m σ1 H1 ⟨as1, env1, M1, L1, hE1, hM1, e1⟩
  have pf1 := pf.later L1
  cases m with
  | zero => cases e1
  | succ m =>
    unfold loopN wStep at e1
    dsimp only at e1
    cases q : exT g ct env1 M1 with
    | none =>
      rw [q] at e1
      cases e1
    | some r =>
      rw [q] at e1
      refine ⟨as1, F, M1, env1, r, hE1, hM1, q, fun b M2 er as2 H2 L2 hM2 => ?_, ?_⟩
      · subst er
        have pf2 := pf1.later L2
        have hE2 := hE1.later L2
        cases b with
        | false =>
          rw [if_neg Bool.false_ne_true]
          dsimp only at e1
          cases e1
          exact pf2 _ _ _ (.refl hM2) hE2 hM2
        | true =>
          rw [if_pos rfl]
          refine ⟨fun σ' H' => ∃ as' env' M', Later as H as' H' ∧ RelE X.K X.w as' F H' σ' env' ∧ RelH X.K X.w as' F H' M' ∧ loopN (wStep (exT g ct) (exSs g css)) m (env', M') = some fl, fun σ' H' h => ⟨m, Nat.lt_succ_self _, h⟩, ?_⟩
          dsimp only at e1
          cases q2 : exSs g css env1 M2 with
          | none =>
            rw [q2] at e1
            cases e1
          | some fl1 =>
            rw [q2] at e1
            refine ⟨as2, F, M2, env1, fl1, hE2, hM2, q2, ?_⟩
            have LL := L1.trans L2
            cases fl1 with
            | nx env' M' => exact fun as' H' σ' L hE' hM' => ⟨as', env', M', LL.trans L, hE', hM', e1⟩
            | ct env' M' => exact fun as' H' σ' L hE' hM' => ⟨as', env', M', LL.trans L, hE', hM', e1⟩
            | bk env' M' =>
              cases e1
              exact pf2
            | rt d M' =>
              cases e1
              exact pf2
            | ex env' cc p M' =>
              cases e1
              exact pf2
      · intro cc p M2 er
        subst er
        dsimp only at e1
        cases e1
        exact px_ex (α := Bool) hE1 pf1 _ _ _ rfl
/-! ### x op= e -/
theorem aug_ok {o : Operator} {op : BOp} (h : augOp o = some op) : ∃ f : Int → Int → Int, (∀ i j, binI op i j = some (f i j)) ∧ PIp X o (ipI f) ∧ InOp X o (fun x y H Q => ∃ i j, x = .int i ∧ y = .int j ∧ Q (.int (f i j)) H) := by
  cases o <;> first
    | (cases h; done)
    | skip
  · cases h
    exact ⟨fun i j => i + j, fun _ _ => rfl, ip_add, in_add⟩
  · cases h
    exact ⟨fun i j => i - j, fun _ _ => rfl, ip_sub, in_sub⟩
theorem s_aug {i : Nat} {o : Operator} {op : BOp} {p : Pos} (O : OkC X c g W) (hi : slotL c x = some i) (ho : augOp o = some op) (he : PE X e (tE X g W ce)) : PS X (.AugAssign (.Name x p) o e pos) (tS X g W (.aug i op ce)) := by
  obtain ⟨f, h1, h2, _⟩ := aug_ok (X := X) ho
  have S1 := sto_ok O hi
  refine PS.imp (ps_aug O.nd S1.at_ S1.loc he h2 S1.fn) fun D σ H ⟨as, F, M, env, fl, hE, hM, ex, pf⟩ => ?_
  unfold exS at ex
  split at ex
  · rename_i d e1
    obtain ⟨v, e2, hv⟩ := hE.at_ i d e1
    refine ⟨v, e2, tE_on hE hM ex pf fun x M1 as1 H1 y L1 hE1 hM1 r1 e3 pf1 => ?_⟩
    split at e3
    · rename_i ai bi
      rw [h1] at e3
      cases e3
      cases hv
      cases r1 with
      | val r1 =>
        cases r1
        exact ⟨_, _, rfl, rfl, pf1 _ _ _ (.refl hM1) (hE1.set (.int _)) hM1⟩
    · cases e3
  · cases ex
/-! ### o.f = e, o.f op= e -/
theorem nm_len {fs : List (Str × V)} {ps : List (Str × D)} (e : fs.map (·.1) = ps.map (·.1)) : fs.length = ps.length := by
  have := congrArg List.length e
  rwa [List.length_map, List.length_map] at this
theorem InsAt.put {C : Str} {r : Nat} {ps : List (Str × D)} {ad dx : Addr} {fs : List (Str × V)} {f : Str} {u x : V} {d d0 : D} (I : InsAt K w as F H M C x d0 r ps ad dx fs) (hM : RelH K w as F H M) (hu : Rep K w as F H u d) :
    fs.length < 1000 ∧ Later as H as (upd H ad (.ins (He.ga K C) dx (putF f u fs))) ∧ RelH K w as F (upd H ad (.ins (He.ga K C) dx (putF f u fs))) (M.set r (.ins C (putA f d ps))) := by
  obtain ⟨h1, h2⟩ := Reps.putF (f := f) I.nm I.vs hu
  exact ⟨by rw [nm_len I.nm]; exact I.few, hM.putI I.ix h1 h2⟩
theorem s_asgA {o : Expr} {C f : Str} {p : Pos} (hC : Cls X.K (He.ga X.K C)) (hN : NoAttr X.K (He.ga X.K C) f) (hs : swapsWith e (some (.Attribute o f p)) pos.line X.env = pure false) (ho : PE X o (tE X g W co)) (he : PE X e (tE X g W ce)) :
    PS X (.Assign [.Attribute o f p] e pos) (tS X g W (.asg (.att C co f) ce)) := PS.imp (ps_fld ho he hs) fun D σ H ⟨as, F, M, env, fl, hE, hM, ex, pf⟩ => by
  unfold exS at ex
  obtain ⟨_, ex⟩ := oi ex
  refine tE_on hE hM ex pf fun d M1 as1 H1 v L1 hE1 hM1 r1 e1 pf1 => ?_
  split at e1
  · cases e1
  · rename_i y e2
    dsimp only at e1
    have ry := (r1.weak hM.fex).frz e2
    refine tE_on hE1 hM1 e1 pf1 fun od M2 as2 H2 ov L2 hE2 hM2 r2 e3 pf2 => ?_
    split at e3
    · rename_i r ps e4
      cases e3
      obtain ⟨ad, dx, fs, I⟩ := ins_at hM2 (r2.weak hM1.fex) e4
      obtain ⟨h1, h2, h3⟩ := I.put (f := f) hM2 (ry.later L2)
      exact ⟨ad, _, dx, fs, I.ex, I.at_, hC, hN, h1, pf2 _ _ _ h2 (hE2.later h2) h3⟩
    · cases e3
theorem s_augA {o : Expr} {C f : Str} {p : Pos} {op : Operator} {bo : BOp} (hC : Cls X.K (He.ga X.K C)) (hN : NoAttr X.K (He.ga X.K C) f) (hop : augOp op = some bo) (ho : PE X o (tE X g W co)) (he : PE X e (tE X g W ce)) :
    PS X (.AugAssign (.Attribute o f p) op e pos) (tS X g W (.augA C co f bo ce)) := by
  obtain ⟨fn, h1, _, h2⟩ := aug_ok (X := X) hop
  refine PS.imp (ps_fldaug ho he h2) fun D σ H ⟨as, F, M, env, fl, hE, hM, ex, pf⟩ => ?_
  unfold exS at ex
  refine tE_on hE hM ex pf fun od M1 as1 H1 ov L1 hE1 hM1 r1 e1 pf1 => ?_
  have w1 := r1.weak hM.fex
  split at e1
  · rename_i r ps e2
    obtain ⟨ad, dx, fs, I⟩ := ins_at hM1 w1 e2
    split at e1
    · rename_i ai e3
      obtain ⟨v, e4, hv⟩ := (Reps.field I.nm I.vs).1 e3
      cases hv
      refine ⟨ad, _, dx, fs, _, I.ex, I.at_, hC, hN, e4, tE_on hE1 hM1 e1 pf1 fun xd M2 as2 H2 y L2 hE2 hM2 r2 e5 pf2 => ?_⟩
      split at e5
      · rename_i bi
        rw [h1] at e5
        split at e5
        · rename_i z r' ps' e6 e7
          cases e6
          cases e5
          cases r2 with
          | val r2 =>
            cases r2
            obtain ⟨ad', dx', fs', I'⟩ := ins_at hM2 (w1.later L2) e7
            have ea := I.ex
            rw [I'.ex] at ea
            cases ea
            obtain ⟨h3, h4, h5⟩ := I'.put (f := f) hM2 (.int _)
            exact ⟨_, _, rfl, rfl, dx', fs', I'.at_, h3, pf2 _ _ _ h4 (hE2.later h4) h5⟩
        · cases e5
      · cases e5
    · cases e1
  · cases e1
end
end Z
end
section
set_option Elab.async false
set_option linter.all false
set_option maxRecDepth 100000
set_option maxHeartbeats 4000000
set_option autoImplicit false
/-! raise of an own exception. -/
namespace Z
open PySem PySem.Spec PyProof.Rows L2
variable {K : PySem.W.Frag} {w : World} {as as' as'' F F2 : List Addr} {H H₀ H' H'' : Hp} {M M' : Mem} {v : V} {vs : List V} {d : D} {ds : List D} {σ σ1 : L2.St} {env env1 : Z.Env}
/-- more lies there -/
theorem RelH.more (h : RelH K w as F H M) (k : ∀ b o, H b = some o → H' b = some o) : Later as H as H' ∧ RelH K w as F H' M := by
  have L : Later as H as H' := ⟨⟨[], by simp, fun a ha => by cases ha⟩, fun a o e _ => k a o e, h.there⟩
  refine ⟨L, h.len, h.nd, fun a ha => ?_, fun n a o e1 e2 => (h.obj n a o e1 e2).later L fun o q => k _ _ q⟩
  cases q : H a with
  | none => exact absurd q (h.fex a ha)
  | some u =>
    rw [k a u q]
    exact fun z => nomatch z
section
variable {X : Cx} {g : G} {W : WX} {c : Ctx} {e a b : Expr} {es : List Expr} {ce ca cb co : E} {ces : Es} {pos : Pos} {n : Nat} {x : Str} {fl : Fl} {De De' : Ends} {st : Stmt} {sts : List Stmt} {cs : S} {css : Ss}
/-- C(e), C's own __init__ keeping sp; the context of what is made is None -/
theorem pmk_oexN {ta : TA} {p : Pos} {C fI : Addr} {k : Nat} {fd : FuncData} {ps : List Str} {sp : Sp} (T : OexC X.K C) (iC : PySem.W.findIn X.K (.ref C) "__init__" = some (some (.ref fI))) (tI : PySem.W.typeIn X.K (.ref fI) = some (.type "function"))
    (F1 : FnOk X.prog X.w X.K X.mg X.base (L2N.CX X.prog X.w) k fI fd ps sp) (hr : Room (k + 1) X.A) (hb : Binds X.K fd ps []) (hg : Gl X x) (hm : X.mg x = some (.ref C)) (ha : PA X (e :: es) ta)
    (hdb : (x == ("__debug__" : Str)) = false) (he : starEach (e :: es) X.env = (false, eval e X.env) :: starEach es X.env) (hpl : (backTo pos (starEach es X.env)).any (·.1) = false) :
    L2N.PMk X (.Call (.Name x p) (e :: es) [] pos) (tMkO C sp [] ta) := by
  intro pins s σ H Q I h
  obtain ⟨nm, q, N, bs, bm, sn, sub, ab, col, dd, k0, k1, k2, k3, k5, hC, hbm⟩ := T.cls
  refine wpAny_Call_Name_kw (ld_glob I hg hm ?_ hdb)
  refine PySem.W.callWith_K (h₀ := X.base) I.ok.mod.kin T.kC (thn (ha.run pos pins s σ H _ I h) fun us s1 ⟨vs, H1, I1, r1, hz, q1⟩ => ⟨I1.kIn, ?_⟩) he hpl
  show wpAny _ _ (call (.ref C) us) _ _ _
  obtain ⟨hp, g, dr, tk, os⟩ := s1
  have hsz : hp.objs.size ≤ hp.objs.size + 1 := Nat.le_succ _
  have hn : H1 (hp.objs.size + 1) = none := I1.hok.fresh hsz
  have hq := q1 (hp.objs.size + 1) hn
  rw [List.append_nil] at hq
  have kk : ∀ b o, hp.get? b = some o → ((hp.push (PySem.W.kdv_tup us)).push (PySem.HandSPX.excO C hp.objs.size)).get? b = some o := fun b o e => Heap.get?_push_of_some _ (Heap.get?_push_of_some _ e)
  have hget : ((hp.push (PySem.W.kdv_tup us)).push (PySem.HandSPX.excO C hp.objs.size)).get? (hp.objs.size + 1) = some (PySem.HandSPX.excO C hp.objs.size) := by heap_get
  have I2 : Inv X pins σ (upd H1 (hp.objs.size + 1) (exo (hp.objs.size + 1) C none)) ⟨(hp.push (PySem.W.kdv_tup us)).push (PySem.HandSPX.excO C hp.objs.size), g, dr, tk, os⟩ :=
    I1.laid (t' := tk) (a := hp.objs.size + 1) (o := exo (hp.objs.size + 1) C none) (h' := (hp.push (PySem.W.kdv_tup us)).push (PySem.HandSPX.excO C hp.objs.size)) kk hsz (exo_ok hget)
  have r2 : Vals (V.ref (hp.objs.size + 1) :: vs) (Value.ref (hp.objs.size + 1) :: us) := .cons rfl r1
  have hl : (Value.ref (hp.objs.size + 1) :: us ++ []).length = ps.length := by
    have e := r2.length
    rw [F1.len _ _ _ _ hq] at e
    rw [List.append_nil]
    exact e.symm
  have hus : us.length ≤ sizeLine := by
    rw [← Paired.length r1, sizeLine_eq]
    omega
  have b2 := hb _ (Value.ref (hp.objs.size + 1) :: us) I2.kIn hl
  rw [List.append_nil] at b2
  refine wpAny_call (PySem.HandSPX.call_own PySem.F.excBase_ValueError (fun Y => PySem.HandSPX.refsVE_contains Y bm hbm) (I1.kIn _ _ hC) (PySem.W.looks_findIn I1.kIn iC) (fun self => PySem.W.bind_fn I1.kIn self tI) hus
    (codeAny_mono (F1.run _ X.stack _ _ ⟨Value.ref (hp.objs.size + 1) :: us, []⟩ (Value.ref (hp.objs.size + 1) :: us) _ _ (fun _ _ _ => False) (hr.make C us []) (I2.env0.make C us []) b2 r2 hq) fun r s' hq' => ?_))
  cases r with
  | error er =>
    obtain ⟨_, _, _, _, _, _, _, _, _, _, _, _, z⟩ := hq'
    exact z.elim
  | ok fl =>
    cases fl with
    | ret u =>
      obtain ⟨v, H2, os2, bare2, un2, hok2, rv, ev, d, fs, ea, ed, hd1, q2⟩ := hq'
      subst ev
      obtain ⟨h2, g2, d2, t2, os'⟩ := s'
      obtain ⟨t0, G, J, kG, ge, hoe, na⟩ := mk_end0 (d2 := d2) (t2 := t2) I1 hsz kk un2 hok2 os2 bare2 ea ed hd1
      exact ⟨rv, hp.objs.size + 1, _, _, ⟨G, g2, d2, t2, os'⟩, _, .ref C, some d, rfl, J, kG, ge, hoe, ⟨rfl, rfl, fun vs hv => by
        cases hv
        rfl⟩, rfl, rfl, na, rfl, bare2, raises_own T.exC T.tyC, q2⟩
    | next => exact False.elim hq'
    | brk => exact False.elim hq'
    | cont => exact False.elim hq'
/-- raise C(e) -/
theorem s_raise {p posc : Pos} {C f : Str} (O : OkC X c g W) (hg : Gl X C) (hd : (C == ("__debug__" : Str)) = false) (hc : c.gl.lookup C = some (.exc f)) (ns : NS e) (he : PE X e (tE X g W ce)) :
    PS X (.Raise (some (.Call (.Name C p) [e] [] posc)) none pos) (tS X g W (.raise C f ce)) := by
  refine ⟨fun pins s σ H De I ⟨as, F, M, env, fl, hE, hM, ex, pf⟩ => ?_⟩
  unfold exS at ex
  obtain ⟨h0, ex⟩ := oi ex
  have h1 := band h0
  have cm := O.calm h1.1
  have rm := (O.room h1.1).mono (of_decide_eq_true h1.2)
  obtain ⟨hm, T, fI, fd, ps, iC, tI, hb, F1⟩ := O.exc C f hc
  have pa : PA X [e] (tCons (tE X g W ce) tNil) := pa_cons he pa_nil (star1 ns)
  refine (L2N.ps_raise cm O.tk (pmk_oexN (p := p) (pos := posc) T iC tI F1 rm hb hg hm pa hd (star1 ns) rfl)).run pins s σ H De I ?_
  show tE X g W ce σ H _
  refine tE_on hE hM ex pf fun d M1 as1 H1 v L1 hE1 hM1 r1 e1 pf1 => ?_
  split at e1
  · rename_i d' e2
    cases e1
    have hv := (r1.weak hM.fex).frz e2
    show ([v] : List V).length ≤ 1000 ∧ _
    refine ⟨by show 1 ≤ 1000; omega, fun a ha => ⟨a, v, rfl, upd_same, fun dx hdx ne => ⟨rfl, dx, [(f, v)], upd_same, ?_, ?_, ?_⟩⟩⟩
    · rw [upd_ne ne, upd_same]
    · rw [upd_ne ne] at hdx
      exact hdx
    · rw [upd_ne ne] at hdx
      obtain ⟨L2', hM2⟩ := hM1.more (H' := upd (del (upd (upd (upd H1 a (exo a (He.ga X.K C) none)) dx (exd dx [(f, v)])) a (exo a (He.ga X.K C) (some dx))) a) dx (.xd [(f, v)])) fun b o q => by
        have hba : b ≠ a := fun z => by
          rw [z, ha] at q
          cases q
        have hbd : b ≠ dx := fun z => by
          rw [z, hdx] at q
          cases q
        rw [upd_ne hbd, del_ne hba, upd_ne hba, upd_ne hbd, upd_ne hba]
        exact q
      exact pf1 _ _ σ _ _ L2' (hE1.later L2') hM2 ⟨rfl, rfl, hm, upd_same, rfl, .cons (hv.later L2') .nil⟩
  · cases e1
end
end Z
end
section
set_option Elab.async false
set_option linter.all false
set_option maxRecDepth 100000
set_option maxHeartbeats 4000000
set_option autoImplicit false
/-! An own exception's __init__: super().__init__(text); self.f = x. -/
namespace Z
open PySem PySem.Spec PyProof.Rows L2
section
variable {prog : Program} {w : World} {A : Around} {E : Value → Shared → Prop} {h : Heap} {g : Array GenState} {d : Drawn} {t : Nat} {os : OsState} {pos : Pos} {es : List Expr}
variable {nm q : Str} {C N : Addr} {bs bm : List Value} {hdct : Bool} {sn : List Str} {sub : List Value} {ab : Bool} {col : Option Bool} {dd : Option Addr} {k0 k1 k2 k3 k5 : Option Value}
theorem meth_form2 {o : Expr} {m : Str} {apos : Pos} {env : PySem.Env} 
    (hfew : ((backTo pos (starEach es env)).all (fun x => !x.1) && (backToKw pos (keywordEach [] env)).all (fun x => x.1.isSome)
      && decide (es.length + ([] : List Keyword).length + (if ([] : List Keyword).isEmpty then 0 else 1) < 30)) = true)
    (hline : (apos.endLine == pos.line) = true) : eval (.Call (.Attribute o m apos) es [] pos) env = (do
      let ov ← attributeBase o m env (eval o env)
      standAt apos.atName
      let (f, first) ← holding [ov] (getMethod ov m (do return (← importBound o env).getD true))
      callWith pos f first (backTo pos (starEach es env)) []) := by
  have hform : methodCallForm (es.length + ([] : List Keyword).length) (backTo pos (starEach es env)) (backToKw pos (keywordEach [] env)) = true := hfew
  have hpos : methodCallPos true o env apos pos = pure pos := by unfold methodCallPos; simp [hline]
  rw [arm_eval_Call]
  unfold methodCall
  simp only [hform, hpos, calleeOf, if_true, pure_bind]
  rfl
/-- ValueError.__init__, bound to the instance, is called -/
theorem call_bwV {u e t0 : Addr} {rest : List Value} {Q : Value → Shared → Prop}
    (hC : h.get? C = some (excClassObj nm q C N bs bm hdct sn sub ab col dd k0 k1 k2 k3 k5 "ValueError.__new__")) (he : h.get? e = some (HandSPX.excO C t0)) (hu : h.get? u = some (W.kxs_mw "ValueError.__init__" e)) (hrest : rest.length ≤ sizeLine)
    (hq : ∀ h' t1, (∀ b o, b ≠ e → h.get? b = some o → h'.get? b = some o) → h'.get? e = some (HandSPX.excO C t1) → Q .none ⟨h', g, d, t, os⟩) :
    wpAny (model prog w) A (call (.ref u) rest) Q E ⟨h, g, d, t, os⟩ := by
  refine wpAny_call (codeAny_of_tree ?_)
  show wpAny _ A.in1 (callAny (.ref u) ⟨rest, []⟩) _ _ _
  simp only [callAny]
  refine wpAny_bind (wpAny_load hu ?_)
  simp only [W.kxs_mw, show (Value.type "method-wrapper" == Value.type "method" || Value.type "method-wrapper" == Value.type "builtin_function_or_method" || Value.type "method-wrapper" == Value.type "method-wrapper") = true by decide, if_true]
  refine W.KFB.if_so (by decide) ?_
  refine wpAny_bind (W.check_bound_init F.excBase_ValueError.toExcCallFacts hC he rfl ?_)
  refine wpAny_bind (wpAny_pure (wpAny_pure ?_))
  refine ⟨Code.quiet_builtin _ (by decide +kernel), codeAny_builtin F.excBase_ValueError.initEntry ?_⟩
  rw [Around.under_plainId F.excBase_ValueError.init.plain _]
  wp_walk
  refine hq _ h.objs.size (fun b o hb ho => ?_) ?_
  · rw [Heap.get?_update_other _ _ (Ne.symm hb)]
    exact Heap.get?_push_of_some _ ho
  · rw [Heap.get?_update_self _ (Heap.get?_push_of_some _ he) rfl]
    rfl
end
end Z
end
section
set_option Elab.async false
set_option linter.all false
set_option maxRecDepth 100000
set_option maxHeartbeats 4000000
set_option autoImplicit false
/-! An own exception's __init__: super().__init__(text); self.f = x. -/
namespace Z
open PySem PySem.Spec PyProof.Rows L2
variable {prog : Program} {w : World} {K : PySem.W.Frag} {mg : Str → Option Value} {base : Heap}
/-- what the text says of such a def -/
structure InitS (prog : Program) (K : PySem.W.Frag) (mg : Str → Option Value) (C f : Addr) (fld p0 p1 : Str) (fd : FuncData) (binds : Prop) : Prop where
  ex : ∃ (cc cda : Addr) (name qual : Str) (params : Arguments) (scope : Scope) (dV kV doc pm ct oc ccl cl : Value) (an od cdd cld : Option Addr) (osl ccs csl : Array (Option Value)) (vs : Array Value) (file msg : Str) (tf : Tok) (j : Nat) (q0 q1 q2 q3 q4 q5 q6 q7 q8 q9 : Pos) (ar : Arg),
    fd = W.ksFn name qual params [.Expr (.Call (.Attribute (.Call (.Name "super" q0) [] [] q1) "__init__" q2) [.Constant (.str msg) j q3] [] q4) q5, .Assign [.Attribute (.Name p0 q6) fld q7] (.Name p1 q8) q9] scope dV kV doc pm an (.ref cda) ct cc ∧
    K.lookup f = some ⟨oc, od, .func fd, osl⟩ ∧ W.codeIn K (.ref cda) qual = true ∧ (params.posonlyargs ++ params.args).head? = some ar ∧ ar.arg = p0 ∧
    K.lookup cda = some ⟨ccl, cdd, .fields vs, ccs⟩ ∧ vs[2]? = some (.str file tf) ∧ ((prog.main.file : Str) == file) = true ∧ K.lookup cc = some ⟨cl, cld, .cell (some (.ref C)), csl⟩ ∧
    (q2.endLine == q4.line) = true ∧ (∀ x ∈ scope.names, x.2 ≠ .cell) ∧ scope.isCoroutine = false ∧ scope.isGenerator = false ∧ scope.kind = .function ∧
    scope.names.lookup ("super" : Str) = some .globalImplicit ∧ scope.names.lookup ("__class__" : Str) = some .free ∧ scope.names.lookup p0 = some .local ∧ scope.names.lookup p1 = some .local
  bind : binds
  oex : OexC K C
  sup : mg "super" = none
  top : (prog.main.scope.names.lookup ("super" : Str)).isSome = false
  along : W.ks_superIn K C C "__init__" = some (some (.builtin "ValueError.__init__"))
  opq : W.nsIn K cStatics "thirdparty.any" = some none
  ve : W.subIn K (.ref C) (.type "ValueError") = some true
  no : W.findIn K (.ref C) fld = some none
  ne : (p0 == p1) = false
  d0 : (p0 == ("__debug__" : Str)) = false
  d1 : (p1 == ("__debug__" : Str)) = false
/-- the heap behind such a call -/
theorem init_ce {outer : List PySem.Env} {A : Around} {s s' : Shared} {H : Hp} {Q : VK} {a C dx : Addr} {y : V} {u : Value} {f : Str} {t3 : Addr} (e0 : Env0 prog w K mg base A outer s H) (ha : H a = some (exo a C none))
    (kk : ∀ b o, b ≠ a → s.heap.get? b = some o → s'.heap.get? b = some o) (dn : s.heap.get? dx = none) (dne : dx ≠ a) (hx : s'.heap.get? a = some ({ cls := .ref C, dict := some dx, data := .fields #[.ref t3, .none, .none, .none, .bool false, .none] } : Obj))
    (hn : s'.heap.Ns1 dx (fun z => if z = f then some u else none)) (ho : s'.os = s.os) (hb : s'.gens = s.gens) (ry : RelV y u) (q : Q .non (upd (upd H dx (exd dx [(f, y)])) a (exo a C (some dx)))) : CE outer prog w H s Q .none s' := by
  have hdx : H dx = none := e0.hok.gone dn
  have na : ∀ {b : Addr}, H b = none → b ≠ a := fun {b} n z => by
    rw [z, ha] at n
    cases n
  have nd : ∀ {b : Addr} {o : Obj}, s.heap.get? b = some o → b ≠ dx := fun {b o} q z => by
    rw [z, dn] at q
    cases q
  refine ⟨.non, _, ho, by rw [hb]; exact e0.bare, {
    keep := fun b o q n _ _ => kk b o (na n) q
    slot := fun b o q n _ _ => ⟨o.slots, kk b o (na n) q⟩
    free := fun b o q n _ => by rw [upd_ne (na n), upd_ne (nd q)]; exact n
    there := fun b o q _ => by
      by_cases hb : b = a
      · exact ⟨_, by rw [hb]; exact hx⟩
      · exact ⟨o, kk b o hb q⟩
    tups := fun b xs q => by rw [upd_ne (at_ne ha q exo_tup), upd_ne (ne_of_none q hdx)]; exact q
    frzs := fun b o v q => by rw [upd_ne (at_ne ha q exo_frz), upd_ne (ne_of_none q hdx)]; exact q
    tbls := fun b ps q => ⟨#[], by rw [upd_ne (at_ne ha q exo_tbl), upd_ne (ne_of_none q hdx), q]; simp⟩ }, fun b o q => ?_, rfl, q⟩
  by_cases hb : b = a
  · subst hb
    rw [upd_same] at q
    cases q
    exact exo_ok hx
  · rw [upd_ne hb] at q
    by_cases hd : b = dx
    · subst hd
      rw [upd_same] at q
      cases q
      exact exd_ok hn (relO_put (fs := []) ry fun g => True.intro)
    · rw [upd_ne hd] at q
      exact (e0.hok b o q).stay (fun c v hc z => kk c v (by
          rcases hc with hc | hc
          · rw [hc]
            exact hb
          · exact at_ne ha hc exo_own) z)
        (fun c hc => by rw [upd_ne (at_ne ha hc exo_own), upd_ne (ne_of_none hc hdx)]; exact hc) (fun c xs hc => by rw [upd_ne (at_ne ha hc exo_tup), upd_ne (ne_of_none hc hdx)]; exact hc)
end Z
end
section
set_option Elab.async false
set_option linter.all false
set_option maxRecDepth 100000
set_option maxHeartbeats 4000000
set_option autoImplicit false
/-! An own exception's __init__: super().__init__(text); self.f = x. -/
namespace Z
open PySem PySem.Spec PyProof.Rows L2
variable {prog : Program} {w : World} {K : PySem.W.Frag} {mg : Str → Option Value} {base : Heap}
theorem init_fn {C f : Addr} {fld p0 p1 : Str} {fd : FuncData} {k : Nat} (S : InitS prog K mg C f fld p0 p1 fd True) : FnOk prog w K mg base (L2N.CX prog w) k f fd [p0, p1] (spX C fld) := by
  refine ⟨fun vs H Q E h => ?_, fun A outer s H args us vs Q E hr e0 hb r hsp => ?_⟩
  · obtain ⟨a, y, e, _⟩ := h
    rw [e]
    rfl
  obtain ⟨a, y, ev, ha, hq⟩ := hsp
  subst ev
  obtain ⟨cc, cda, name, qual, params, scope, dV, kV, doc, pm, ct, oc, ccl, cl, an, od, cdd, cld, osl, ccs, csl, cvs, file, msg, tf, j, q0, q1, q2, q3, q4, q5, q6, q7, q8, q9, ar, rfl, lk, hcd, hp, har, hcode, hvs, hfile, hcell, hline, nocell, hco, hgen, hk, hks, hkc, hk0, hk1⟩ := S.ex
  subst har
  cases r with
  | @cons _ u0 _ ur ra r2 =>
  cases r2 with
  | @cons _ u _ ur2 ry r3 =>
  cases r3
  obtain rfl : u0 = Value.ref a := ra
  have KX : K.In s.heap := e0.mod.kin.keeps fun b o e => (e0.bs b o e).1
  have lim : s.heap.NoLimit := e0.mod.nolimit.keeps fun b o e => (e0.bs b o e).1
  have T := S.oex
  obtain ⟨nm, q, N, bs, bm, sn, sub, ab, col, dd, k0, k1, k2, k3, k5, hC, hbm⟩ := T.cls
  have hcl : PySem.W.clsIn K C = some { name := nm, bases := bs, mro := .ref C :: bm, ns := N, qualname := q, hasDict := true, slotNames := sn, subclasses := sub, abstract := ab, collection := col, hasDel := false } := by unfold PySem.W.clsIn; rw [hC] <;> rfl
  obtain ⟨t1, ho⟩ := exo_at e0.hok ha
  obtain ⟨hp0, g, d, t, os⟩ := s
  have hloc : ∀ x ∈ [ar.arg, p1].zip [Value.ref a, u], scope.names.lookup x.1 = some .local := fun x hx => by
    have hx : x ∈ [(ar.arg, Value.ref a), (p1, u)] := hx
    rcases List.mem_cons.mp hx with e | hx
    · rw [e]
      exact hk0
    · rw [List.mem_singleton.mp hx]
      exact hk1
  refine ks_codeAny_call_defAt (binds := [ar.arg, p1].zip [Value.ref a, u]) hr.depth (KX _ _ lk) rfl lim (PySem.W.codeRec_of KX hcd) rfl hb nocell hloc (fun h0 hns kp => ?_) hco hgen hk
  have hns0 : h0.Ns hp0.objs.size (fun x => (([ar.arg, p1].zip [Value.ref a, u]).reverse).lookup x) := hns
  have X0 : K.In h0 := KX.keeps kp
  have l0 : (([ar.arg, p1].zip [Value.ref a, u]).reverse).lookup ar.arg = some (Value.ref a) := by
    show List.lookup ar.arg [(p1, u), (ar.arg, Value.ref a)] = _
    rw [List.lookup_cons, S.ne, List.lookup_cons]
    simp
  have l1 : (([ar.arg, p1].zip [Value.ref a, u]).reverse).lookup p1 = some u := by
    show List.lookup p1 [(p1, u), (ar.arg, Value.ref a)] = _
    rw [List.lookup_cons]
    simp
  have hLa : hp0.objs.size ≠ a := fun z => by
    have := Heap.lt_size ho
    rw [← z] at this
    exact absurd this (Nat.lt_irrefl _)
  refine ks_wpAt_execs_cons (ks_wpAt_Expr_any (ks_wpAt_MethodCall (pl := _) ?_ (meth_form2 (few_ok (fun x hx => by rw [List.mem_singleton.mp hx]; exact fun _ _ z => nomatch z) (Nat.le_of_ble_eq_true rfl)) hline)) ?_ rfl)
  rotate_left
  · unfold interactive
    rw [show (callEnv (W.ksFn name qual params [.Expr (.Call (.Attribute (.Call (.Name "super" q0) [] [] q1) "__init__" q2) [.Constant (.str msg) j q3] [] q4) q5, .Assign [.Attribute (.Name ar.arg q6) fld q7] (.Name p1 q8) q9] scope dV kV doc pm an (.ref cda) ct cc) hp0.objs.size f).scope.kind = .function from hk]
    rfl
  refine ks_wpAt_super_base hks hkc (by decide) rfl (kp _ _ (KX _ _ lk)) rfl hp rfl (kp _ _ (KX _ _ hcode)) rfl hvs hfile S.top ?_
  have keep0 : ∀ b o, base.get? b = some o → h0.get? b = some o := fun b o e => kp _ _ (e0.bs b o e).1
  obtain ⟨mb, hb1, hb2⟩ := e0.mod.blt
  refine W.ks_loadName_global hk hks (Calls.loadGlobal_builtin (e0.mod.glob.keeps keep0) S.sup (hb1.keeps keep0) ((hb2 "super" (by decide)).trans (by boot_by_name)) ⟨rfl, ?_⟩)
  refine wpAny_loadName_free hk hkc rfl ⟨_, X0 _ _ hcell, rfl⟩ ?_
  refine wpAny_loadName_local hk hk0 hns0 l0 ?_
  have hC0 := X0 _ _ hC
  refine ks_wpAny_isType_cls hC0 rfl ⟨rfl, ?_⟩
  have ho0 := kp _ _ ho
  have subC : W.Looks (model prog w) h0 (isSubtype (.ref C) (.ref C)) true := W.looks_mroIn X0 (by
    unfold W.mroIn
    rw [hcl, Option.bind_some]
    show (if (Value.ref C :: bm).isEmpty = true then none else some ((Value.ref C :: bm).contains (.ref C))) = some true
    rw [if_neg (by simp)]
    simp)
  refine ks_wpAny_call_super hC0 rfl ho0 rfl (fun c z => nomatch z) subC (fun h1 e1 k1' => ?_)
  have X1 := X0.keeps k1'
  have hx1 := k1' _ _ ho0
  have IA : W.InstAt h1 a _ C none := ⟨hx1, rfl, rfl, trivial⟩
  refine W.kxs_getMethod W.kxs_ValueError e1 (W.looks_opaque X1 S.opq) (l₀ := .ref C :: bm) (fun A Q E s k q => wpAny_bind ((W.looks_clsIn X1 hcl) A _ E s k (wpAny_pure q))) rfl X1 ?_ (IA.type.andThen (W.looks_subIn X1 S.ve)) (W.ks_ne X1 IA hcl) (by decide) ?_
  · have := S.along
    unfold W.ks_superIn at this
    rw [hcl] at this
    exact this
  have k2 : ∀ b o, h1.get? b = some o → (h1.push (W.kxs_mw "ValueError.__init__" a)).get? b = some o := fun b o e => Heap.get?_push_of_some _ e
  have hu2 : (h1.push (W.kxs_mw "ValueError.__init__" a)).get? h1.objs.size = some (W.kxs_mw "ValueError.__init__" a) := Heap.get?_push_size _ rfl
  refine W.kxs_callWith (i := "ValueError.__init__") (x := a) rfl (Calls.evalArgs_plain (Calls.spliced_cons ?_))
  rw [if_neg Bool.false_ne_true]
  refine Calls.Constant_str ?_
  refine Calls.spliced_nil ⟨hu2, ?_⟩
  refine call_bwV (k2 _ _ (k1' _ _ hC0)) (k2 _ _ hx1) hu2 (by show 1 ≤ sizeLine; rw [sizeLine_eq]; omega) (fun h3 t3 k3 hx3 => ?_)
  have k03 : ∀ b o, b ≠ a → h0.get? b = some o → h3.get? b = some o := fun b o n e => k3 b o n (k2 _ _ (k1' _ _ e))
  have X3 : K.In h3 := fun b o e => k03 b o (fun z => by
    have h4 := e0.mod.kin b o e
    have h5 := (e0.bs b o h4).2
    rw [z, ha] at h5
    cases h5) (X0 b o e)
  have hns3 : h3.Ns hp0.objs.size (fun x => (([ar.arg, p1].zip [Value.ref a, u]).reverse).lookup x) := by
    obtain ⟨oL, es, ep, hL, r⟩ := hns0
    exact ⟨oL, es, ep, k03 _ _ hLa hL, r⟩
  refine ks_wpAt_execs_cons (ks_wpAt_Assign_Attr (wpAt_of_wpAny ?_) rfl)
  refine wpAny_Name (wpAny_loadName_local hk hk1 hns3 l1 ?_) S.d1
  refine wpAny_Name (wpAny_loadName_local hk hk0 hns3 l0 ?_) S.d0
  refine W.set_plain X3 (ox := HandSPX.excO C t3) (od := none) ⟨hx3, rfl, rfl, trivial⟩ T.sa ?_
  refine HandSPX.exc_osa X3 hx3 hcl (show HandSPX.refsVE (.ref C :: bm) = true from hbm) rfl S.no (fun h4 tk' dx k4 dn dne hx4 hn4 => ?_)
  refine wpAt_of_wpAny (wpAny_execs_nil ?_)
  have kk : ∀ b o, b ≠ a → hp0.get? b = some o → h4.get? b = some o := fun b o n e => k4 b o n (k03 b o n (kp b o e))
  have dn' : hp0.get? dx = none := by
    cases e : hp0.get? dx with
    | none => rfl
    | some o =>
      have := Heap.lt_size (k03 dx o dne (kp dx o e))
      exact absurd (Nat.lt_of_lt_of_le this dn) (Nat.lt_irrefl _)
  exact init_ce e0 ha kk dn' dne hx4 hn4 rfl rfl ry (hq dx (e0.hok.gone dn') dne)
end Z
end
section
set_option Elab.async false
set_option linter.all false
set_option maxRecDepth 100000
set_option maxHeartbeats 4000000
set_option autoImplicit false
/-! The suite that looks at what was raised. -/
namespace Z
open PySem PySem.Spec PyProof.Rows L2
variable {K : PySem.W.Frag} {w : World} {as as' as'' F F2 : List Addr} {H H₀ H' H'' : Hp} {M M' : Mem} {v : V} {vs : List V} {d : D} {ds : List D} {σ σ1 : L2.St} {env env1 : Z.Env}
/-- what the text says of a caught exception's class -/
structure ExcX (K : PySem.W.Frag) (D : Addr) : Prop where
  hcl : (PySem.W.clsIn K D).isSome = true
  hga : PySem.W.findIn K (.ref D) "__getattribute__" = some (some (.builtin "BaseException.__getattribute__"))
  hgt : PySem.W.findIn K (.ref D) "__getattr__" = some none
  hsub : PySem.W.subIn K (.ref D) (.type "BaseException") = some true
  ha : PySem.W.findIn K (.ref D) "__class__" = some (some (.builtin "object.__class__"))
  hn : PySem.W.specialIn K (.builtin "object.__class__") "__get__" = some (some (.builtin "getset_descriptor.__get__"))
  htk : PySem.W.takesIn K (.builtin "object.__class__") = some true
  hm : PySem.W.mroIn K D (.type "object") = some true
  xf : XfC K D
def DictAt (d : Option Addr) (H : Hp) : Prop := ∃ (dd : Addr) (fs : List (Str × V)), d = some dd ∧ H dd = some (.xd fs)
section
variable {X : Cx} {a D : Addr} {oe : Obj} {od : Option Addr} {pn : List (Addr × Obj)} {e : Expr} {pos p p1 p2 : Pos} {i : Nat} {n x : Str} {b : Bool}
theorem inst_at {pins : List (Addr × Obj)} {s : Shared} (I : Inv (X.suite a ((a, oe) :: pn)) pins σ H s) (hz : Zc (.ref D) od oe) (hf : ∃ vs, oe.data = .fields vs) (hd : DictAt od H) : ∃ o, PySem.W.InstAt s.heap a oe D (some o) := by
  obtain ⟨dd, fs, ed, ea⟩ := hd
  subst ed
  obtain ⟨ha, _⟩ := I.pin (a, oe) (List.mem_append_left _ List.mem_cons_self)
  obtain ⟨vs, hv⟩ := hf
  obtain ⟨o, ho⟩ := objOk_get (I.hok dd _ ea)
  exact ⟨o, ha, hz.1, by unfold PySem.W.notCls; rw [hv] <;> rfl, by rw [hz.2]; exact ho⟩
/-- isinstance(e, C), e the exception that the suite holds -/
def rIsE1 (K : PySem.W.Frag) (D a : Addr) (od : Option Addr) (c : V) (b : Bool) : List V → Hp → VK → Prop := fun xs H Q => xs = [.ref a, c] ∧ DictAt od H ∧ Q (.bl b) H
theorem call_isE1 {c : V} {cv : Value} (T : ExcX X.K D) (hz : Zc (.ref D) od oe) (hf : ∃ vs, oe.data = .fields vs) (hc : ∀ u, RelV c u → u = cv) (hk : PySem.W.kitOne X.K (.ref D) cv = some b) : CallR (X.suite a ((a, oe) :: pn)) (.builtin "isinstance") (rIsE1 X.K D a od c b) := by
  intro pins s σ H xs us Q I r ⟨e, hd, q⟩
  subst e
  cases r with
  | cons rx rr =>
    cases rr with
    | cons rt rr =>
      cases rr
      cases rx
      have ec := hc _ rt
      subst ec
      obtain ⟨o, J⟩ := inst_at I hz hf hd
      exact PySem.W.kia_one (PySem.W.kitx_exc T.hcl T.hga T.hgt T.hsub T.ha T.hn T.htk T.hm) I.kIn J hk (fun z => nomatch z) fun tk => ⟨.bl b, H, I.kept (t' := tk) fun _ _ z => z, rfl, q⟩
def rIsEN (K : PySem.W.Frag) (D a : Addr) (od : Option Addr) (vs : List V) (b : Bool) : List V → Hp → VK → Prop := fun xs H Q => ∃ tp, xs = [.ref a, .ref tp] ∧ H tp = some (.tup vs) ∧ DictAt od H ∧ Q (.bl b) H
theorem call_isEN {vs : List V} {ws : List Value} (T : ExcX X.K D) (hz : Zc (.ref D) od oe) (hf : ∃ vs, oe.data = .fields vs) (hc : ∀ us, Vals vs us → us = ws) (hk : PySem.W.kitAny X.K (.ref D) ws = some b) : CallR (X.suite a ((a, oe) :: pn)) (.builtin "isinstance") (rIsEN X.K D a od vs b) := by
  intro pins s σ H xs us Q I r ⟨tp, e, ht, hd, q⟩
  subst e
  cases r with
  | cons rx rr =>
    cases rr with
    | cons rt rr =>
      cases rr
      cases rx
      cases rt
      obtain ⟨o, J⟩ := inst_at I hz hf hd
      obtain ⟨_, its, rv, ob, h1, h2, m, h3⟩ := (show ObjOk X.prog X.w H s.heap tp (.tup vs) from I.hok tp _ ht)
      have e3 := hc _ rv
      subst e3
      obtain ⟨oc, odd, dt, sl⟩ := ob
      simp only at h2 h3
      subst h2 h3
      exact PySem.W.kia_tup (PySem.W.kitx_exc T.hcl T.hga T.hgt T.hsub T.ha T.hn T.htk T.hm) I.kIn J h1 hk (fun z => nomatch z) fun tk => ⟨.bl b, H, I.kept (t' := tk) fun _ _ z => z, rfl, q⟩
end
end Z
end
section
set_option Elab.async false
set_option linter.all false
set_option maxRecDepth 100000
set_option maxHeartbeats 4000000
set_option autoImplicit false
/-! The suite that looks at what was raised: its statements. -/
namespace Z
open PySem PySem.Spec PyProof.Rows L2
variable {K : PySem.W.Frag} {w : World} {as as' as'' F F2 : List Addr} {H H₀ H' H'' : Hp} {M M' : Mem} {v : V} {vs : List V} {d : D} {ds : List D} {σ σ1 : L2.St} {env env1 : Z.Env}
/-- the promise of a def that tells whether two whole numbers are equal -/
def spSame : Sp := fun vs H Q E => ∃ x y : Int, vs = [.int x, .int y] ∧ ∀ H', (∀ b o, H b = some o → H' b = some o) → Q (.bl (decide (x = y))) H'
/-- what the text says of the classes, of the def that compares -/
structure TryF (K : PySem.W.Frag) (mg : Str → Option Value) (D f N1 N2 N3 T : Str) : Prop where
  mD : mg D = some (.ref (He.ga K D))
  m1 : mg N1 = some (.ref (He.ga K N1))
  m2 : mg N2 = some (.ref (He.ga K N2))
  m3 : mg N3 = some (.ref (He.ga K N3))
  mT : mg T = some (.ref (He.ga K T))
  mV : mg "ValueError" = none
  mI : mg "isinstance" = none
  ex : ExcX K (He.ga K D)
  no : PySem.W.findIn K (.ref (He.ga K D)) f = some none
  kN : PySem.W.kitAny K (.ref (He.ga K D)) [.ref (He.ga K N1), .ref (He.ga K N2), .ref (He.ga K N3)] = some false
  kT : PySem.W.kitOne K (.ref (He.ga K D)) (.ref (He.ga K T)) = some true
  kV : PySem.W.kitOne K (.ref (He.ga K D)) (.type "ValueError") = some true
  xm : PySem.W.exmOne K (.ref (He.ga K D)) (.ref (He.ga K D)) = some true
/-- names that are slots, names that are the module's -/
structure Slt (X : Cx) (x : Str) (i : Nat) : Prop where
  at_ : X.N[i]? = some x
  vis : Vis X.env.scope x
  d1 : (x == ("__debug__" : Str)) = false
  d2 : (x == ("__classdict__" : Str)) = false
structure Glb (X : Cx) (x : Str) : Prop where
  gl : Gl X x
  d : (x == ("__debug__" : Str)) = false
section
variable {X : Cx} {a : Addr} {oe : Obj} {od : Option Addr} {pn : List (Addr × Obj)} {e : Expr} {pos p p0 p1 p2 p3 p4 p5 p6 : Pos} {i : Nat} {n x : Str} {b : Bool} {D f N1 N2 N3 T : Str}
theorem vals_cls {K : PySem.W.Frag} {l : List Addr} : ∀ us, Vals (l.map V.ref) us → us = l.map Value.ref := by
  induction l with
  | nil =>
    intro us h
    cases h
    rfl
  | cons a l ih =>
    intro us h
    cases h with
    | cons h t =>
      cases h
      rw [ih _ t]
      rfl
abbrev XS (X : Cx) (a : Addr) (oe : Obj) (pn : List (Addr × Obj)) : Cx := X.suite a ((a, oe) :: pn)
theorem h_name (S : Slt X n i) : PE (XS X a oe pn) (.Name n p) (tVar i) := pe_var (X := XS X a oe pn) S.at_ S.vis S.d1 S.d2
theorem h_cls (G : Glb X x) {A : Addr} (hm : X.mg x = some (.ref A)) : PE (XS X a oe pn) (.Name x p) (tC (.ref A)) := pe_glob (X := XS X a oe pn) G.gl hm rfl G.d
/-- isinstance(e, (N1, N2, N3)) -/
theorem h_isN (F : TryF X.K X.mg D f N1 N2 N3 T) (hz : Zc (.ref (He.ga X.K D)) od oe) (hf : ∃ vs, oe.data = .fields vs) (S : Slt X n i) (gI : Glb X "isinstance") (g1 : Glb X N1) (g2 : Glb X N2) (g3 : Glb X N3) {k : Nat} :
    PE (XS X a oe pn) (.Call (.Name "isinstance" p) [.Name n p0, .Tuple [.Name N1 p1, .Name N2 p2, .Name N3 p3] k p4] [] pos) (fun σ H Q => σ[i]? = some (some (.ref a)) ∧ DictAt od H ∧ ∀ H', (∀ b o, H b = some o → H' b = some o) → Q (.bl false) H') := by
  have cr := call_isEN (X := X) (a := a) (oe := oe) (pn := pn) (vs := [V.ref (He.ga X.K N1), V.ref (He.ga X.K N2), V.ref (He.ga X.K N3)]) F.ex hz hf (fun us h => vals_cls (K := X.K) (l := [He.ga X.K N1, He.ga X.K N2, He.ga X.K N3]) us h) F.kN
  have pa : PA (XS X a oe pn) [.Name n p0, .Tuple [.Name N1 p1, .Name N2 p2, .Name N3 p3] k p4] _ :=
    pa_cons (h_name S) (pa_cons (pe_tup (pa_cons (h_cls g1 F.m1) (pa_cons (h_cls g2 F.m2) (pa_cons (h_cls g3 F.m3) pa_nil rfl) rfl) rfl)) pa_nil rfl) rfl
  refine PE.imp (pe_callB (X := XS X a oe pn) cr gI.gl F.mI (by decide +kernel) pa (by decide) gI.d rfl rfl) fun σ H Q ⟨h1, h2, h3⟩ => ?_
  refine ⟨_, h1, ?_⟩
  refine ⟨by show 3 ≤ sizeLine; rw [sizeLine_eq]; omega, fun q hq => ⟨q, rfl, upd_same, ?_, h3 _ fun b o z => ?_⟩⟩
  · obtain ⟨dd, fs, e1, e2⟩ := h2
    exact ⟨dd, fs, e1, by rw [upd_ne (ne_of_none e2 hq)]; exact e2⟩
  · rw [upd_ne (ne_of_none z hq)]
    exact z
/-- isinstance(e, T) -/
theorem h_is1 (F : TryF X.K X.mg D f N1 N2 N3 T) (hz : Zc (.ref (He.ga X.K D)) od oe) (hf : ∃ vs, oe.data = .fields vs) (S : Slt X n i) (gI : Glb X "isinstance") (gT : Glb X T) :
    PE (XS X a oe pn) (.Call (.Name "isinstance" p) [.Name n p0, .Name T p1] [] pos) (fun σ H Q => σ[i]? = some (some (.ref a)) ∧ DictAt od H ∧ Q (.bl true) H) := by
  have cr := call_isE1 (X := X) (a := a) (oe := oe) (pn := pn) (c := V.ref (He.ga X.K T)) (cv := .ref (He.ga X.K T)) F.ex hz hf (fun u h => h) F.kT
  have pa : PA (XS X a oe pn) [.Name n p0, .Name T p1] _ := pa_cons (h_name S) (pa_cons (h_cls gT F.mT) pa_nil rfl) rfl
  exact PE.imp (pe_callB (X := XS X a oe pn) cr gI.gl F.mI (by decide +kernel) pa (by decide) gI.d rfl rfl) fun σ H Q ⟨h1, h2, h3⟩ => ⟨_, h1, rfl, h2, h3⟩
theorem h_isV (F : TryF X.K X.mg D f N1 N2 N3 T) (hz : Zc (.ref (He.ga X.K D)) od oe) (hf : ∃ vs, oe.data = .fields vs) (S : Slt X n i) (gI : Glb X "isinstance") (gV : Glb X "ValueError") :
    PE (XS X a oe pn) (.Call (.Name "isinstance" p) [.Name n p0, .Name "ValueError" p1] [] pos) (fun σ H Q => σ[i]? = some (some (.ref a)) ∧ DictAt od H ∧ Q (.bl true) H) := by
  have cr := call_isE1 (X := X) (a := a) (oe := oe) (pn := pn) (c := V.ty "ValueError") (cv := .type "ValueError") F.ex hz hf (fun u h => by cases h; rfl) F.kV
  have pv : PE (XS X a oe pn) (.Name "ValueError" p1) (tC (.ty "ValueError")) := pe_bltn (X := XS X a oe pn) gV.gl F.mV (by boot_by_name) rfl (by decide) (by decide)
  have pa : PA (XS X a oe pn) [.Name n p0, .Name "ValueError" p1] _ := pa_cons (h_name S) (pa_cons pv pa_nil rfl) rfl
  exact PE.imp (pe_callB (X := XS X a oe pn) cr gI.gl F.mI (by decide +kernel) pa (by decide) gI.d rfl rfl) fun σ H Q ⟨h1, h2, h3⟩ => ⟨_, h1, rfl, h2, h3⟩
/-- same(e.f, y) -/
theorem h_same {sm sp : Str} {j k : Nat} {fa : Addr} {fd : FuncData} {ps : List Str} (F : TryF X.K X.mg D f N1 N2 N3 T) (hz : L2N.Zn (.ref (He.ga X.K D)) od oe) (hf : ∃ vs, oe.data = .fields vs) (S : Slt X n i) (S2 : Slt X sp j) (gS : Glb X sm)
    (hm : X.mg sm = some (.ref fa)) (hk : PySem.W.keepIn X.K (.ref fa) = true) (hb : Binds X.K fd ps []) (Fh : L2H.FnH X.prog X.w X.K X.mg X.base (L2N.CX X.prog X.w) k fa fd ps spSame) (hr : Room k X.A) :
    PE (XS X a oe pn) (.Call (.Name sm p) [.Attribute (.Name n p0) f p1, .Name sp p2] [] pos) (fun σ H Q => σ[i]? = some (some (.ref a)) ∧ ∃ (dd : Addr) (fs : List (Str × V)) (x y : Int), od = some dd ∧ H dd = some (.xd fs) ∧ fs.lookup f = some (.int x) ∧ σ[j]? = some (some (.int y)) ∧ ∀ H', (∀ b o, H b = some o → H' b = some o) → Q (.bl (decide (x = y))) H') := by
  have px : PE (XS X a oe pn) (.Attribute (.Name n p0) f p1) (tXf a (.ref (He.ga X.K D)) od (He.ga X.K D) f (tVar i)) := pe_xf (X := X) F.ex.xf F.no hz.zc hf (h_name S) rfl
  have pa : PA (XS X a oe pn) [.Attribute (.Name n p0) f p1, .Name sp p2] _ := pa_cons px (pa_cons (h_name S2) pa_nil rfl) rfl
  have hot : L2H.HotC (XS X a oe pn) := by
    obtain ⟨vs, hv⟩ := hf
    exact ⟨(a, oe), ⟨rfl, vs, hv, hz.2.2 vs hv⟩, List.mem_cons_self⟩
  refine PE.imp (L2H.pe_callH (X := XS X a oe pn) (E := fun _ _ _ _ => False) Fh (L2H.roomH_mark hr _) hot gS.gl hm hk hb (fun σ pins H s e s' I c => ?_) pa gS.d rfl rfl) fun σ H Q ⟨h1, dd, fs, x, y, h2, h3, h4, h5, h6⟩ => ?_
  · obtain ⟨_, _, _, _, _, _, _, _, _, _, _, _, z⟩ := c
    exact z.elim
  · exact ⟨_, h1, rfl, rfl, dd, fs, .int x, h2, h3, h4, .int y, h5, x, y, rfl, h6⟩
end
end Z
end
section
set_option Elab.async false
set_option linter.all false
set_option maxRecDepth 100000
set_option maxHeartbeats 4000000
set_option autoImplicit false
/-! try: the statement. -/
namespace Z
open PySem PySem.Spec PyProof.Rows L2
variable {K : PySem.W.Frag} {w : World} {as as' as'' F F2 : List Addr} {H H₀ H' H'' : Hp} {M M' : Mem} {v : V} {vs : List V} {d : D} {ds : List D} {σ σ1 : L2.St} {env env1 : Z.Env}
section
variable {X : Cx} {g : G} {W : WX} {a : Addr} {oe : Obj} {od : Option Addr} {pn : List (Addr × Obj)} {e : Expr} {pos p p0 p1 p2 p3 p4 p5 p6 p7 p8 p9 pa pb pr pc pd pe pf pg ph : Pos} {i j io : Nat} {n x o sm sp : Str} {b : Bool} {D f N1 N2 N3 T : Str} {css : Ss} {kt : Nat} {fl : Fl}
/-- the suite: other = isinstance(e, (..)); return same(e.f, y) and isinstance(e, T) and isinstance(e, ValueError) and not other -/
abbrev suiteOf (o n sm f sp N1 N2 N3 T : Str) (p p0 p1 p2 p3 p4 p5 p6 p7 p8 p9 pa pb pr pc pd pe pf pg ph po pq : Pos) (kt : Nat) : List Stmt :=
  [.Assign [.Name o p] (.Call (.Name "isinstance" p0) [.Name n p1, .Tuple [.Name N1 p2, .Name N2 p3, .Name N3 p4] kt p5] [] p6) p7,
   .Return (some (.BoolOp .And [.Call (.Name sm p8) [.Attribute (.Name n p9) f pa, .Name sp pb] [] pc, .Call (.Name "isinstance" pd) [.Name n pe, .Name T pf] [] pg, .Call (.Name "isinstance" ph) [.Name n po, .Name "ValueError" pq] [] pr, .UnaryOp .Not (.Name o p) p0] p1)) p2]
theorem h_suite {stA stR : Stmt} {eA eB eC e0 : Expr} {q1 q2 q3 q4 q5 : Pos}
    (hA : stA = .Assign [.Name o q1] e0 q2) (hR : stR = .Return (some (.BoolOp .And [eA, eB, eC, .UnaryOp .Not (.Name o q3) q4] q5)) p9)
    (nd : X.N.Nodup) (So : Slt X o io) (lo : Loc X.env.scope o) (fo : X.fn o = true ∨ X.env.scope.names.lookup o = some .local) (Sn : Slt X n i) (Ss_ : Slt X sp j) (hoi : io ≠ i) (hoj : io ≠ j) (hsw : swapsWith e0 (some (.Name o q1)) q2.line X.env = pure false)
    {cls : Value} (h0 : cls = .ref (He.ga X.K D) → PE (XS X a oe pn) e0 (fun σ H Q => σ[i]? = some (some (.ref a)) ∧ DictAt od H ∧ ∀ H', (∀ b o, H b = some o → H' b = some o) → Q (.bl false) H'))
    (h1 : cls = .ref (He.ga X.K D) → PE (XS X a oe pn) eA (fun σ H Q => σ[i]? = some (some (.ref a)) ∧ ∃ (dd : Addr) (fs : List (Str × V)) (x y : Int), od = some dd ∧ H dd = some (.xd fs) ∧ fs.lookup f = some (.int x) ∧ σ[j]? = some (some (.int y)) ∧ ∀ H', (∀ b o, H b = some o → H' b = some o) → Q (.bl (decide (x = y))) H'))
    (h2 : cls = .ref (He.ga X.K D) → PE (XS X a oe pn) eB (fun σ H Q => σ[i]? = some (some (.ref a)) ∧ DictAt od H ∧ Q (.bl true) H))
    (h3 : cls = .ref (He.ga X.K D) → PE (XS X a oe pn) eC (fun σ H Q => σ[i]? = some (some (.ref a)) ∧ DictAt od H ∧ Q (.bl true) H)) :
    PSs (XS X a oe pn) [stA, stR] (fun De σ H => cls = .ref (He.ga X.K D) ∧ (∃ σ0 : L2.St, σ = σ0.set i (some (.ref a))) ∧ ∃ (dd : Addr) (fs : List (Str × V)) (x y : Int), od = some dd ∧ H dd = some (.xd fs) ∧ fs.lookup f = some (.int x) ∧ σ[j]? = some (some (.int y)) ∧
      ∀ H', (∀ b o, H b = some o → H' b = some o) → De.rt (.bl (decide (x = y))) H') := by
  subst hA hR
  refine ⟨fun pins s σ H De I ⟨hc, ⟨σ0, e1⟩, dd, fs, x, y, e2, e3, e4, e5, hq⟩ => ?_⟩
  have hlen : σ.length = X.N.length := I.len
  have hil : i < σ.length := by
    rw [hlen]
    exact (List.getElem?_eq_some_iff.mp Sn.at_).1
  have hio : io < σ.length := by
    rw [hlen]
    exact (List.getElem?_eq_some_iff.mp So.at_).1
  have e6 : σ[i]? = some (some (.ref a)) := by
    have hl2 : i < σ0.length := by rw [e1, List.length_set] at hil; exact hil
    rw [e1, List.getElem?_set_self hl2]
  have g6 : (σ.set io (some (.bl false)))[i]? = some (some (.ref a)) := by rw [List.getElem?_set_ne hoi]; exact e6
  have g5 : (σ.set io (some (.bl false)))[j]? = some (some (.int y)) := by rw [List.getElem?_set_ne hoj]; exact e5
  have g7 : (σ.set io (some (.bl false)))[io]? = some (some (.bl false)) := List.getElem?_set_self hio
  have s1 := ps_set (X := XS X a oe pn) (i := io) (x := o) (pos' := q1) (pos := q2) nd So.at_ lo (h0 hc) hsw fo
  have s2 := ps_ret (X := XS X a oe pn) (pos := p9) (pe_and (pos := q5) (h1 hc) (pe_and (h2 hc) (pe_and (h3 hc) (pe_one (op := .And) (pos := q5) (pe_not (pos := q4) (h_name (X := X) (a := a) (oe := oe) (pn := pn) (p := q3) So))))))
  refine (pss_cons s1 (pss_cons s2 pss_nil)).run pins s σ H De I ?_
  refine ⟨e6, ⟨dd, fs, e2, e3⟩, fun H' k => ?_⟩
  have e3' := k _ _ e3
  refine ⟨g6, dd, fs, x, y, e2, e3', e4, g5, fun H2 k2 => ⟨decide (x = y), rfl, ?_⟩⟩
  have e3' := k2 _ _ e3'
  have hq : ∀ H', (∀ b o, H2 b = some o → H' b = some o) → De.rt (.bl (decide (x = y))) H' := fun H' k3 => hq H' fun b o z => k3 b o (k2 b o (k b o z))
  cases hxy : decide (x = y) with
  | false =>
    rw [if_neg Bool.false_ne_true]
    have := hq H2 fun b o z => z
    rw [hxy] at this
    exact this
  | true =>
    rw [if_pos rfl]
    refine ⟨g6, ⟨dd, fs, e2, e3'⟩, true, rfl, ?_⟩
    rw [if_pos rfl]
    refine ⟨g6, ⟨dd, fs, e2, e3'⟩, true, rfl, ?_⟩
    rw [if_pos rfl]
    refine ⟨_, g7, false, rfl, ?_⟩
    have := hq H2 fun b o z => z
    rw [hxy] at this
    exact this
/-- try: .. except D as n: such a suite -/
theorem s_try {body : List Stmt} {np pos' : Pos} {b0 : Stmt} {suite : List Stmt} (hc : g.calm = true → X.calm = true) (hs : X.stack = X.env :: X.outer) (hf : X.env.frame = some X.env.locals) (nd : X.N.Nodup) (hi : X.N[i]? = some n) (hln : X.env.scope.names.lookup n = some .local) (gD : Glb X D)
    (mD : X.mg D = some (.ref (He.ga X.K D))) (xm : PySem.W.exmOne X.K (.ref (He.ga X.K D)) (.ref (He.ga X.K D)) = some true) (hij : i ≠ j) (tk : L2N.Takes X W)
    (hb : ∀ (W' : WX) (pn : List (Addr × Obj)) (xe : Value → Shared → Prop), L2N.Takes (X.tr pn xe) W' → PassesOwn (model X.prog X.w) X.A X.env xe → PSs (X.tr pn xe) body (tSs (X.tr pn xe) g W' css))
    (hsu : ∀ (a : Addr) (oe : Obj) (cls : Value) (d : Option Addr) (pn : List (Addr × Obj)), L2N.Zn cls d oe → (∃ vs, oe.data = .fields vs) → PSs (XS X a oe pn) (b0 :: suite) (fun De σ H => cls = .ref (He.ga X.K D) ∧ (∃ σ0 : L2.St, σ = σ0.set i (some (.ref a))) ∧
      ∃ (dd : Addr) (fs : List (Str × V)) (x y : Int), d = some dd ∧ H dd = some (.xd fs) ∧ fs.lookup f = some (.int x) ∧ σ[j]? = some (some (.int y)) ∧ ∀ H', (∀ b o, H b = some o → H' b = some o) → De.rt (.bl (decide (x = y))) H')) :
    PS X (.Try body [.ExceptHandler (some (.Name D np)) (some n) (b0 :: suite) pos'] [] [] pos) (tS X g W (.tryS css D f j)) := by
  have nm : Names X D (.ref (He.ga X.K D)) := ⟨gD.gl, gD.d, .inl mD⟩
  refine PS.imp (L2N.ps_try_as (i := i) (x := D) (np := np) (pos' := pos') (pos := pos) hs hf nd hi hln nm tk (tb := fun W' => tSs X g W' css) (fun W' pn xe h1 h2 => hb W' pn xe h1 h2) hsu) fun De σ H ⟨as, F, M, env, fl, hE, hM, ex, pf⟩ => ?_
  unfold exS at ex
  have hh := oi ex
  clear ex
  obtain ⟨h0, ex⟩ := hh
  split at ex
  · rename_i env1 c1 q M1 e1
    have hh := op ex
    clear ex
    obtain ⟨h1, ex⟩ := hh
    subst h1
    split at ex
    · rename_i x y e2 e3
      cases ex
      refine ⟨as, F, M, env, _, hE, hM, e1, fun as' H' σ' cls dx L hE' hM' hx => ⟨true, ?_, fun _ a ha => ?_, fun z => (by cases z)⟩⟩
      · obtain ⟨z1, z2, z3, z4, z5, z6⟩ := hx
        rw [mD] at z3
        cases z3
        rw [z1]
        exact xm
      · obtain ⟨z1, z2, z3, z4, z5, z6⟩ := hx
        rw [mD] at z3
        cases z3
        obtain ⟨v, e4, hv⟩ := (Reps.field z5 z6).1 e2
        cases hv
        obtain ⟨v, e5, hv⟩ := hE'.at_ j _ e3
        cases hv
        refine ⟨z1, ⟨σ', rfl⟩, _, _, x, y, z2, z4, e4, by rw [List.getElem?_set_ne hij]; exact e5, fun H'' k => ?_⟩
        obtain ⟨L2', hM2⟩ := hM'.more k
        exact pf as' H'' _ (L.trans L2') hM2 (.val (.bl _))
    · cases ex
  · rename_i fl1 hne
    refine ⟨as, F, M, env, fl, hE, hM, ex, ?_⟩
    cases fl with
    | nx => exact pf
    | bk => exact pf
    | ct => exact pf
    | rt => exact pf
    | ex env1 c1 q M1 => exact absurd ex (hne env1 c1 q M1)
end
end Z
end
section
set_option Elab.async false
set_option linter.all false
set_option maxRecDepth 100000
set_option maxHeartbeats 4000000
set_option autoImplicit false
/-! Statements: the induction. -/
namespace Z
open PySem PySem.Spec PyProof.Rows L2
section
variable {X : Cx} {g : G} {W : WX} {c : Ctx} {e a b : Expr} {es : List Expr} {ce ca cb : E} {ces : Es} {pos : Pos} {n : Nat} {x : Str} {fl : Fl} {De De' : Ends} {st : Stmt} {sts : List Stmt} {cs : S} {css : Ss}
theorem nott {b : Bool} (h : (!b) = true) : b = false := by cases b <;> first | rfl | cases h
theorem ss_other {ts : List Expr} {k : Nat} {p : Pos} {env : PySem.Env} (h : isTup e = false) : swappedStores [.Tuple ts k p] e env = pure none := by
  cases e <;> first
    | rfl
    | (cases h; done)
theorem asg_sub {o i : Expr} {p : Pos} {n : Nat} {ci : E} {env : PySem.Env} (h : cE n c i = some ci) : ∀ v, assign (.Subscript o i p) env v = (do
      let ov ← holding [v] (eval o env)
      let iv ← holding [v, ov] (eval i env)
      standAt p
      holding [v, ov, iv] (setItem ov iv v)
      release [v, ov, iv] []) := by
  obtain ⟨k, c1, h1⟩ := cE_e1 h
  intro v
  cases i <;> first
    | rfl
    | exact (e1_slice h1).elim
theorem ss_two {x y : Str} {a b : Expr} {px py pt : Pos} {kt k2 : Nat} {pt2 : Pos} {env : PySem.Env} (hk : env.scope.kind = .function) (hx : env.scope.names.lookup x = some .local) (hy : env.scope.names.lookup y = some .local) (hl : (px.line == py.line) = true) (hxy : (x == y) = false)
    (na : NS a) (nb : NS b) (h1 : [a, b].all (foldedForSure 8) = false) (h2 : [a, b].all (constantsAlone 8) = false) : swappedStores [.Tuple [.Name x px, .Name y py] kt pt] (.Tuple [a, b] k2 pt2) env = pure (some [x, y]) := by
  have kx : env.kindOf x = some .local := hx
  have ky : env.kindOf y = some .local := hy
  have hb : env.blockKind = .function := by
    unfold Env.blockKind
    rw [hk]
    rfl
  have hl' : (py.line == px.line) = true := by
    have := eq_of_beq hl
    rw [this]
    exact beq_self_eq_true _
  have hll : (px.line == px.line) = true := beq_self_eq_true _
  have hyx : (y == x) = false := by
    have h := beq_eq_false_iff_ne.mp hxy
    exact beq_eq_false_iff_ne.mpr (Ne.symm h)
  unfold swappedStores
  simp only [hb]
  rw [if_neg (by simp), if_neg (fun hq => by
    simp only [List.any_cons, List.any_nil, Bool.or_false, Bool.or_eq_true] at hq
    rcases hq with hq | hq
    · cases a <;> first
        | (cases hq; done)
        | exact na _ _ rfl
    · cases b <;> first
        | (cases hq; done)
        | exact nb _ _ rfl)]
  simp only [List.filterMap_cons, List.filterMap_nil, List.head?_cons, Option.map_some, Option.getD_some, Expr.pos, kx, ky, hl', hll, h1, h2, List.length_cons, List.length_nil]
  have hd : [x, y].eraseDups = [x, y] := by
    rw [List.eraseDups_cons, show List.filter (fun b => !b == x) [y] = [y] by simp [hyx], List.eraseDups_cons]
    simp
  simp [hd]
theorem hasF_ok {C f : Str} (h : hasF c C f = true) : ∃ fl ms, c.gl.lookup C = some (.cls fl ms) ∧ f ∈ fl := by
  unfold hasF at h
  split at h
  · rename_i fl ms h1
    exact ⟨fl, ms, h1, List.contains_iff_mem.mp h⟩
  · cases h
/-- what is known of a text with such a try -/
structure TryAll (prog : Program) (w : World) (K : PySem.W.Frag) (mg : Str → Option Value) (base : Heap) : Prop where
  f : TryF K mg "BadText" "spot" "NoMap" "NoExchange" "NoGroup" "TowerError"
  same : ∃ (fa : Addr) (fd : FuncData) (ps : List Str), mg "_law_same" = some (.ref fa) ∧ PySem.W.keepIn K (.ref fa) = true ∧ Binds K fd ps [] ∧ L2H.FnH prog w K mg base (L2N.CX prog w) 3 fa fd ps spSame
/-- what a context must have, for statements too -/
structure OkS (X : Cx) (c : Ctx) (g : G) (W : WX) : Prop extends OkC X c g W where
  hp : PassesOwn (model X.prog X.w) X.A X.env X.xe
  kind : X.env.scope.kind = .function
  stk : X.stack = X.env :: X.outer
  frm : X.env.frame = some X.env.locals
  tr : g.calm = true → c.gl.lookup ("_law_refused" : Str) = some .fn → TryAll X.prog X.w X.K X.mg X.base
theorem glb_ok (O : OkC X c g W) {x : Str} (h : (isGl c.sc x && notDebug x) = true) : Glb X x := ⟨gl_ok O (band h).1, (dbg_ok (band h).2).1⟩
theorem slt_ok (O : OkC X c g W) {x : Str} {i : Nat} (h : slot c x = some i) : Slt X x i := by
  unfold slot at h
  obtain ⟨h2, h3⟩ := oi h
  have h4 := band h2
  obtain ⟨h5, h6⟩ := dbg_ok h4.2
  have vis := vis_ok h4.1
  rw [← O.sc] at vis
  exact ⟨by rw [O.N]; exact idx_get h3, vis, h5, h6⟩
theorem slt_loc (O : OkC X c g W) {x : Str} {i : Nat} (h : slotL c x = some i) : Slt X x i := by
  have S := sto_ok O h
  unfold slotL at h
  obtain ⟨h1, _⟩ := oi h
  have h3 := band (show (isLoc c.sc x && _) = true from h1)
  obtain ⟨h5, h6⟩ := dbg_ok (band h3.2).1
  refine ⟨S.at_, ?_, h5, h6⟩
  rcases S.loc with q | q
  · exact .inl q
  · exact .inr (.inl q)
theorem slt_ne {x y : Str} {i j : Nat} (h1 : Slt X x i) (h2 : Slt X y j) (h : x ≠ y) : i ≠ j := fun z => by
  have e := h1.at_
  rw [z, h2.at_] at e
  cases e
  exact h rfl
theorem sw_call {f : Expr} {as_ : List Expr} {ks : List Keyword} {p : Pos} {tg : Option Expr} {l : Nat} {env : PySem.Env} : swapsWith (.Call f as_ ks p) tg l env = pure false := rfl
theorem try_ok {body : List Stmt} {Dn ne o o2 : Str} {e0 eA eB eC : Expr} {np q1 q2 q3 q4 q5 q6 q7 : Pos} {j : Nat} {cb : Ss} (O : OkS X c g W) (h : tryChk c Dn ne o o2 e0 eA eB eC = some j)
    (hb : ∀ (W' : WX) (pn : List (Addr × Obj)) (xe : Value → Shared → Prop), OkS (X.tr pn xe) c g W' → PSs (X.tr pn xe) body (tSs (X.tr pn xe) g W' cb)) :
    PS X (.Try body [.ExceptHandler (some (.Name Dn np)) (some ne) [.Assign [.Name o q1] e0 q2, .Return (some (.BoolOp .And [eA, eB, eC, .UnaryOp .Not (.Name o2 q3) q4] q5)) q6] q7] [] [] pos) (tS X g W (.tryS cb Dn "spot" j)) := by
  have O' := O.toOkC
  unfold tryChk at h
  split at h
  · rename_i is1 k0 e1 k1 n1 k2 n2 k3 n3 k4 kt k5 k6 sm k7 e2 k8 f k9 sp l0 l1 is2 l2 e3 l3 t l4 l5 is3 l6 e4 l7 v l8 l9
    have hh := op h
    clear h
    obtain ⟨⟨ha, hb1⟩, h⟩ := hh
    simp only [List.cons.injEq, and_true] at ha hb1
    obtain ⟨rfl, rfl, rfl, rfl, rfl, rfl, rfl, rfl⟩ := ha
    obtain ⟨rfl, rfl, rfl, rfl, rfl, rfl, rfl, rfl⟩ := hb1
    have hh := oi h
    clear h
    obtain ⟨h0, h⟩ := hh
    have b0 := band h0
    have b1 := band b0.2
    have b2 := band b1.2
    have b3 := band b2.2
    have b4 := band b3.2
    have b5 := band b4.2
    have gl : ∀ x ∈ (["isinstance", "NoMap", "NoExchange", "NoGroup", "TowerError", "ValueError", "BadText", "_law_same"] : List Str), Glb X x := fun x hx => glb_ok O' (List.all_eq_true.mp b0.1 x hx)
    have href : c.gl.lookup ("_law_refused" : Str) = some .fn := by
      have := b1.1
      split at this
      · rename_i e
        exact e
      · cases this
    split at h
    · rename_i io i j' e5 e6 e7
      cases h
      have So := slt_loc O' e5
      have Sto := sto_ok O' e5
      have Sp := slt_ok O' e7
      have hln : X.env.scope.names.lookup e4 = some .local := by rw [O'.sc]; exact of_decide_eq_true b2.1
      obtain ⟨d1, d2⟩ := dbg_ok b3.1
      have Sn : Slt X e4 i := ⟨by rw [O'.N]; exact idx_get e6, .inl hln, d1, d2⟩
      have hij := slt_ne Sn Sp (of_decide_eq_true b5.2)
      by_cases gc : g.calm = true
      · have TA := O.tr gc href
        obtain ⟨fa, fd, ps, s1, s2, s3, s4⟩ := TA.same
        have F := TA.f
        by_cases gr : 3 ≤ g.room
        · have rm := (O'.room gc).mono gr
          refine s_try O'.calm O.stk O.frm O'.nd Sn.at_ hln (gl "BadText" (by simp)) F.mD F.xm hij O'.tk (fun W' pn xe tk hp => ?_) fun a oe cls d pn hz hf => ?_
          · exact hb W' pn xe ⟨⟨O'.N, O'.nd, O'.sc, O'.st, O'.calm, tk, O'.room, O'.units, O'.gls, O'.fn, O'.atr, O'.own, O'.new, O'.exc⟩, hp, O.kind, O.stk, O.frm, O.tr⟩
          · refine h_suite (f := "spot") rfl rfl O'.nd So Sto.loc Sto.fn Sn Sp (slt_ne So Sn (of_decide_eq_true b4.1)) (slt_ne So Sp (of_decide_eq_true b5.1)) sw_call (fun hc => ?_) (fun hc => ?_) (fun hc => ?_) (fun hc => ?_)
            · subst hc
              exact h_isN F hz.zc hf Sn (gl "isinstance" (by simp)) (gl "NoMap" (by simp)) (gl "NoExchange" (by simp)) (gl "NoGroup" (by simp))
            · subst hc
              exact h_same F hz hf Sn Sp (gl "_law_same" (by simp)) s1 s2 s3 s4 rm
            · subst hc
              exact h_is1 F hz.zc hf Sn (gl "isinstance" (by simp)) (gl "TowerError" (by simp))
            · subst hc
              exact h_isV F hz.zc hf Sn (gl "isinstance" (by simp)) (gl "ValueError" (by simp))
        · exact ⟨fun pins s σ H De I ⟨as, F, M, env, fl, hE, hM, ex, pf⟩ => by
            unfold exS at ex
            rw [if_neg (by rw [decide_eq_false gr, Bool.and_false]; exact Bool.false_ne_true)] at ex
            cases ex⟩
      · exact ⟨fun pins s σ H De I ⟨as, F, M, env, fl, hE, hM, ex, pf⟩ => by
          unfold exS at ex
          rw [if_neg (fun z => gc (band z).1)] at ex
          cases ex⟩
    · cases h
  · cases h
theorem stmts (g : G) : ∀ n, (∀ (X : Cx) (c : Ctx) (W : WX), OkS X c g W → ∀ (st : Stmt) (cs : S), cS n c st = some cs → PS X st (tS X g W cs)) ∧ (∀ (X : Cx) (c : Ctx) (W : WX), OkS X c g W → ∀ (sts : List Stmt) (css : Ss), cSs n c sts = some css → PSs X sts (tSs X g W css)) := by
  intro n
  induction n with
  | zero => exact ⟨fun X c W O st cs h => (by unfold cS at h; cases h), fun X c W O st cs h => (by unfold cSs at h; cases h)⟩
  | succ n ihh =>
    have A := allOk g n
    refine ⟨fun X c W O st cs h => ?_, fun X c W O sts css h => ?_⟩ <;> have O' := O.toOkC <;> have ih := And.intro (ihh.1 X c W O) (ihh.2 X c W O)
    · unfold cS at h
      split at h
      · cases h
        exact s_skip ps_pass
      · cases h
        exact s_brk
      · cases h
        exact s_cont
      · cases h
        exact s_skip ps_doc
      · split at h
        · cases h
        · rename_i hl
          obtain ⟨ce, h1, rfl⟩ := om h
          exact s_expr (sw_no h1 (by simpa using hl) _) (A.e X c W _ _ O' h1).1
      · cases h
        exact s_retN
      · obtain ⟨ce, h1, rfl⟩ := om h
        exact s_ret (A.e X c W _ _ O' h1).1
      · split at h
        · rename_i e _ _ _ i ce h1 h2
          cases h
          by_cases hl : isLC e = true
          · cases e <;> first
              | (cases hl; done)
              | exact s_setLC O' h1 h2
          · exact s_set O' h1 (sw_no h2 (by simpa using hl) _) (A.e X c W _ _ O' h2).1
        · cases h
      · have hh := oi h
        clear h
        obtain ⟨h0, h⟩ := hh
        unfold par2 at h0
        split at h0
        · rename_i x px y py a b
          have b1 := band h0
          have b2 := band b1.2
          have b3 := band b2.2
          have b4 := band b3.2
          have b5 := band b4.2
          split at h
          · rename_i is ces h1 h2
            cases h
            have hx : X.env.scope.names.lookup x = some .local := by rw [O'.sc]; exact eq_of_beq b1.1
            have hy : X.env.scope.names.lookup y = some .local := by rw [O'.sc]; exact eq_of_beq b2.1
            have hne : (x == y) = false := by simpa using b4.1
            have ns := (cEs_ns h2).1
            unfold cNames at h1
            split at h1
            · rename_i i is' g1 g2
              cases h1
              unfold cNames at g2
              split at g2
              · rename_i j is2 g3 g4
                cases g2
                unfold cNames at g4
                cases g4
                exact s_par O' g1 g3 hx hy (beq_eq_false_iff_ne.mp hne) (ss_two O.kind hx hy b3.1 hne (ns a List.mem_cons_self) (ns b (List.mem_cons_of_mem _ List.mem_cons_self)) (nott b5.1) (nott b5.2)) (A.es X c W _ _ O' h2)
              · cases g2
            · cases h1
          · cases h
        · cases h0
      · obtain ⟨h0, h⟩ := oi h
        have b1 := band h0
        split at h
        · rename_i is ce h1 h2
          cases h
          exact s_asgT O' (of_decide_eq_true b1.1) h1 (sw_other _ (fun _ _ z => nomatch z) h2) (ss_other (by simpa using b1.2)) (A.e X c W _ _ O' h2).1
        · cases h
      · split at h
        · rename_i co ci ce h1 h2 h3
          cases h
          exact s_asgS (sw_other _ (fun _ _ z => nomatch z) h3) (A.e X c W _ _ O' h3).1 (A.e X c W _ _ O' h1).1 (A.e X c W _ _ O' h2).1 (asg_sub h2)
        · cases h
      · split at h
        · rename_i ct ca cb h1 h2 h3
          cases h
          exact s_if (A.e X c W _ _ O' h1).2 (ih.2 _ _ h2) (ih.2 _ _ h3)
        · cases h
      · split at h
        · rename_i ct cb h1 h2
          cases h
          exact s_whl O.hp (A.e X c W _ _ O' h1).2 (ih.2 _ _ h2)
        · cases h
      · split at h
        · rename_i i op ce h1 h2 h3
          cases h
          exact s_aug O' h1 h2 (A.e X c W _ _ O' h3).1
        · cases h
      · split at h
        · rename_i C _
          obtain ⟨h4, h⟩ := oi h
          split at h
          · rename_i op co ce h1 h2 h3
            cases h
            obtain ⟨fl, ms, h5, h6⟩ := hasF_ok h4
            obtain ⟨h7, h8⟩ := O'.atr C fl ms h5
            exact s_augA h7 (h8 _ h6) h1 (A.e X c W _ _ O' h2).1 (A.e X c W _ _ O' h3).1
          · cases h
        · cases h
      · split at h
        · rename_i C _
          obtain ⟨h4, h⟩ := oi h
          split at h
          · rename_i co ce h2 h3
            cases h
            obtain ⟨fl, ms, h5, h6⟩ := hasF_ok h4
            obtain ⟨h7, h8⟩ := O'.atr C fl ms h5
            exact s_asgA h7 (h8 _ h6) (sw_other _ (fun _ _ z => nomatch z) h3) (A.e X c W _ _ O' h2).1 (A.e X c W _ _ O' h3).1
          · cases h
        · cases h
      · obtain ⟨h0, h⟩ := oi h
        have b1 := band h0
        split at h
        · rename_i f ce h1 h2
          cases h
          exact s_raise O' (gl_ok O' b1.1) (dbg_ok b1.2).1 h1 (cE_ns h2) (A.e X c W _ _ O' h2).1
        · cases h
      · split at h
        · rename_i j cb h1 h2
          cases h
          exact try_ok O h1 fun W' pn xe O2 => ihh.2 _ c W' O2 _ _ h2
        · cases h
      · split at h
        · rename_i g1 w1 b1 h1 h2 h3
          cases h
          exact s_for O.hp O'.calm (A.it X c W _ _ _ O' h2) (fun hc => s_tgt O' hc h1) (ih.2 _ _ h3) (cIt_set h2 _)
        · cases h
      · cases h
    · unfold cSs at h
      split at h
      · rename_i hz
        cases hz
      · cases h
        exact s_done
      · rename_i hz
        cases hz
        split at h
        · rename_i h1 h2
          cases h
          exact s_seq2 (ih.1 _ _ h1) (ih.2 _ _ h2)
        · cases h
end
end Z
end
section
set_option Elab.async false
set_option linter.all false
set_option maxRecDepth 100000
set_option maxHeartbeats 4000000
set_option autoImplicit false
/-! Defs. -/
namespace Z
open PySem PySem.Spec PyProof.Rows L2
variable {K : PySem.W.Frag} {w : World} {as as' as'' F F2 : List Addr} {H H₀ H' H'' : Hp} {M M' : Mem} {v : V} {vs : List V} {d : D} {ds : List D}
/-- where a def stands: a name of the module; a class's -/
def DefAt (K : PySem.W.Frag) (mg : Str → Option Value) (h : Hn) (a : Addr) : Prop := match h.cm with
  | none => mg h.f = some (.ref a) ∧ PySem.W.keepIn K (.ref a) = true
  | some (C, m) => a = He.ma K (He.ga K C) m
/-- what is known of a def of the text -/
def DefOk (K : PySem.W.Frag) (mg : Str → Option Value) (p : Program) (h : Hn) : Prop :=
  ∃ (a : Addr) (name qual : Str) (params : Arguments) (body : List Stmt) (scope : Scope) (dV kV doc pm cdv ct oc : Value) (an od : Option Addr) (osl : Array (Option Value)),
    defOf p h = some (body, scope) ∧ DefAt K mg h a ∧ K.lookup a = some ⟨oc, od, .func (PySem.W.fnOf name qual params body scope dV kV doc pm an cdv ct), osl⟩ ∧ PySem.W.codeIn K cdv qual = true ∧
      (∀ us : List Value, us.length = (h.N.take h.ps).length → bindArgs (PySem.W.fnOf name qual params body scope dV kV doc pm an cdv ct) ⟨us, []⟩ = pure ((h.N.take h.ps).zip us)) ∧ FnScope h.N (h.N.take h.ps) scope ∧ h.ps ≤ h.N.length
theorem defs_of {p : Program} {gl : List (Str × GK)} : ∀ {hn : List Hn} {P : Prg} {f : Str} {d : Df}, cAll p gl hn = some P → P.lookup f = some d → ∃ h ∈ hn, h.f = f ∧ cDef p gl h = some (f, d)
  | [], P, f, d, e, l => by
    cases e
    cases l
  | h :: r, P, f, d, e, l => by
    unfold cAll at e
    split at e
    · rename_i df ds e1 e2
      cases e
      obtain ⟨f1, d1⟩ := df
      have hf : f1 = h.f := by
        unfold cDef at e1
        split at e1
        · obtain ⟨s, _, q⟩ := om e1
          cases q
          rfl
        · cases e1
      rw [List.lookup_cons] at l
      split at l
      · rename_i hb
        cases l
        have : f = f1 := eq_of_beq hb
        subst this
        exact ⟨h, List.mem_cons_self, hf.symm, e1⟩
      · obtain ⟨h', h1, h2⟩ := defs_of e2 l
        exact ⟨h', List.mem_cons_of_mem _ h1, h2⟩
    · cases e
theorem start_rel {N : List Str} (r : Reps K w as F H vs ds) (hl : vs.length ≤ N.length) : RelE K w as F H (L2.start N vs) (startE N.length ds) := by
  have e := r.length
  unfold L2.start startE
  refine ⟨by rw [List.length_append, List.length_append, List.length_map, List.length_map, List.length_replicate, List.length_replicate, e], fun i d h => ?_⟩
  by_cases hi : i < ds.length
  · rw [List.getElem?_append_left (by rw [List.length_map]; exact hi), List.getElem?_map] at h
    obtain ⟨d', h1, h2⟩ := om h
    cases h2
    obtain ⟨v, h3, h4⟩ := r.get h1
    exact ⟨v, by rw [List.getElem?_append_left (by rw [List.length_map]; omega), List.getElem?_map, h3]; rfl, h4⟩
  · rw [List.getElem?_append_right (by rw [List.length_map]; omega), List.getElem?_replicate] at h
    split at h <;> cases h
/-- a def that may be called, to the depth k -/
def FnFact (prog : Program) (w : World) (K : PySem.W.Frag) (mg : Str → Option Value) (base : Heap) (P : Prg) (k : Nat) (h : Hn) : Prop :=
  ∃ (a : Addr) (fd : FuncData), DefAt K mg h a ∧ (∃ oc od osl, K.lookup a = some ⟨oc, od, .func fd, osl⟩) ∧ (∀ us : List Value, us.length = (h.N.take h.ps).length → bindArgs fd ⟨us, []⟩ = pure ((h.N.take h.ps).zip us)) ∧
    FnOk prog w K mg base (L2N.CX prog w) k a fd (h.N.take h.ps) (spR K w mg (callK P true k) h.f (h.N.take h.ps).length) ∧ ∀ (ds : List D) (M : Mem) (r : Rs D), callK P true k h.f ds M = some r → ds.length = (h.N.take h.ps).length
/-- what is known of the text's classes, exceptions -/
structure ClsOk (prog : Program) (w : World) (K : PySem.W.Frag) (mg : Str → Option Value) (base : Heap) (gl : List (Str × GK)) (hn : List Hn) : Prop where
  cls : ∀ (C : Str) (fl ms : List Str), gl.lookup C = some (.cls fl ms) → mg C = some (.ref (He.ga K C)) ∧ Cls K (He.ga K C) ∧ (∀ f ∈ fl, NoAttr K (He.ga K C) f) ∧ (∀ m ∈ ms, Meth K (He.ga K C) m (He.ma K (He.ga K C) m)) ∧
    Mk K (He.ga K C) (He.ma K (He.ga K C) "__init__") ∧ ∀ m ∈ ("__init__" : Str) :: ms, ∃ h ∈ hn, h.f = Z.qual C m ∧ h.cm = some (C, m)
  exc : ∀ C f : Str, gl.lookup C = some (.exc f) → mg C = some (.ref (He.ga K C)) ∧ OexC K (He.ga K C) ∧ ∃ (a : Addr) (fd : FuncData) (ps : List Str), PySem.W.findIn K (.ref (He.ga K C)) "__init__" = some (some (.ref a)) ∧ PySem.W.typeIn K (.ref a) = some (.type "function") ∧
    Binds K fd ps [] ∧ FnOk prog w K mg base (L2N.CX prog w) 2 a fd ps (spX (He.ga K C) f)
  tr : gl.lookup ("_law_refused" : Str) = some .fn → TryF K mg "BadText" "spot" "NoMap" "NoExchange" "NoGroup" "TowerError" ∧ ∃ h ∈ hn, h.f = ("_law_same" : Str) ∧ h.cm = none
/-- nothing is called -/
def G0 : G := ⟨fun _ _ _ => none, false, fun _ _ _ => none, 0⟩
/-- the def that compares tells of whole numbers whether they are equal -/
def SameOk (P : Prg) : Prop := ∃ d : Df, P.lookup ("_law_same" : Str) = some d ∧ d.ps = 2 ∧ ∀ x y : Int, exSs G0 d.body (startE d.n [.int x, .int y]) [] = some (.rt (.bl (decide (x = y))) [])
theorem same_ok {prog p : Program} {gl : List (Str × GK)} {hn : List Hn} {P : Prg} {mg : Str → Option Value} {base : Heap} (hP : cAll p gl hn = some P) (hnd : ∀ h ∈ hn, ∀ h' ∈ hn, h.f = h'.f → h = h') (hd : ∀ h ∈ hn, DefOk K mg p h) (hg : Gls K w mg gl) (hc : ClsOk prog w K mg base gl hn)
    (hs : SameOk P) {h : Hn} (hh : h ∈ hn) (hf : h.f = ("_law_same" : Str)) (hcm : h.cm = none) :
    ∃ (fa : Addr) (fd : FuncData) (ps : List Str), mg "_law_same" = some (.ref fa) ∧ PySem.W.keepIn K (.ref fa) = true ∧ Binds K fd ps [] ∧ L2H.FnH prog w K mg base (L2N.CX prog w) 3 fa fd ps spSame := by
  obtain ⟨a, name, qual, params, body, scope, dV, kV, doc, pm, cdv, ct, oc, an, od, osl, h1, h2, h3, h4, h6, h7, h8⟩ := hd h hh
  unfold DefAt at h2
  rw [hcm] at h2
  obtain ⟨h2, h5⟩ := h2
  rw [hf] at h2
  have hps : (h.N.take h.ps).length = h.ps := by rw [List.length_take]; omega
  obtain ⟨d, e1, e2, e3⟩ := hs
  obtain ⟨h', g1, g2, g3⟩ := defs_of hP e1
  have hz := hnd h' g1 h hh (g2.trans hf.symm)
  subst hz
  unfold cDef at g3
  rw [h1] at g3
  dsimp only at g3
  obtain ⟨css, g4, g5⟩ := om g3
  obtain ⟨_, g6⟩ := Prod.mk.inj g5
  subst g6
  have e2 : h'.ps = 2 := e2
  refine ⟨a, _, _, h2, h5, .all h6, L2H.fn_ofH (k := 2) h3 h4 h7 (fun vs H Q E q => ?_) fun A outer s H vs Q E pp hot hr q => ?_⟩
  · obtain ⟨x, y, e, _⟩ := q
    rw [e, hps, e2]
    rfl
  · obtain ⟨x, y, e, q⟩ := q
    subst e
    have hu := hr.un
    have O : OkS (L2H.cxH (L2N.CX prog w) prog w K mg base h'.N qual scope a cdv A outer s H E pp) { N := h'.N, sc := scope, gl := gl, mats := h'.mats, tys := h'.tys } G0 (fun cls d _ H => E cls d H) :=
      ⟨⟨rfl, h7.nd, rfl, fun _ _ => .inl rfl, (fun z => nomatch z), L2N.takes_of (E₁ := fun e' s'' => L2N.CX prog w outer H s E e' s'') rfl rfl rfl rfl, (fun z => nomatch z), by show (A.deeper _).units + 70 < cLine; omega, hg, (fun z => nomatch z),
        fun C fl ms e => ⟨(hc.cls C fl ms e).2.1, (hc.cls C fl ms e).2.2.1⟩, (fun z => nomatch z), (fun z => nomatch z), hc.exc⟩, passes_of rfl, h7.kind, rfl, rfl, (fun z => nomatch z)⟩
    refine ⟨_, (stmts G0 400).2 _ _ _ O body css g4, ?_⟩
    have r0 : Reps K w [] [] H [V.int x, V.int y] [.int x, .int y] := .cons (.int x) (.cons (.int y) .nil)
    refine ⟨[], [], [], _, _, start_rel r0 (by show 2 ≤ h'.N.length; omega), ⟨rfl, .nil, fun a ha => (by cases ha), fun n a o e => (by simp at e)⟩, e3 x y, fun as' H' v L hM' hr' => ?_⟩
    cases hr' with
    | val hv =>
      cases hv
      exact q H' fun b o z => L.keep b o z (by simp)
theorem defs_ok {prog p : Program} {gl : List (Str × GK)} {hn : List Hn} {P : Prg} {mg : Str → Option Value} {base : Heap} (hP : cAll p gl hn = some P) (hnd : ∀ h ∈ hn, ∀ h' ∈ hn, h.f = h'.f → h = h') (hfn : ∀ f, gl.lookup f = some .fn → ∃ h ∈ hn, h.f = f ∧ h.cm = none)
    (hd : ∀ h ∈ hn, DefOk K mg p h) (hg : Gls K w mg gl) (hc : ClsOk prog w K mg base gl hn) (hs : gl.lookup ("_law_refused" : Str) = some .fn → SameOk P) : ∀ k, ∀ j, j ≤ k → ∀ h ∈ hn, FnFact prog w K mg base P j h := by
  have zero : ∀ h ∈ hn, FnFact prog w K mg base P 0 h := fun h hh => by
    obtain ⟨a, name, qual, params, body, scope, dV, kV, doc, pm, cdv, ct, oc, an, od, osl, h1, h2, h3, h4, h6, h7, h8⟩ := hd h hh
    refine ⟨a, _, h2, ⟨_, _, _, h3⟩, h6, ⟨fun vs H Q E q => q.1, fun A outer s H args us vs Q E hr he hb r q => ?_⟩, fun ds M r e => ?_⟩
    · obtain ⟨_, as, F, M, ds, r, _, _, e, _⟩ := q
      cases e
    · cases e
  have step : ∀ k, (∀ j, j ≤ k → ∀ h ∈ hn, FnFact prog w K mg base P j h) → ∀ h ∈ hn, FnFact prog w K mg base P (k + 1) h := by
    intro k ih h hh
    obtain ⟨a, name, qual, params, body, scope, dV, kV, doc, pm, cdv, ct, oc, an, od, osl, h1, h2, h3, h4, h6, h7, h8⟩ := hd h hh
    have hps : (h.N.take h.ps).length = h.ps := by rw [List.length_take]; omega
    have key : ∀ (ds : List D) (M : Mem) (r : Rs D), callK P true (k + 1) h.f ds M = some r → ∃ css, cSs 400 { N := h.N, sc := scope, gl := gl, mats := h.mats, tys := h.tys } body = some css ∧ ds.length = h.ps ∧
        fin (exSs ⟨callK P true k, true, callK P true (k - 1), k⟩ css (startE h.N.length ds) M) = some r := fun ds M r e => by
      rw [callK_succ] at e
      unfold runDf at e
      split at e
      · rename_i df e1
        obtain ⟨h', g1, g2, g3⟩ := defs_of hP e1
        have hz := hnd h' g1 h hh g2
        subst hz
        unfold cDef at g3
        rw [h1] at g3
        dsimp only at g3
        obtain ⟨css, g4, g5⟩ := om g3
        cases g5
        obtain ⟨g6, g7⟩ := op e
        exact ⟨css, g4, g6, g7⟩
      · cases e
    refine ⟨a, _, h2, ⟨_, _, _, h3⟩, h6, ?_, fun ds M r e => ?_⟩
    · refine fn_of h3 h4 h7 (fun vs H Q E q => q.1) fun A outer s H vs Q E hr q => ?_
      obtain ⟨hl, as, F, M, ds, r, hM, hs0, e, po, px⟩ := q
      obtain ⟨css, g1, g2, g3⟩ := key ds M r e
      have hu := hr.un
      have O : OkS (cxOf (L2N.CX prog w) prog w K mg base h.N qual scope a cdv A outer s H E) { N := h.N, sc := scope, gl := gl, mats := h.mats, tys := h.tys } ⟨callK P true k, true, callK P true (k - 1), k⟩ (fun cls d _ H => E cls d H) :=
        ⟨⟨rfl, h7.nd, rfl, fun _ _ => .inl rfl, fun _ => rfl, L2N.takes_of (E₁ := fun e' s'' => L2N.CX prog w outer H s E e' s'') rfl rfl rfl rfl, fun _ => hr, by show (A.deeper _).units + 70 < cLine; omega, hg, fun _ f hf => by
          obtain ⟨h', q1, rfl, q2⟩ := hfn f hf
          obtain ⟨a', fd', e1, _, e3, e4, e5⟩ := ih k (Nat.le_refl _) h' q1
          unfold DefAt at e1
          rw [q2] at e1
          exact ⟨a', fd', _, e1.1, e1.2, .all e3, e4, e5⟩, fun C fl ms e => ⟨(hc.cls C fl ms e).2.1, (hc.cls C fl ms e).2.2.1⟩, fun _ C fl ms m e hm => by
          obtain ⟨_, _, _, c4, _, c6⟩ := hc.cls C fl ms e
          obtain ⟨h', q1, q2, q3⟩ := c6 m (List.mem_cons_of_mem _ hm)
          obtain ⟨a', fd', e1, _, e3, e4, e5⟩ := ih k (Nat.le_refl _) h' q1
          unfold DefAt at e1
          rw [q3] at e1
          subst e1
          rw [q2] at e4 e5
          exact ⟨_, fd', _, c4 m hm, .all e3, e4, e5⟩, fun _ _ C fl ms e => by
          obtain ⟨c1, _, _, _, c5, c6⟩ := hc.cls C fl ms e
          obtain ⟨h', q1, q2, q3⟩ := c6 "__init__" List.mem_cons_self
          obtain ⟨a', fd', e1, _, e3, e4, e5⟩ := ih (k - 1) (Nat.sub_le _ _) h' q1
          unfold DefAt at e1
          rw [q3] at e1
          subst e1
          rw [q2] at e4 e5
          exact ⟨c1, _, fd', _, c5, .all e3, e4, e5⟩, hc.exc⟩, passes_of rfl, h7.kind, rfl, rfl, fun _ e => by
          obtain ⟨t1, h', q1, q2, q3⟩ := hc.tr e
          exact ⟨t1, same_ok hP hnd hd hg hc (hs e) q1 q2 q3⟩⟩
      refine ⟨_, (stmts _ 400).2 _ _ _ O body css g1, ?_⟩
      cases q : exSs ⟨callK P true k, true, callK P true (k - 1), k⟩ css (startE h.N.length ds) M with
      | none =>
        rw [q] at g3
        cases g3
      | some fl =>
        rw [q] at g3
        refine ⟨as, F, M, _, fl, start_rel hs0 (by have := hs0.length; omega), hM, q, ?_⟩
        cases fl with
        | nx env' M' =>
          cases g3
          exact fun as' H' σ' L hE' hM' => po .non M' rfl as' H' .non L hM' (.val .non)
        | bk env' M' => cases g3
        | ct env' M' => cases g3
        | rt d M' =>
          cases g3
          exact fun as' H' v L hM' hr => po d M' rfl as' H' v L hM' hr
        | ex env' cc p M' =>
          cases g3
          exact fun as' H' σ' cls dx L hE' hM' hx => px cc p M' rfl as' H' cls dx L hM' hx
    · obtain ⟨css, g1, g2, g3⟩ := key ds M r e
      omega
  intro k
  induction k with
  | zero =>
    intro j hj
    obtain rfl : j = 0 := by omega
    exact zero
  | succ k ih =>
    intro j hj
    by_cases h : j ≤ k
    · exact ih j h
    · obtain rfl : j = k + 1 := by omega
      exact step k ih
end Z
end
section
set_option Elab.async false
set_option linter.all false
set_option maxRecDepth 100000
set_option maxHeartbeats 4000000
set_option autoImplicit false
/-! Parameters. -/
namespace Z
open PySem PySem.Spec PyProof.Rows L2
theorem look_zip {x : Str} {v : Value} : ∀ {ps : List Str} {us : List Value} {i : Nat}, ps.Nodup → ps[i]? = some x → us[i]? = some v → (ps.zip us).lookup x = some v
  | p :: ps, u :: us, 0, nd, e1, e2 => by
    simp at e1 e2
    subst e1 e2
    simp [List.lookup_cons]
  | p :: ps, u :: us, i + 1, nd, e1, e2 => by
    have n2 := List.nodup_cons.mp nd
    have hx : (x == p) = false := by
      apply beq_eq_false_iff_ne.mpr
      intro z
      exact n2.1 (by rw [← z]; exact List.mem_of_getElem? (by simpa using e1))
    show List.lookup x ((p, u) :: ps.zip us) = some v
    rw [List.lookup_cons, hx]
    exact look_zip n2.2 (by simpa using e1) (by simpa using e2)
theorem fm_zip {ps : List Str} {us : List Value} (nd : ps.Nodup) (hl : us.length = ps.length) : ∀ (qs : List Str) (ws : List Value), qs.length = ws.length → (∀ (i : Nat) (x : Str) (v : Value), qs[i]? = some x → ws[i]? = some v → (ps.zip us).lookup x = some v) →
    qs.filterMap (fun n => ((ps.zip us).lookup n).map (n, ·)) = qs.zip ws
  | [], _, _, _ => by simp
  | q :: qs, [], h, _ => by simp at h
  | q :: qs, w :: ws, h, f => by
    have e := f 0 q w rfl rfl
    rw [List.filterMap_cons, e]
    show (q, w) :: _ = _
    rw [fm_zip nd hl qs ws (by simpa using h) fun i x v e1 e2 => f (i + 1) x v (by simpa using e1) (by simpa using e2)]
    rfl
theorem no_miss {ps : List Str} {us : List Value} (nd : ps.Nodup) (hl : us.length = ps.length) : (ps.filter fun n => ((ps.zip us).lookup n).isNone) = [] := by
  rw [List.filter_eq_nil_iff]
  intro x hx
  obtain ⟨i, hi, e⟩ := List.getElem_of_mem hx
  rw [look_zip nd (i := i) (v := us[i]'(by omega)) (by rw [List.getElem?_eq_getElem hi, e]) (List.getElem?_eq_getElem _)]
  simp
theorem bind_plain {name qual : Str} {body : List Stmt} {scope : Scope} {kV doc pm cdv ct : Value} {an : Option Addr} {as : List Arg} {kd : List (Option Expr)} (nd : (as.map (·.arg)).Nodup) (us : List Value) (hl : us.length = (as.map (·.arg)).length) :
    bindArgs (PySem.W.fnOf name qual ⟨[], as, none, [], kd, none, []⟩ body scope .none kV doc pm an cdv ct) ⟨us, []⟩ = pure ((as.map (·.arg)).zip us) := by
  have h1 := no_miss nd hl
  have h2 := fm_zip nd hl (as.map (·.arg)) us hl.symm fun i x v e1 e2 => look_zip nd e1 e2
  generalize hp : as.map (·.arg) = ps at *
  have hg : ¬ (us.length > ps.length) := by omega
  unfold bindArgs PySem.W.fnOf
  simp only [hp, List.map_nil, List.nil_append, List.append_nil]
  have e : seqItems? .none = pure none := rfl
  simp only [e, pure_bind, Option.getD_none, List.drop_nil, List.length_nil, Nat.sub_zero, List.take_length, h1, List.isEmpty_nil, Bool.not_true, List.forIn_nil, h2, List.forIn'_nil]
  have hd : (decide (us.length > ps.length) && (none : Option Arg).isNone) = false := by
    rw [decide_eq_false hg]
    rfl
  rw [hd, if_neg Bool.false_ne_true, if_neg Bool.false_ne_true]
  simp only [List.zip_nil_right, List.forIn_nil, pure_bind, h2]
  rfl
end Z
end
section
set_option Elab.async false
set_option linter.all false
set_option maxRecDepth 100000
set_option maxHeartbeats 4000000
set_option autoImplicit false
/-! What the top leaves: the Hook. -/
namespace Z
open PySem PySem.Spec PyProof.Rows L2
variable {K : PySem.W.Frag} {w : World}
/-! ### values of the text -/
mutual
def ckV (K : PySem.W.Frag) : Nat → Value → D → Bool
  | 0, _, _ => false
  | n + 1, u, d => match d with
    | .non => He.relB .non u
    | .bl b => He.relB (.bl b) u
    | .int i => He.relB (.int i) u
    | .str s => He.relB (.str s) u
    | .tup ds => (match u with
      | .ref a => (match K.lookup a with
        | some ⟨.type c, _, .seq its _, _⟩ => decide (c = "tuple") && (decide (its.size ≤ sizeLine) && ckVs K n its.toList ds)
        | _ => false)
      | _ => false)
    | _ => false
def ckVs (K : PySem.W.Frag) : Nat → List Value → List D → Bool
  | 0, _, _ => false
  | _ + 1, [], [] => true
  | n + 1, u :: us, d :: ds => ckV K n u d && ckVs K n us ds
  | _, _, _ => false
end
theorem ckV_ok : ∀ n, (∀ u d, ckV K n u d = true → ∃ v, RelV v u ∧ ∀ as F H, Rep K w as F H v d) ∧ (∀ us ds, ckVs K n us ds = true → ∃ vs, Vals vs us ∧ ∀ as F H, Reps K w as F H vs ds) := by
  intro n
  induction n with
  | zero => exact ⟨fun u d e => (by unfold ckV at e; cases e), fun us ds e => (by unfold ckVs at e; cases e)⟩
  | succ n ih =>
    refine ⟨fun u d e => ?_, fun us ds e => ?_⟩
    · unfold ckV at e
      split at e
      · exact ⟨.non, He.relB_ok e, fun _ _ _ => .non⟩
      · exact ⟨_, He.relB_ok e, fun _ _ _ => .bl _⟩
      · exact ⟨_, He.relB_ok e, fun _ _ _ => .int _⟩
      · exact ⟨_, He.relB_ok e, fun _ _ _ => .str _⟩
      · split at e
        · rename_i a
          split at e
          · rename_i c od its m sl q
            have h1 := band e
            have h2 := band h1.2
            obtain ⟨vs, h3, h4⟩ := ih.2 _ _ h2.2
            exact ⟨.ref a, rfl, fun as F H => .tup (.inr ⟨_, its, m, q, congrArg Value.type (of_decide_eq_true h1.1), rfl, of_decide_eq_true h2.1, h3⟩) (h4 as F H)⟩
          · cases e
        · cases e
      · cases e
    · unfold ckVs at e
      split at e
      · cases e
      · exact ⟨[], .nil, fun _ _ _ => .nil⟩
      · rename_i hz
        cases hz
        have h1 := band e
        obtain ⟨v, h2, h3⟩ := ih.1 _ _ h1.1
        obtain ⟨vs, h4, h5⟩ := ih.2 _ _ h1.2
        exact ⟨v :: vs, .cons h2 h4, fun as F H => .cons (h3 as F H) (h5 as F H)⟩
      · cases e
def strOf : D → Option Str
  | .str s => some s
  | _ => none
def isStrD : D → Bool
  | .str _ => true
  | _ => false
def dcPair (K : PySem.W.Frag) (a : Addr) (p : D × D) : Bool := match p.1, p.2 with
  | .str k, .str y => (match PySem.W.nsIn K a k with
    | some (some (.str z _)) => decide (z = y)
    | _ => false)
  | _, _ => false
def ckC (K : PySem.W.Frag) (x : Str) (d : D) : Bool := match PySem.W.nsIn K mainGlobals x with
  | some (some u) => (match d with
    | .dc ks vs => (match u with
      | .ref a => decide (ks.length = vs.length) && (ks.all isStrD && (ks.zip vs).all (dcPair K a))
      | _ => false)
    | d => ckV K 400 u d)
  | _ => false
/-! ### classes, exceptions -/
def oexB (K : PySem.W.Frag) (C : Addr) : Bool := (match K.lookup C with
  | some ⟨.type t, _, .cls cd, sl⟩ => (match cd.mro, sl.toList with
    | .ref C' :: bm, [_, _, _, _, some (.builtin n), _] => decide (t = "type") && (decide (C' = C) && (decide (n = "ValueError.__new__") && (!cd.hasDel && (cd.hasDict && PySem.HandSPX.refsVE bm))))
    | _, _ => false)
  | _ => false) && (He.eqO (PySem.W.findIn K (.ref C) "__setattr__") (some (some (.builtin "object.__setattr__"))) && (decide (PySem.W.subIn K (.ref C) (.type "BaseException") = some true) && (decide (PySem.W.typeIn K (.ref C) = some (.type "type")) && PySem.W.keepIn K (.ref C))))
theorem oexB_ok {C : Addr} (h : oexB K C = true) : OexC K C := by
  have h1 := band h
  have h2 := band h1.2
  have h3 := band h2.2
  have h4 := band h3.2
  refine ⟨?_, He.eqO_ok h2.1, of_decide_eq_true h3.1, of_decide_eq_true h4.1, h4.2⟩
  have q := h1.1
  split at q
  · rename_i t dd cd sl ho
    split at q
    · rename_i C' bm k0 k1 k2 k3 n k5 hm hs
      have q1 := band q
      have q2 := band q1.2
      have q3 := band q2.2
      have q4 := band q3.2
      have q5 := band q4.2
      have e1 := of_decide_eq_true q1.1
      have e2 := of_decide_eq_true q2.1
      have e3 := of_decide_eq_true q3.1
      have e4 : cd.hasDel = false := by simpa using q4.1
      have e5 := q5.1
      subst e1 e2 e3
      obtain ⟨nm, bs, mro, ns, qn, hd, sn, sub, ab, col, del⟩ := cd
      dsimp only at hm e4 e5
      subst hm e4 e5
      have hsl : sl = #[k0, k1, k2, k3, some (.builtin "ValueError.__new__"), k5] := by
        obtain ⟨l⟩ := sl
        simp only at hs
        rw [hs]
      subst hsl
      exact ⟨nm, qn, ns, bs, bm, sn, sub, ab, col, dd, k0, k1, k2, k3, k5, ho, q5.2⟩
    · cases q
  · cases q
/-- the def __init__ of the class x -/
abbrev InitV : Type := Option (Str × Str × Arguments × FuncBody × Scope × Addr × List Str × Value × Addr)
def initA (K : PySem.W.Frag) (x : Str) : Addr := He.ma K (He.ga K x) "__init__"
def initObs (K : PySem.W.Frag) (x : Str) : InitV := match K.lookup (initA K x) with
  | some ⟨_, _, .func fd, _⟩ => some (fd.name, fd.qualname, fd.params, fd.body, fd.scope, fd.globals, fd.closure.map (·.1), fd.defaults, fd.builtins)
  | _ => none
def initVal (p : Program) (x : Str) : InitV := match defCls p x "__init__" with
  | some (a, b, sc) => some ("__init__", qual x "__init__", a, .stmts b, sc, mainGlobals, ["__class__"], .none, builtinsNs)
  | none => none
def cellB (K : PySem.W.Frag) (C : Addr) : List (Str × Addr) → Bool
  | [(_, cc)] => (match K.lookup cc with
    | some ⟨_, _, .cell (some (.ref D)), _⟩ => decide (D = C)
    | _ => false)
  | _ => false
def fileB (K : PySem.W.Frag) (file : Str) : Value → Bool
  | .ref cda => (match K.lookup cda with
    | some ⟨_, _, .fields vs, _⟩ => (match (vs[2]? : Option Value) with
      | some (.str fl _) => file == fl
      | _ => false)
    | _ => false)
  | _ => false
def initDyn (K : PySem.W.Frag) (file x : Str) : Bool := match K.lookup (initA K x) with
  | some ⟨_, _, .func fd, _⟩ => cellB K (He.ga K x) fd.closure && (fileB K file fd.code && PySem.W.codeIn K fd.code fd.qualname)
  | _ => false
/-- what is asked of an own exception -/
def excB (file : Str) (K : PySem.W.Frag) (x f : Str) : Bool :=
  (He.Fa.glo x).ok K && (oexB K (He.ga K x) && (initDyn K file x && (He.eqO (PySem.W.findIn K (.ref (He.ga K x)) "__init__") (some (some (.ref (initA K x)))) && (decide (PySem.W.typeIn K (.ref (initA K x)) = some (.type "function")) &&
    (decide (PySem.W.ks_superIn K (He.ga K x) (He.ga K x) "__init__" = some (some (.builtin "ValueError.__init__"))) && (decide (PySem.W.nsIn K cStatics "thirdparty.any" = some none) && (decide (PySem.W.subIn K (.ref (He.ga K x)) (.type "ValueError") = some true) &&
      (decide (PySem.W.findIn K (.ref (He.ga K x)) f = some none) && (He.Fa.free "super").ok K))))))))
def clsB (K : PySem.W.Frag) (x : Str) (fl ms : List Str) : Bool := (He.Fa.glo x).ok K && ((He.Fa.cls x).ok K && ((He.Fa.mkr x).ok K && (fl.all (fun f => (He.Fa.noat x f).ok K) && ms.all fun m => (He.Fa.meth x m).ok K)))
/-- what is asked for a suite that looks at a BadText -/
def tryB (K : PySem.W.Frag) : Bool :=
  let D := He.ga K "BadText"
  (["BadText", "NoMap", "NoExchange", "NoGroup", "TowerError"] : List Str).all (fun x => (He.Fa.glo x).ok K) && ((He.Fa.free "ValueError").ok K && ((He.Fa.free "isinstance").ok K && ((PySem.W.clsIn K D).isSome && (He.eqO (PySem.W.findIn K (.ref D) "__class__") (some (some (.builtin "object.__class__"))) &&
    (He.eqO (PySem.W.specialIn K (.builtin "object.__class__") "__get__") (some (some (.builtin "getset_descriptor.__get__"))) && (decide (PySem.W.takesIn K (.builtin "object.__class__") = some true) && (decide (PySem.W.mroIn K D (.type "object") = some true) && (xfB K D &&
      (decide (PySem.W.findIn K (.ref D) "spot" = some none) && (decide (PySem.W.kitAny K (.ref D) [.ref (He.ga K "NoMap"), .ref (He.ga K "NoExchange"), .ref (He.ga K "NoGroup")] = some false) && (decide (PySem.W.kitOne K (.ref D) (.ref (He.ga K "TowerError")) = some true) &&
        (decide (PySem.W.kitOne K (.ref D) (.type "ValueError") = some true) && decide (PySem.W.exmOne K (.ref D) (.ref D) = some true)))))))))))))
theorem tryB_ok {h : Heap} {mg : Str → Option Value} (X : K.In h) (G : h.Ns mainGlobals mg) (c : tryB K = true) : TryF K mg "BadText" "spot" "NoMap" "NoExchange" "NoGroup" "TowerError" := by
  have b1 := band c
  have b2 := band b1.2
  have b3 := band b2.2
  have b4 := band b3.2
  have b5 := band b4.2
  have b6 := band b5.2
  have b7 := band b6.2
  have b8 := band b7.2
  have b9 := band b8.2
  have ba := band b9.2
  have bb := band ba.2
  have bc := band bb.2
  have bd := band bc.2
  have g : ∀ x ∈ (["BadText", "NoMap", "NoExchange", "NoGroup", "TowerError"] : List Str), mg x = some (.ref (He.ga K x)) := fun x hx => He.glo_ok X G (List.all_eq_true.mp b1.1 x hx)
  have xf := xfB_ok b9.1
  exact ⟨g _ (by simp), g _ (by simp), g _ (by simp), g _ (by simp), g _ (by simp), He.free_ok X G b2.1, He.free_ok X G b3.1, ⟨b4.1, xf.ga, xf.gg, xf.exC, He.eqO_ok b5.1, He.eqO_ok b6.1, of_decide_eq_true b7.1, of_decide_eq_true b8.1, xf⟩, of_decide_eq_true ba.1, of_decide_eq_true bb.1, of_decide_eq_true bc.1, of_decide_eq_true bd.1, of_decide_eq_true bd.2⟩
def ckAll (file : Str) (K : PySem.W.Frag) (gl : List (Str × GK)) : Bool := (gl.all fun p => match p.2 with
  | .fn => (He.Fa.glo p.1).ok K && (if p.1 = "_law_refused" then tryB K else true)
  | .cls fl ms => clsB K p.1 fl ms
  | .exc f => excB file K p.1 f
  | .con d => ckC K p.1 d) && biNames.all fun x => (gl.lookup x).isSome || (He.Fa.free x).ok K
/-- the dicts of the text -/
def tabsOf (gl : List (Str × GK)) : List He.Tab := gl.filterMap fun p => match p.2 with
  | .con (.dc ks _) => some (fun K => He.ga K p.1, ks.filterMap strOf)
  | _ => none
theorem dc_ok {a : Addr} {ks vs : List D} (h : He.dicW K a = some (He.keysIn w.params (ks.filterMap strOf))) (h1 : ks.length = vs.length) (h2 : ks.all isStrD = true) (h3 : (ks.zip vs).all (dcPair K a) = true) : DcOk K w a ks vs := by
  refine ⟨He.dicW_ok h, fun z hz => ?_, fun z j hj => ?_⟩
  · have nk : z ∉ ks.filterMap strOf := fun hm => by
      obtain ⟨d, hd, e⟩ := List.mem_filterMap.mp hm
      have e2 : d = .str z := by
        cases d <;> first
          | (cases e; rfl)
          | cases e
      subst e2
      rw [List.findIdx?_eq_none_iff] at hz
      have := hz _ hd
      rw [D.beq_self] at this
      cases this
    unfold He.dicW at h
    split at h
    · rename_i c es m sl q
      split at h
      · have h4 := Option.some.inj h
        have key : ∀ e ∈ es.toList, ∃ k t, e.key = .str k t ∧ k ∈ ks.filterMap strOf := fun e he => by
          have h5 : He.keyOf e ∈ He.keysIn w.params (ks.filterMap strOf) := by
            rw [← h4]
            exact List.mem_map.mpr ⟨e, he, rfl⟩
          obtain ⟨k, hk, e5⟩ := List.mem_map.mp h5
          unfold He.keyOf at e5
          split at e5
          · rename_i x t q2
            have h6 := (Prod.mk.inj (Option.some.inj e5)).1
            exact ⟨x, t, q2, by rw [← h6]; exact hk⟩
          · cases e5
        unfold PySem.W.nsIn
        rw [q]
        dsimp only
        have h6 : es.toList.find? (fun e => e.key.isStr z) = none := by
          rw [List.find?_eq_none]
          intro e he
          obtain ⟨k, t, e1, e2⟩ := key e he
          rw [e1]
          intro hq
          have : k = z := by
            simpa [Value.isStr] using hq
          exact nk (this ▸ e2)
        rw [h6]
        dsimp only
        rw [if_neg]
        intro hq
        obtain ⟨e, he, hr⟩ := List.any_eq_true.mp hq
        obtain ⟨k, t, e1, e2⟩ := key e he
        unfold DictEntry.refKey at hr
        rw [e1] at hr
        cases hr
      · cases h
    · cases h
  · obtain ⟨hj1, hj2, _⟩ := List.findIdx?_eq_some_iff_getElem.mp hj
    have e1 := D.beq_eq _ _ hj2
    have hj3 : j < vs.length := by omega
    have hm : (ks[j], vs[j]) ∈ ks.zip vs := by
      have : (ks.zip vs)[j]'(by rw [List.length_zip]; omega) = (ks[j], vs[j]) := List.getElem_zip
      rw [← this]
      exact List.getElem_mem _
    have h4 := List.all_eq_true.mp h3 _ hm
    rw [e1] at h4
    unfold dcPair at h4
    dsimp only at h4
    split at h4
    · rename_i k y q1 q2
      cases q1
      split at h4
      · rename_i y' t q3
        have := of_decide_eq_true h4
        subst this
        exact ⟨_, _, q3, by rw [List.getElem?_eq_getElem hj3, q2], ⟨t, rfl⟩⟩
      · cases h4
    · cases h4
/-! ### defs of the text -/
def dOf (h : Hn) (x : Arguments × List Stmt × Scope) : He.DefD := match h.cm with
  | none => ⟨(h.f, none), h.f, h.f, x.1, x.2.1, x.2.2, [], []⟩
  | some (C, m) => ⟨(C, some m), m, qual C m, x.1, x.2.1, x.2.2, [], []⟩
def fnsOf (p : Program) (hn : List Hn) : List He.DefD := hn.filterMap fun h => (defAll p h).map (dOf h)
def plainP (a : Arguments) (ps : List Str) : Bool := a.posonlyargs.isEmpty && (a.vararg.isNone && (a.kwonlyargs.isEmpty && (a.kwarg.isNone && (a.defaults.isEmpty && (decide (a.args.map (·.arg) = ps) && decide ps.Nodup)))))
def hintOk (p : Program) (h : Hn) : Bool := match defAll p h with
  | some x => plainP x.1 (h.N.take h.ps) && (C8.scC h.N (h.N.take h.ps) x.2.2 && decide (h.ps ≤ h.N.length))
  | none => false
def hintsOk (p : Program) (hn : List Hn) : Bool := hn.all (hintOk p) && decide ((hn.map (·.f)).Nodup)
theorem plain_eq {a : Arguments} {ps : List Str} (h : plainP a ps = true) : ∃ as kd, a = ⟨[], as, none, [], kd, none, []⟩ ∧ as.map (·.arg) = ps ∧ ps.Nodup := by
  obtain ⟨a1, a2, a3, a4, a5, a6, a7⟩ := a
  have h1 := band h
  have h2 := band h1.2
  have h3 := band h2.2
  have h4 := band h3.2
  have h5 := band h4.2
  have h6 := band h5.2
  have e1 : a1 = [] := List.isEmpty_iff.mp h1.1
  have e2 : a3 = none := Option.isNone_iff_eq_none.mp h2.1
  have e3 : a4 = [] := List.isEmpty_iff.mp h3.1
  have e4 : a6 = none := Option.isNone_iff_eq_none.mp h4.1
  have e5 : a7 = [] := List.isEmpty_iff.mp h5.1
  subst e1 e2 e3 e4 e5
  exact ⟨a2, a5, rfl, of_decide_eq_true h6.1, of_decide_eq_true h6.2⟩
/-! ### the Hook -/
def excN (gl : List (Str × GK)) : List Str := gl.filterMap fun p => match p.2 with
  | .exc _ => some p.1
  | _ => none
abbrev AlZ : Type := He.AlT × Bool × List InitV
def obsZ (p : Program) (gl : List (Str × GK)) (fn : List He.DefD) (ts : List He.Tab) (K : PySem.W.Frag) : AlZ := (He.obsT [] fn ts K, ckAll p.main.file K gl, (excN gl).map (initObs K))
def valZ (p : Program) (gl : List (Str × GK)) (fn : List He.DefD) (ts : List He.Tab) (w : World) : AlZ := (He.valT fn ts w, true, (excN gl).map (initVal p))
def obsZG (n : Nat) (p : Program) (gl : List (Str × GK)) (fn : List He.DefD) (ts : List He.Tab) (g : Addr → Option Obj) : AlZ := obsZ p gl fn ts (He.frG g (cStatics :: He.asD g n))
def SaysZ (p : Program) (gl : List (Str × GK)) (fn : List He.DefD) (ts : List He.Tab) (w : World) (K : PySem.W.Frag) : Prop := obsZ p gl fn ts K = valZ p gl fn ts w
def hookZ (n : Nat) (p : Program) (gl : List (Str × GK)) (fn : List He.DefD) (ts : List He.Tab) : PySem.W.Hook where
  α := AlZ
  obs := fun s => obsZG n p gl fn ts s.heap.get?
  val := fun w => valZ p gl fn ts w
  says := fun w h => ∃ K : PySem.W.Frag, K.In h ∧ SaysZ p gl fn ts w K
  of := fun _ _ e => ⟨_, He.frG_in, e⟩
  keeps := fun _ _ _ ⟨K, hK, c⟩ k => ⟨K, PySem.W.Frag.In.keeps hK k, c⟩
theorem obsZG_eq {n : Nat} {p : Program} {gl : List (Str × GK)} {fn : List He.DefD} {ts : List He.Tab} {g : Addr → Option Obj} {s : Shared} (h : ∀ a, g a = s.heap.get? a) : obsZG n p gl fn ts g = (hookZ n p gl fn ts).obs s := by
  have e : g = s.heap.get? := funext h
  rw [e] <;> rfl
section
variable {gl : List (Str × GK)} {fn : List He.DefD} {p : Program} {hn : List Hn} {h : Heap} {mg : Str → Option Value}
theorem gls_ok (X : K.In h) (G : h.Ns mainGlobals mg) (c : SaysZ p gl fn (tabsOf gl) w K) : Gls K w mg gl := by
  have c1 : He.obsT [] fn (tabsOf gl) K = He.valT fn (tabsOf gl) w := congrArg (fun z : AlZ => z.1) c
  have c2 : ckAll p.main.file K gl = true := congrArg (fun z : AlZ => z.2.1) c
  have c3 := band c2
  have tabs : ∀ t ∈ tabsOf gl, He.dicW K (t.1 K) = some (He.keysIn w.params t.2) := fun t ht => by
    have e : (tabsOf gl).map (fun t => He.dicW K (t.1 K)) = (tabsOf gl).map fun t => some (He.keysIn w.params t.2) := congrArg (fun z : He.AlT => z.2) c1
    exact List.map_inj_left.mp e t ht
  refine ⟨fun x d hx => ?_, fun x hx hl => ?_⟩
  · have hm := PySem.mem_of_lookup hx
    have h1 := List.all_eq_true.mp c3.1 _ hm
    dsimp only at h1
    unfold ckC at h1
    split at h1
    · rename_i u hu
      have e := PySem.W.mg_of X G hu
      split at h1
      · rename_i ks vs
        split at h1
        · rename_i a
          have h2 := band h1
          have h3 := band h2.2
          have hga : He.ga K x = a := by
            unfold He.ga
            rw [hu]
          have ht : ((fun K => He.ga K x, ks.filterMap strOf) : He.Tab) ∈ tabsOf gl := List.mem_filterMap.mpr ⟨_, hm, rfl⟩
          have h4 := tabs _ ht
          dsimp only at h4
          rw [hga] at h4
          exact ⟨_, .ref a, e, rfl, fun as F H => .dc (dc_ok h4 (of_decide_eq_true h2.1) h3.1 h3.2)⟩
        · cases h1
      · obtain ⟨v, h2, h3⟩ := (ckV_ok (w := w) 400).1 _ _ h1
        exact ⟨u, v, e, h2, h3⟩
    · cases h1
  · have h1 := List.all_eq_true.mp c3.2 x hx
    rcases Bool.or_eq_true_iff.mp h1 with h2 | h2
    · rw [hl] at h2
      cases h2
    · exact He.free_ok X G h2
theorem defsZ (X : K.In h) (G : h.Ns mainGlobals mg) (c : SaysZ p gl (fnsOf p hn) (tabsOf gl) w K) (hk : hintsOk p hn = true) (hfn : ∀ h ∈ hn, h.cm = none → gl.lookup h.f = some .fn) : ∀ h ∈ hn, DefOk K mg p h := by
  intro hi hh
  have c1 : He.obsT [] (fnsOf p hn) (tabsOf gl) K = He.valT (fnsOf p hn) (tabsOf gl) w := congrArg (fun z : AlZ => z.1) c
  have c2 : ckAll p.main.file K gl = true := congrArg (fun z : AlZ => z.2.1) c
  have cd : He.SaysD [] (fnsOf p hn) K := congrArg (fun z : He.AlT => z.1) c1
  have k1 := band hk
  have k2 := List.all_eq_true.mp k1.1 hi hh
  unfold hintOk at k2
  split at k2
  · rename_i x hx
    obtain ⟨a, b, sc⟩ := x
    have h2 := band k2
    have h3 := band h2.2
    obtain ⟨as, kd, ea, ep, nd⟩ := plain_eq h2.1
    have ea' : a = ⟨[], as, none, [], kd, none, []⟩ := ea
    subst ea'
    have hm : dOf hi (⟨[], as, none, [], kd, none, []⟩, b, sc) ∈ fnsOf p hn := List.mem_filterMap.mpr ⟨hi, hh, by rw [hx]; rfl⟩
    obtain ⟨i, hi', e3⟩ := List.getElem_of_mem hm
    obtain ⟨fd, F⟩ := cd.def_ i (d := dOf hi (⟨[], as, none, [], kd, none, []⟩, b, sc)) (by rw [List.getElem?_eq_getElem hi', e3])
    have e4 : (dOf hi (⟨[], as, none, [], kd, none, []⟩, b, sc)).params = ⟨[], as, none, [], kd, none, []⟩ ∧ (dOf hi (⟨[], as, none, [], kd, none, []⟩, b, sc)).body = b ∧ (dOf hi (⟨[], as, none, [], kd, none, []⟩, b, sc)).scope = sc ∧ (dOf hi (⟨[], as, none, [], kd, none, []⟩, b, sc)).dfl = [] := by
      unfold dOf
      split <;> exact ⟨rfl, rfl, rfl, rfl⟩
    obtain ⟨e5, e6, e7, e8⟩ := e4
    have at_ : DefAt K mg hi (He.fAd K (dOf hi (⟨[], as, none, [], kd, none, []⟩, b, sc)).at_) := by
      unfold DefAt dOf
      cases hcm : hi.cm with
      | none =>
        have hg := List.all_eq_true.mp (band c2).1 _ (PySem.mem_of_lookup (hfn hi hh hcm))
        have hg2 := He.glo_ok X G (band hg).1
        have kp := F.kp
        unfold dOf at kp
        rw [hcm] at kp
        exact ⟨hg2, kp⟩
      | some q => rfl
    generalize dOf hi (⟨[], as, none, [], kd, none, []⟩, b, sc) = d at *
    obtain ⟨dat, dn, dq, dp, db, ds, ddf, dkw⟩ := d
    dsimp only at e5 e6 e7 e8
    subst e5 e6 e7 e8
    obtain ⟨oc, od, dV, kV, doc, pm, an, cdv, ct, osl, rfl, lk, hcd, hD, _⟩ := F.ex
    have hdv : dV = .none := by
      rcases hD with ⟨_, q⟩ | ⟨q, _⟩
      · exact q
      · exact absurd rfl q
    subst hdv
    exact ⟨_, _, _, _, _, _, .none, kV, doc, pm, cdv, ct, oc, an, od, osl, by unfold defOf; rw [hx]; rfl, at_, lk, hcd, fun us hl => (by
      rw [← ep] at hl nd ⊢
      exact bind_plain nd us hl), C8.fnScope_by h3.1, of_decide_eq_true h3.2⟩
  · cases k2
end
end Z
end
section
set_option Elab.async false
set_option linter.all false
set_option maxRecDepth 100000
set_option maxHeartbeats 4000000
set_option autoImplicit false
/-! What the top leaves: classes, exceptions. -/
namespace Z
open PySem PySem.Spec PyProof.Rows L2
variable {K : PySem.W.Frag} {w : World}
theorem bind_plainX {name qual : Str} {body : List Stmt} {scope : Scope} {cl : List (Str × Addr)} {kV doc pm cdv ct : Value} {an : Option Addr} {as : List Arg} {kd : List (Option Expr)} (nd : (as.map (·.arg)).Nodup) (us : List Value) (hl : us.length = (as.map (·.arg)).length) :
    bindArgs (PySem.W.fnX name qual ⟨[], as, none, [], kd, none, []⟩ body scope cl .none kV doc pm an cdv ct) ⟨us, []⟩ = pure ((as.map (·.arg)).zip us) := by
  have h1 := no_miss nd hl
  have h2 := fm_zip nd hl (as.map (·.arg)) us hl.symm fun i x v e1 e2 => look_zip nd e1 e2
  generalize hp : as.map (·.arg) = ps at *
  have hg : ¬ (us.length > ps.length) := by omega
  unfold bindArgs PySem.W.fnX
  simp only [hp, List.map_nil, List.nil_append, List.append_nil]
  have e : seqItems? .none = pure none := rfl
  simp only [e, pure_bind, Option.getD_none, List.drop_nil, List.length_nil, Nat.sub_zero, List.take_length, h1, List.isEmpty_nil, Bool.not_true, List.forIn_nil, h2, List.forIn'_nil]
  have hd : (decide (us.length > ps.length) && (none : Option Arg).isNone) = false := by
    rw [decide_eq_false hg]
    rfl
  rw [hd, if_neg Bool.false_ne_true, if_neg Bool.false_ne_true]
  simp only [List.zip_nil_right, List.forIn_nil, pure_bind, h2]
  rfl
def lk (sc : Scope) (x : Str) (k : NameKind) : Bool := decide (sc.names.lookup x = some k)
/-- an __init__ as an own exception of the text has it -/
def initShape (p : Program) (C f : Str) : Bool := match defCls p C "__init__" with
  | some (a, [.Expr (.Call (.Attribute (.Call (.Name s _) [] [] _) i q2) [.Constant (.str _) _ _] [] q4) _, .Assign [.Attribute (.Name p0 _) fld _] (.Name p1 _) _], sc) =>
    decide ([s, i, fld] = (["super", "__init__", f] : List Str)) && (plainP a [p0, p1] && ((q2.endLine == q4.line) && (sc.names.all (fun x => decide (x.2 ≠ .cell)) && (decide (sc.isCoroutine = false) && (decide (sc.isGenerator = false) && (decide (sc.kind = .function) &&
      (lk sc "super" .globalImplicit && (lk sc "__class__" .free && (lk sc p0 .local && (lk sc p1 .local && (!(p0 == p1) && (!(p0 == ("__debug__" : Str)) && (!(p1 == ("__debug__" : Str)) && !(p.main.scope.names.lookup ("super" : Str)).isSome)))))))))))))
  | _ => false
def clsChk (p : Program) (gl : List (Str × GK)) (hn : List Hn) : Bool := gl.all fun q => match q.2 with
  | .cls _ ms => (("__init__" : Str) :: ms).all fun m => hn.any fun h => decide (h.f = qual q.1 m) && decide (h.cm = some (q.1, m))
  | .exc f => initShape p q.1 f
  | .fn => if q.1 = "_law_refused" then hn.any (fun h => decide (h.f = ("_law_same" : Str)) && decide (h.cm = none)) else true
  | _ => true
theorem initS {p : Program} {h : Heap} {mg : Str → Option Value} {C f : Str} (X : K.In h) (G : h.Ns mainGlobals mg) (ho : initObs K C = initVal p C) (hb : excB p.main.file K C f = true) (hs : initShape p C f = true) :
    mg C = some (.ref (He.ga K C)) ∧ OexC K (He.ga K C) ∧ ∃ (a : Addr) (fd : FuncData) (ps : List Str), PySem.W.findIn K (.ref (He.ga K C)) "__init__" = some (some (.ref a)) ∧ PySem.W.typeIn K (.ref a) = some (.type "function") ∧
    Binds K fd ps [] ∧ ∀ base, FnOk p w K mg base (L2N.CX p w) 2 a fd ps (spX (He.ga K C) f) := by
  have b1 := band hb
  have b2 := band b1.2
  have b3 := band b2.2
  have b4 := band b3.2
  have b5 := band b4.2
  have b6 := band b5.2
  have b7 := band b6.2
  have b8 := band b7.2
  have b9 := band b8.2
  refine ⟨He.glo_ok X G b1.1, oexB_ok b2.1, initA K C, ?_⟩
  have dyn := b3.1
  unfold initDyn at dyn
  unfold initObs at ho
  cases q : K.lookup (initA K C) with
  | none =>
    rw [q] at dyn
    cases dyn
  | some o =>
    obtain ⟨oc, od, dt, osl⟩ := o
    rw [q] at dyn ho
    cases dt with
    | func fd =>
      dsimp only at dyn ho
      have d1 := band dyn
      have d2 := band d1.2
      unfold initVal at ho
      unfold initShape at hs
      split at hs
      · rename_i a s q0 q1 i q2 msg j q3 q4 q5 p0 q6 fld q7 p1 q8 q9 sc hdef
        rw [hdef] at ho
        obtain ⟨n1, n2, n3, n4, n5, n6, n7, n8, n9, n10, n11, n12, n13, n14, n15⟩ := fd
        simp only [Option.some.injEq, Prod.mk.injEq] at ho
        obtain ⟨h1, h2, h3, h4, h5, h6, h7, h8, h9⟩ := ho
        subst h1 h2 h3 h4 h5 h6 h8 h9
        have s1 := band hs
        have s2 := band s1.2
        have s3 := band s2.2
        have s4 := band s3.2
        have s5 := band s4.2
        have s6 := band s5.2
        have s7 := band s6.2
        have s8 := band s7.2
        have s9 := band s8.2
        have sa := band s9.2
        have sb := band sa.2
        have sc_ := band sb.2
        have sd := band sc_.2
        have se := band sd.2
        have e0 := of_decide_eq_true s1.1
        simp only [List.cons.injEq, and_true] at e0
        obtain ⟨rfl, rfl, rfl⟩ := e0
        obtain ⟨as, kd, rfl, ep, nd⟩ := plain_eq s2.1
        -- the cell
        have c1 := d1.1
        unfold cellB at c1
        split at c1
        · rename_i x cc hcl
          have hcl : n7 = [(x, cc)] := hcl
          subst hcl
          have hx : x = ("__class__" : Str) := by
            have h7 : [x] = (["__class__"] : List Str) := h7
            exact (List.cons.inj h7).1
          subst hx
          split at c1
          · rename_i cl cld D csl hcell
            have hD := of_decide_eq_true c1
            subst hD
            have c2 := d2.1
            unfold fileB at c2
            split at c2
            · rename_i cda hcda
              have hcda : n13 = .ref cda := hcda
              subst hcda
              split at c2
              · rename_i ccl cdd cvs ccs hcode
                split at c2
                · rename_i fl tf hvs
                  match as, ep with
                  | [a0, a1], ep =>
                    have ep1 : a0.arg = p0 ∧ a1.arg = p1 := by
                      have ep : [a0.arg, a1.arg] = [p0, p1] := ep
                      simpa using ep
                    have ne : (p0 == p1) = false := by simpa using sc_.1
                    refine ⟨_, [p0, p1], He.eqO_ok b4.1, of_decide_eq_true b5.1, .all fun us hl => ?_, fun base => init_fn ⟨⟨cc, cda, _, _, _, _, _, _, _, _, _, _, ccl, cl, _, _, cdd, cld, _, ccs, csl, cvs, fl, msg, tf, j, q0, q1, q2, q3, q4, q5, q6, q7, q8, q9, a0, rfl, q, d2.2, rfl, ep1.1, hcode, hvs, c2, hcell, s3.1, fun x hx => of_decide_eq_true (List.all_eq_true.mp s4.1 x hx), of_decide_eq_true s5.1, of_decide_eq_true s6.1, of_decide_eq_true s7.1, of_decide_eq_true s8.1, of_decide_eq_true s9.1, of_decide_eq_true sa.1, of_decide_eq_true sb.1⟩, trivial, oexB_ok b2.1, He.free_ok X G b9.2, by simpa using se.2, of_decide_eq_true b6.1, of_decide_eq_true b7.1, of_decide_eq_true b8.1, of_decide_eq_true b9.1, ne, by simpa using sd.1, by simpa using se.1⟩⟩
                    rw [← ep] at hl nd ⊢
                    exact bind_plainX nd us hl
                · cases c2
              · cases c2
            · cases c2
          · cases c1
        · cases c1
      · cases hs
    | _ => cases dyn
theorem clsZ {p : Program} {gl : List (Str × GK)} {hn : List Hn} {h : Heap} {mg : Str → Option Value} {base : Heap} (X : K.In h) (G : h.Ns mainGlobals mg) (c : SaysZ p gl (fnsOf p hn) (tabsOf gl) w K) (hc : clsChk p gl hn = true) : ClsOk p w K mg base gl hn := by
  have c2 : ckAll p.main.file K gl = true := congrArg (fun z : AlZ => z.2.1) c
  have c3 : (excN gl).map (initObs K) = (excN gl).map (initVal p) := congrArg (fun z : AlZ => z.2.2) c
  have ga := fun q hq => List.all_eq_true.mp (band c2).1 q hq
  have gc := fun q hq => List.all_eq_true.mp hc q hq
  refine ⟨fun C fl ms e => ?_, fun C f e => ?_, fun e => ?_⟩
  · have hm := PySem.mem_of_lookup e
    have h1 := ga _ hm
    have h2 := gc _ hm
    dsimp only at h1 h2
    have b1 := band h1
    have b2 := band b1.2
    have b3 := band b2.2
    have b4 := band b3.2
    refine ⟨He.glo_ok X G b1.1, He.cls_ok b2.1, fun f hf => He.noat_ok (List.all_eq_true.mp b4.1 f hf), fun m hm => He.meth_ok (List.all_eq_true.mp b4.2 m hm), He.mkr_ok b3.1, fun m hm => ?_⟩
    obtain ⟨h, h3, h4⟩ := List.any_eq_true.mp (List.all_eq_true.mp h2 m hm)
    have h5 := band h4
    exact ⟨h, h3, of_decide_eq_true h5.1, of_decide_eq_true h5.2⟩
  · have hm := PySem.mem_of_lookup e
    have h1 := ga _ hm
    have h2 := gc _ hm
    dsimp only at h1 h2
    have hx : C ∈ excN gl := List.mem_filterMap.mpr ⟨_, hm, rfl⟩
    have h3 := List.map_inj_left.mp c3 C hx
    obtain ⟨r1, r2, a, fd, ps, r3, r4, r5, r6⟩ := initS (w := w) X G h3 h1 h2
    exact ⟨r1, r2, a, fd, ps, r3, r4, r5, r6 base⟩
  · have hm := PySem.mem_of_lookup e
    have h1 := ga _ hm
    have h2 := gc _ hm
    dsimp only at h1 h2
    have h3 := (band h1).2
    rw [if_pos rfl] at h3 h2
    obtain ⟨h, h4, h5⟩ := List.any_eq_true.mp h2
    have h6 := band h5
    exact ⟨tryB_ok X G h3, h, h4, of_decide_eq_true h6.1, of_decide_eq_true h6.2⟩
end Z
end
section
set_option Elab.async false
set_option maxRecDepth 100000
namespace Z
open PySem
def k74_gl_0 : List (Str × GK) := [
  ("NoExchange", GK.exc "fault"),
  ("NoGroup", GK.exc "fault"),
  ("NoMap", GK.exc "fault"),
  ("BadText", GK.exc "spot"),
  ("LETTERS", GK.con (D.str "abcdefghijklmnopqrstuvwxyz")),
  ("DIGITS", GK.con (D.str "0123456789")),
  ("SIGNS", GK.con (D.str "(),:")),
  ("run_end", GK.fn),
  ("integer_in", GK.fn),
  ("token_in", GK.fn)]
def k74_gl_1 : List (Str × GK) := [
  ("tokens_of", GK.fn),
  ("Line", GK.cls ["tokens", "taken"] ["kind", "value", "spot_at_hand", "refuse", "take", "take_one_of"]),
  ("take_tree", GK.fn),
  ("read_tree", GK.fn),
  ("_law_draws", GK.fn),
  ("_law_take", GK.fn),
  ("_law_pick", GK.fn),
  ("_law_same", GK.fn),
  ("_law_text", GK.fn),
  ("_law_spaced", GK.fn)]
def k74_gl_2 : List (Str × GK) := [
  ("_law_run", GK.fn),
  ("_law_tokens", GK.fn),
  ("_law_read", GK.fn),
  ("_law_sign_of", GK.fn),
  ("_law_edited", GK.fn),
  ("_law_refused", GK.fn),
  ("_law_goes", GK.fn),
  ("_law_leaf", GK.fn),
  ("_law_tree", GK.fn),
  ("law", GK.fn)]
def k74_gl : List (Str × GK) := k74_gl_0 ++ (k74_gl_1 ++ (k74_gl_2))
def k74_hn_0 : List (Hn) := [
  ⟨"run_end", ["text", "start", "chars", "end"], 3, [], [], none⟩,
  ⟨"integer_in", ["text", "start", "first", "end"], 2, [], [], none⟩,
  ⟨"token_in", ["text", "start", "char", "end"], 2, [], [], none⟩,
  ⟨"tokens_of", ["text", "found", "start", "kind", "value", "end"], 1, [(51, 12, 14)], [], none⟩,
  ⟨"take_tree", ["line", "waiting", "found"], 1, [(95, 14, 16), (105, 27, 29)], [("line", "Line")], none⟩,
  ⟨"read_tree", ["text", "line", "found"], 1, [], [("line", "Line")], none⟩,
  ⟨"_law_draws", ["script", "many", "cells", "left", "draws", "k", "place", "cell", "mixed"], 2, [(119, 12, 61), (122, 11, 22), (123, 12, 14)], [], none⟩,
  ⟨"_law_take", ["draws", "many"], 2, [], [], none⟩,
  ⟨"_law_pick", ["draws", "row"], 2, [], [], none⟩,
  ⟨"_law_same", ["actual", "due", "k"], 2, [], [], none⟩]
def k74_hn_1 : List (Hn) := [
  ⟨"_law_text", ["tree", "turn", "told", "left", "thing", "k"], 1, [(153, 18, 20), (153, 22, 28)], [], none⟩,
  ⟨"_law_spaced", ["draws", "text", "told", "sign"], 2, [(171, 11, 13)], [("text", "str")], none⟩,
  ⟨"_law_run", ["text", "here", "signs", "end", "turn"], 3, [], [], none⟩,
  ⟨"_law_tokens", ["text", "turn", "found", "here", "sign", "end", "begin"], 1, [(186, 19, 21)], [], none⟩,
  ⟨"_law_read", ["text", "tokens", "bad", "rows", "state", "token", "spot", "done"], 1, [(209, 19, 23), (209, 20, 22), (213, 24, 26)], [], none⟩,
  ⟨"_law_sign_of", ["draws", "common", "signs"], 2, [], [], none⟩,
  ⟨"_law_edited", ["draws", "text", "common", "pick", "k"], 3, [], [], none⟩,
  ⟨"_law_refused", ["text", "spot", "e", "other"], 2, [], [], none⟩,
  ⟨"_law_goes", ["text", "rows", "spot"], 1, [], [], none⟩,
  ⟨"_law_leaf", ["draws"], 1, [], [], none⟩]
def k74_hn_2 : List (Hn) := [
  ⟨"_law_tree", ["draws", "row", "turn", "k"], 1, [(265, 10, 28), (269, 14, 40)], [], none⟩,
  ⟨"law", ["script", "draws", "wrongs", "turn", "text", "k", "texts", "spot"], 1, [(274, 12, 36), (279, 16, 127)], [], none⟩,
  ⟨"Line.__init__", ["self", "text"], 2, [], [("self", "Line")], some ("Line", "__init__")⟩,
  ⟨"Line.kind", ["self"], 1, [], [("self", "Line")], some ("Line", "kind")⟩,
  ⟨"Line.value", ["self"], 1, [], [("self", "Line")], some ("Line", "value")⟩,
  ⟨"Line.spot_at_hand", ["self"], 1, [], [("self", "Line")], some ("Line", "spot_at_hand")⟩,
  ⟨"Line.refuse", ["self"], 1, [], [("self", "Line")], some ("Line", "refuse")⟩,
  ⟨"Line.take", ["self", "kind", "value"], 2, [], [("self", "Line")], some ("Line", "take")⟩,
  ⟨"Line.take_one_of", ["self", "kinds"], 2, [], [("self", "Line")], some ("Line", "take_one_of")⟩]
def k74_hn : List (Hn) := k74_hn_0 ++ (k74_hn_1 ++ (k74_hn_2))
abbrev k74_p : Program := PySem.Challenge.pw_exchangetowers_k74_texts_of_trees_with_a
end Z
end
section
set_option Elab.async false
set_option linter.all false
set_option maxRecDepth 100000
set_option maxHeartbeats 0
/-! The program of the law as our trees. -/
namespace Z
open PySem
def k74_b_run_end : Ss := (.cons (.asg (.name 3) (.var 1)) (.cons (.whl (.and (.cmp .lt (.var 3) (.bi .len (.cons (.var 0) .nil))) (.cmp .mem (.idx (.var 0) (.var 3)) (.var 2))) (.cons (.aug 3 .add (.c (.int (1)))) .nil)) (.cons (.ret (.var 3)) .nil)))
def k74_b_integer_in : Ss := (.cons (.asg (.name 2) (.ite (.cmp .eq (.idx (.var 0) (.var 1)) (.c (.str "-"))) (.bin .add (.var 1) (.c (.int (1)))) (.var 1))) (.cons (.asg (.name 3) (.call "run_end" (.cons (.var 0) (.cons (.var 2) (.cons (.c (.str "0123456789")) .nil))))) (.cons (.ife (.or (.cmp .eq (.var 2) (.var 3)) (.and (.cmp .eq (.idx (.var 0) (.var 2)) (.c (.str "0"))) (.cmp .gt (.bin .sub (.var 3) (.var 1)) (.c (.int (1)))))) (.cons (.ret (.tup (.cons (.c (.str "")) (.cons (.c (.int (0))) (.cons (.var 1) .nil))))) .nil) .nil) (.cons (.ret (.tup (.cons (.c (.str "integer")) (.cons (.bi .int (.cons (.sli (.var 0) (.var 1) (.var 3)) .nil)) (.cons (.var 3) .nil))))) .nil))))
def k74_b_token_in : Ss := (.cons (.asg (.name 2) (.idx (.var 0) (.var 1))) (.cons (.ife (.cmp .mem (.var 2) (.c (.str "(),:"))) (.cons (.ret (.tup (.cons (.var 2) (.cons (.var 2) (.cons (.bin .add (.var 1) (.c (.int (1)))) .nil))))) .nil) .nil) (.cons (.ife (.cmp .mem (.var 2) (.c (.str "abcdefghijklmnopqrstuvwxyz"))) (.cons (.asg (.name 3) (.call "run_end" (.cons (.var 0) (.cons (.var 1) (.cons (.c (.str "abcdefghijklmnopqrstuvwxyz")) .nil))))) (.cons (.ret (.tup (.cons (.c (.str "word")) (.cons (.sli (.var 0) (.var 1) (.var 3)) (.cons (.var 3) .nil))))) .nil)) .nil) (.cons (.ret (.call "integer_in" (.cons (.var 0) (.cons (.var 1) .nil)))) .nil))))
def k74_b_tokens_of : Ss := (.cons (.asg (.name 1) (.mat (.lst .nil))) (.cons (.asg (.name 2) (.call "run_end" (.cons (.var 0) (.cons (.c (.int (0))) (.cons (.c (.str " ")) .nil))))) (.cons (.whl (.cmp .lt (.var 2) (.bi .len (.cons (.var 0) .nil))) (.cons (.asg (.tup [3, 4, 5]) (.call "token_in" (.cons (.var 0) (.cons (.var 2) .nil)))) (.cons (.expr (.mth .append (.var 1) (.cons (.tup (.cons (.var 2) (.cons (.var 3) (.cons (.var 4) .nil)))) .nil))) (.cons (.ife (.cmp .eq (.var 3) (.c (.str ""))) (.cons (.ret (.var 1)) .nil) .nil) (.cons (.asg (.name 2) (.call "run_end" (.cons (.var 0) (.cons (.var 5) (.cons (.c (.str " ")) .nil))))) .nil))))) (.cons (.expr (.mth .append (.var 1) (.cons (.tup (.cons (.bi .len (.cons (.var 0) .nil)) (.cons (.c (.str "end")) (.cons (.c (.int (0))) .nil)))) .nil))) (.cons (.ret (.var 1)) .nil)))))
def k74_b_take_tree : Ss := (.cons (.asg (.name 1) (.mat (.lst .nil))) (.cons (.asg (.name 2) (.c .non)) (.cons (.whl (.or (.cmp .is_ (.var 2) (.c .non)) (.cmp .gt (.bi .len (.cons (.var 1) .nil)) (.c (.int (0))))) (.cons (.ife (.cmp .isn (.var 2) (.c .non)) (.cons (.expr (.mth .append (.idx (.var 1) (.neg (.c (.int (1))))) (.cons (.var 2) .nil))) (.cons (.asg (.name 2) (.c .non)) (.cons (.ife (.cmp .eq (.own "Line" "take_one_of" (.var 0) (.cons (.tup (.cons (.c (.str ",")) (.cons (.c (.str ")")) .nil))) .nil)) (.c (.str ")"))) (.cons (.asg (.name 2) (.bi .tuple (.cons (.mth .pop (.var 1) .nil) .nil))) .nil) .nil) .nil))) (.cons (.ife (.cmp .eq (.own "Line" "kind" (.var 0) .nil) (.c (.str "("))) (.cons (.expr (.own "Line" "take" (.var 0) (.cons (.c (.str "(")) .nil))) (.cons (.expr (.mth .append (.var 1) (.cons (.mat (.lst .nil)) .nil))) (.cons (.ife (.cmp .eq (.own "Line" "kind" (.var 0) .nil) (.c (.str ")"))) (.cons (.expr (.own "Line" "take" (.var 0) (.cons (.c (.str ")")) .nil))) (.cons (.asg (.name 2) (.bi .tuple (.cons (.mth .pop (.var 1) .nil) .nil))) .nil)) .nil) .nil))) (.cons (.asg (.name 2) (.own "Line" "take_one_of" (.var 0) (.cons (.tup (.cons (.c (.str "integer")) (.cons (.c (.str "word")) .nil))) .nil))) .nil)) .nil)) .nil)) (.cons (.ret (.var 2)) .nil))))
def k74_b_read_tree : Ss := (.cons (.asg (.name 1) (.new "Line" (.cons (.var 0) .nil))) (.cons (.asg (.name 2) (.call "take_tree" (.cons (.var 1) .nil))) (.cons (.expr (.own "Line" "take" (.var 1) (.cons (.c (.str "end")) .nil))) (.cons (.ret (.var 2)) .nil))))
def k74_b__law_draws : Ss := (.cons (.asg (.name 2) (.mat (.comp [7] (.seq (.sli (.var 0) .nope (.c (.int (63))))) .nope (.bin .mod (.bi .int (.cons (.var 7) .nil)) (.bin .shl (.c (.int (1))) (.c (.int (7200))))) [7]))) (.cons (.ife (.cmp .eq (.bi .len (.cons (.var 2) .nil)) (.c (.int (0)))) (.cons (.expr (.mth .append (.var 2) (.cons (.c (.int (0))) .nil))) .nil) .nil) (.cons (.asg (.name 3) (.mat (.bi .list (.cons (.var 2) .nil)))) (.cons (.asg (.name 4) (.mat (.lst .nil))) (.cons (.for_ [5] (.rng (.c (.int (0))) (.var 1)) (.cons (.asg (.name 6) (.bin .mod (.bi .int (.cons (.var 5) .nil)) (.bi .len (.cons (.var 2) .nil)))) (.cons (.ife (.and (.cmp .ge (.idx (.var 2) (.var 6)) (.bin .pow (.c (.int (10))) (.c (.int (18))))) (.cmp .gt (.idx (.var 3) (.var 6)) (.c (.int (0))))) (.cons (.expr (.mth .append (.var 4) (.cons (.bin .mod (.bi .int (.cons (.idx (.var 3) (.var 6)) .nil)) (.c (.int (1000)))) .nil))) (.cons (.asg (.sub (.var 3) (.var 6)) (.bin .fdiv (.idx (.var 3) (.var 6)) (.c (.int (1000))))) .nil)) (.cons (.asg (.name 8) (.bin .mod (.bi .int (.cons (.bin .add (.bin .add (.bin .mul (.idx (.var 2) (.var 6)) (.c (.int (48271)))) (.bin .mul (.var 5) (.c (.int (69621))))) (.c (.int (11)))) .nil)) (.c (.int (2147483647))))) (.cons (.expr (.mth .append (.var 4) (.cons (.bin .mod (.bi .int (.cons (.bin .add (.bin .add (.bin .mul (.var 8) (.var 8)) (.bin .mul (.c (.int (3))) (.var 8))) (.var 5)) .nil)) (.c (.int (1000003)))) .nil))) .nil))) .nil))) (.cons (.expr (.mth .reverse (.var 4) .nil)) (.cons (.ret (.var 4)) .nil)))))))
def k74_b__law_take : Ss := (.cons (.ife (.cmp .eq (.bi .len (.cons (.var 0) .nil)) (.c (.int (0)))) (.cons (.ret (.c (.int (0)))) .nil) .nil) (.cons (.ret (.bin .mod (.bi .int (.cons (.mth .pop (.var 0) .nil) .nil)) (.var 1))) .nil))
def k74_b__law_pick : Ss := (.cons (.ret (.idx (.var 1) (.call "_law_take" (.cons (.var 0) (.cons (.bi .len (.cons (.var 1) .nil)) .nil))))) .nil)
def k74_b__law_same : Ss := (.cons (.ife (.isi (.var 1) [.tuple, .list]) (.cons (.ife (.or (.cmp .ne (.isi (.var 0) [.tuple]) (.isi (.var 1) [.tuple])) (.cmp .ne (.isi (.var 0) [.list]) (.isi (.var 1) [.list]))) (.cons (.ret (.c (.bl false))) .nil) .nil) (.cons (.ife (.cmp .ne (.bi .len (.cons (.var 0) .nil)) (.bi .len (.cons (.var 1) .nil))) (.cons (.ret (.c (.bl false))) .nil) .nil) (.cons (.ret (.cmp .nmem (.c (.bl false)) (.comp [2] (.rng (.c (.int (0))) (.bi .len (.cons (.var 1) .nil))) .nope (.call "_law_same" (.cons (.idx (.var 0) (.var 2)) (.cons (.idx (.var 1) (.var 2)) .nil))) [2]))) .nil))) .nil) (.cons (.ife (.or (.cmp .ne (.isi (.var 0) [.bool]) (.isi (.var 1) [.bool])) (.cmp .ne (.isi (.var 0) [.int]) (.isi (.var 1) [.int]))) (.cons (.ret (.c (.bl false))) .nil) .nil) (.cons (.ife (.or (.cmp .ne (.isi (.var 0) [.str]) (.isi (.var 1) [.str])) (.cmp .ne (.cmp .is_ (.var 0) (.c .non)) (.cmp .is_ (.var 1) (.c .non)))) (.cons (.ret (.c (.bl false))) .nil) .nil) (.cons (.ret (.cmp .eq (.var 0) (.var 1))) .nil))))
def k74_b__law_text : Ss := (.cons (.asg (.tup [2, 3]) (.tup (.cons (.mat (.lst .nil)) (.cons (.mat (.lst (.cons (.var 0) .nil))) .nil)))) (.cons (.for_ [1] (.rng (.c (.int (0))) (.c (.int (400000)))) (.cons (.ife (.cmp .eq (.bi .len (.cons (.var 3) .nil)) (.c (.int (0)))) (.cons .brk .nil) .nil) (.cons (.asg (.name 4) (.mth .pop (.var 3) .nil)) (.cons (.ife (.isi (.var 4) [.list]) (.cons (.expr (.mth .append (.var 2) (.cons (.idx (.var 4) (.c (.int (0)))) .nil))) .nil) (.cons (.ife (.isi (.var 4) [.tuple]) (.cons (.expr (.mth .append (.var 3) (.cons (.lst (.cons (.c (.str ")")) .nil)) .nil))) (.cons (.for_ [5] (.rng (.c (.int (0))) (.bi .len (.cons (.var 4) .nil))) (.cons (.expr (.mth .append (.var 3) (.cons (.idx (.var 4) (.bin .sub (.bin .sub (.bi .len (.cons (.var 4) .nil)) (.c (.int (1)))) (.var 5))) .nil))) (.cons (.ife (.cmp .lt (.var 5) (.bin .sub (.bi .len (.cons (.var 4) .nil)) (.c (.int (1))))) (.cons (.expr (.mth .append (.var 3) (.cons (.lst (.cons (.c (.str ", ")) .nil)) .nil))) .nil) .nil) .nil))) (.cons (.expr (.mth .append (.var 3) (.cons (.lst (.cons (.c (.str "(")) .nil)) .nil))) .nil))) (.cons (.expr (.mth .append (.var 2) (.cons (.bi .str (.cons (.var 4) .nil)) .nil))) .nil)) .nil)) .nil)))) (.cons (.ret (.mth .join (.c (.str "")) (.cons (.var 2) .nil))) .nil)))
def k74_b__law_spaced : Ss := (.cons (.asg (.name 2) (.mat (.lst .nil))) (.cons (.for_ [3] (.txt (.var 1)) (.cons (.ife (.cmp .mem (.var 3) (.c (.str "(,)"))) (.cons (.expr (.mth .append (.var 2) (.cons (.bin .add (.bin .add (.call "_law_pick" (.cons (.var 0) (.cons (.lst (.cons (.c (.str "")) (.cons (.c (.str "")) (.cons (.c (.str "")) (.cons (.c (.str " ")) (.cons (.c (.str "  ")) .nil)))))) .nil))) (.var 3)) (.call "_law_pick" (.cons (.var 0) (.cons (.lst (.cons (.c (.str "")) (.cons (.c (.str "")) (.cons (.c (.str " ")) .nil)))) .nil)))) .nil))) .nil) (.cons (.ife (.cmp .ne (.var 3) (.c (.str " "))) (.cons (.expr (.mth .append (.var 2) (.cons (.var 3) .nil))) .nil) .nil) .nil)) .nil)) (.cons (.ret (.mth .join (.c (.str "")) (.cons (.var 2) .nil))) .nil)))
def k74_b__law_run : Ss := (.cons (.asg (.name 3) (.var 1)) (.cons (.for_ [4] (.rng (.c (.int (0))) (.bi .len (.cons (.var 0) .nil))) (.cons (.ife (.or (.cmp .ge (.var 3) (.bi .len (.cons (.var 0) .nil))) (.cmp .nmem (.idx (.var 0) (.var 3)) (.var 2))) (.cons .brk .nil) .nil) (.cons (.asg (.name 3) (.bin .add (.var 3) (.c (.int (1))))) .nil))) (.cons (.ret (.var 3)) .nil)))
def k74_b__law_tokens : Ss := (.cons (.asg (.tup [2, 3]) (.tup (.cons (.mat (.lst .nil)) (.cons (.c (.int (0))) .nil)))) (.cons (.for_ [1] (.rng (.c (.int (0))) (.bi .len (.cons (.var 0) .nil))) (.cons (.ife (.cmp .ge (.var 3) (.bi .len (.cons (.var 0) .nil))) (.cons .brk .nil) .nil) (.cons (.asg (.name 4) (.idx (.var 0) (.var 3))) (.cons (.asg (.name 5) (.bin .add (.var 3) (.c (.int (1))))) (.cons (.ife (.cmp .mem (.var 4) (.c (.str "(),:"))) (.cons (.expr (.mth .append (.var 2) (.cons (.tup (.cons (.var 4) (.cons (.var 3) .nil))) .nil))) .nil) (.cons (.ife (.cmp .mem (.var 4) (.c (.str "abcdefghijklmnopqrstuvwxyz"))) (.cons (.asg (.name 5) (.call "_law_run" (.cons (.var 0) (.cons (.var 3) (.cons (.c (.str "abcdefghijklmnopqrstuvwxyz")) .nil))))) (.cons (.expr (.mth .append (.var 2) (.cons (.tup (.cons (.sli (.var 0) (.var 3) (.var 5)) (.cons (.var 3) .nil))) .nil))) .nil)) (.cons (.ife (.cmp .mem (.var 4) (.c (.str "-0123456789"))) (.cons (.asg (.name 6) (.bin .add (.var 3) (.bi .int (.cons (.cmp .eq (.var 4) (.c (.str "-"))) .nil)))) (.cons (.asg (.name 5) (.call "_law_run" (.cons (.var 0) (.cons (.var 6) (.cons (.c (.str "0123456789")) .nil))))) (.cons (.ife (.or (.cmp .eq (.var 5) (.var 6)) (.or (.cmp .gt (.bin .sub (.var 5) (.var 6)) (.c (.int (60)))) (.and (.cmp .eq (.idx (.var 0) (.var 6)) (.c (.str "0"))) (.cmp .gt (.bin .sub (.var 5) (.var 3)) (.c (.int (1))))))) (.cons (.ret (.tup (.cons (.var 2) (.cons (.var 3) .nil)))) .nil) .nil) (.cons (.expr (.mth .append (.var 2) (.cons (.tup (.cons (.sli (.var 0) (.var 3) (.var 5)) (.cons (.var 3) .nil))) .nil))) .nil)))) (.cons (.ife (.cmp .ne (.var 4) (.c (.str " "))) (.cons (.ret (.tup (.cons (.var 2) (.cons (.var 3) .nil)))) .nil) .nil) .nil)) .nil)) .nil)) (.cons (.asg (.name 3) (.var 5)) .nil)))))) (.cons (.ret (.tup (.cons (.var 2) (.cons (.neg (.c (.int (1)))) .nil)))) .nil)))
def k74_b__law_read : Ss := (.cons (.asg (.tup [1, 2]) (.call "_law_tokens" (.cons (.var 0) .nil))) (.cons (.asg (.tup [3, 4]) (.tup (.cons (.mat (.lst (.cons (.mat (.lst .nil)) .nil))) (.cons (.c (.int (0))) .nil)))) (.cons (.for_ [5, 6] (.seq (.var 1)) (.cons (.asg (.name 7) (.c .non)) (.cons (.ife (.and (.cmp .eq (.var 5) (.c (.str "("))) (.cmp .ne (.var 4) (.c (.int (1))))) (.cons (.expr (.mth .append (.var 3) (.cons (.mat (.lst .nil)) .nil))) (.cons (.asg (.name 4) (.c (.int (0)))) .nil)) (.cons (.ife (.and (.cmp .eq (.var 5) (.c (.str ")"))) (.and (.cmp .ne (.var 4) (.c (.int (2)))) (.cmp .gt (.bi .len (.cons (.var 3) .nil)) (.c (.int (1)))))) (.cons (.asg (.name 7) (.bi .tuple (.cons (.mth .pop (.var 3) .nil) .nil))) .nil) (.cons (.ife (.and (.cmp .eq (.var 5) (.c (.str ","))) (.and (.cmp .eq (.var 4) (.c (.int (1)))) (.cmp .gt (.bi .len (.cons (.var 3) .nil)) (.c (.int (1)))))) (.cons (.asg (.name 4) (.c (.int (2)))) .nil) (.cons (.ife (.or (.cmp .mem (.var 5) (.lst (.cons (.c (.str "(")) (.cons (.c (.str ")")) (.cons (.c (.str ",")) (.cons (.c (.str ":")) .nil)))))) (.cmp .eq (.var 4) (.c (.int (1))))) (.cons (.ret (.tup (.cons (.c .non) (.cons (.var 6) .nil)))) .nil) (.cons (.ife (.cmp .mem (.idx (.var 5) (.bin .sub (.bi .len (.cons (.var 5) .nil)) (.c (.int (1))))) (.c (.str "0123456789"))) (.cons (.asg (.name 7) (.bi .int (.cons (.var 5) .nil))) .nil) (.cons (.asg (.name 7) (.var 5)) .nil)) .nil)) .nil)) .nil)) .nil)) (.cons (.ife (.cmp .isn (.var 7) (.c .non)) (.cons (.expr (.mth .append (.idx (.var 3) (.bin .sub (.bi .len (.cons (.var 3) .nil)) (.c (.int (1))))) (.cons (.var 7) .nil))) (.cons (.asg (.name 4) (.c (.int (1)))) .nil)) .nil) .nil)))) (.cons (.ife (.cmp .ge (.var 2) (.c (.int (0)))) (.cons (.ret (.tup (.cons (.c .non) (.cons (.var 2) .nil)))) .nil) .nil) (.cons (.ife (.or (.cmp .ne (.var 4) (.c (.int (1)))) (.cmp .ne (.bi .len (.cons (.var 3) .nil)) (.c (.int (1))))) (.cons (.ret (.tup (.cons (.c .non) (.cons (.bi .len (.cons (.var 0) .nil)) .nil)))) .nil) .nil) (.cons (.ret (.tup (.cons (.idx (.var 3) (.c (.int (0)))) (.cons (.neg (.c (.int (1)))) .nil)))) .nil))))))
def k74_b__law_sign_of : Ss := (.cons (.ife (.cmp .gt (.call "_law_take" (.cons (.var 0) (.cons (.c (.int (4))) .nil))) (.c (.int (0)))) (.cons (.ret (.idx (.var 1) (.call "_law_take" (.cons (.var 0) (.cons (.bi .len (.cons (.var 1) .nil)) .nil))))) .nil) .nil) (.cons (.asg (.name 2) (.c (.str " !\"#$&'()*+,-./0123456789:;<=>?@ABCDEFGHIJKLMNOPQRSTUVWXYZ[\\]^_`abcdefghijklmnopqrstuvwxyz{|}~\n\t"))) (.cons (.ret (.idx (.var 2) (.call "_law_take" (.cons (.var 0) (.cons (.bi .len (.cons (.var 2) .nil)) .nil))))) .nil)))
def k74_b__law_edited : Ss := (.cons (.asg (.name 3) (.call "_law_take" (.cons (.var 0) (.cons (.c (.int (9))) .nil)))) (.cons (.asg (.name 4) (.call "_law_take" (.cons (.var 0) (.cons (.bin .add (.bi .len (.cons (.var 1) .nil)) (.c (.int (1)))) .nil)))) (.cons (.ife (.cmp .lt (.var 3) (.c (.int (3)))) (.cons (.ret (.bin .add (.bin .add (.sli (.var 1) .nope (.var 4)) (.call "_law_sign_of" (.cons (.var 0) (.cons (.var 2) .nil)))) (.sli (.var 1) (.var 4) .nope))) .nil) .nil) (.cons (.ife (.cmp .lt (.var 3) (.c (.int (5)))) (.cons (.ret (.bin .add (.sli (.var 1) .nope (.var 4)) (.sli (.var 1) (.bin .add (.var 4) (.c (.int (1)))) .nope))) .nil) .nil) (.cons (.ife (.cmp .lt (.var 3) (.c (.int (7)))) (.cons (.ret (.bin .add (.bin .add (.sli (.var 1) .nope (.var 4)) (.call "_law_sign_of" (.cons (.var 0) (.cons (.var 2) .nil)))) (.sli (.var 1) (.bin .add (.var 4) (.c (.int (1)))) .nope))) .nil) .nil) (.cons (.ife (.cmp .eq (.var 3) (.c (.int (7)))) (.cons (.ret (.bin .add (.bin .add (.bin .add (.sli (.var 1) .nope (.var 4)) (.sli (.var 1) (.bin .add (.var 4) (.c (.int (1)))) (.bin .add (.var 4) (.c (.int (2)))))) (.sli (.var 1) (.var 4) (.bin .add (.var 4) (.c (.int (1)))))) (.sli (.var 1) (.bin .add (.var 4) (.c (.int (2)))) .nope))) .nil) .nil) (.cons (.ret (.sli (.var 1) .nope (.var 4))) .nil)))))))
def k74_b__law_refused : Ss := (.cons (.tryS (.cons (.expr (.call "read_tree" (.cons (.var 0) .nil))) .nil) "BadText" "spot" 1) (.cons (.ret (.c (.bl false))) .nil))
def k74_b__law_goes : Ss := (.cons (.asg (.tup [1, 2]) (.call "_law_read" (.cons (.var 0) .nil))) (.cons (.ife (.cmp .is_ (.var 1) (.c .non)) (.cons (.ret (.call "_law_refused" (.cons (.var 0) (.cons (.var 2) .nil)))) .nil) .nil) (.cons (.ret (.call "_law_same" (.cons (.call "read_tree" (.cons (.var 0) .nil)) (.cons (.idx (.var 1) (.c (.int (0)))) .nil)))) .nil)))
def k74_b__law_leaf : Ss := (.cons (.ret (.call "_law_pick" (.cons (.var 0) (.cons (.lst (.cons (.tup .nil) (.cons (.c (.int (0))) (.cons (.c (.int (7))) (.cons (.neg (.c (.int (1)))) (.cons (.neg (.c (.int (30)))) (.cons (.c (.int (100))) (.cons (.c (.int (905))) (.cons (.c (.str "a")) (.cons (.c (.str "in")) (.cons (.c (.str "xyz")) .nil))))))))))) .nil)))) .nil)
def k74_b__law_tree : Ss := (.cons (.asg (.name 1) (.mat (.lst (.cons (.call "_law_leaf" (.cons (.var 0) .nil)) .nil)))) (.cons (.for_ [2] (.rng (.c (.int (0))) (.call "_law_take" (.cons (.var 0) (.cons (.c (.int (10))) .nil)))) (.cons (.expr (.mth .append (.var 1) (.cons (.call "_law_leaf" (.cons (.var 0) .nil)) .nil))) (.cons (.asg (.name 3) (.call "_law_take" (.cons (.var 0) (.cons (.bin .add (.bi .len (.cons (.var 1) .nil)) (.c (.int (1)))) .nil)))) (.cons (.asg (.name 1) (.mat (.bin .add (.sli (.var 1) .nope (.var 3)) (.lst (.cons (.bi .tuple (.cons (.sli (.var 1) (.var 3) .nope) .nil)) .nil))))) .nil)))) (.cons (.ife (.cmp .eq (.bi .len (.cons (.var 1) .nil)) (.c (.int (1)))) (.cons (.ret (.idx (.var 1) (.c (.int (0))))) .nil) .nil) (.cons (.ret (.bi .tuple (.cons (.var 1) .nil))) .nil))))
def k74_b_law : Ss := (.cons (.asg (.name 1) (.mat (.call "_law_draws" (.cons (.var 0) (.cons (.c (.int (1000))) .nil))))) (.cons (.asg (.name 2) (.lst (.cons (.c (.str "0")) (.cons (.c (.str "00")) (.cons (.c (.str "01")) (.cons (.c (.str "-")) (.cons (.c (.str "-0")) (.cons (.c (.str "-07")) (.cons (.c (.str "--1")) (.cons (.c (.str ",")) (.cons (.c (.str ":")) (.cons (.c (.str "(")) (.cons (.c (.str ")")) (.cons (.c (.str "A")) (.cons (.c (.str ".")) (.cons (.c (.str "\n")) (.cons (.c (.str "\t")) (.cons (.c (.str "a b")) (.cons (.c (.str "1 2")) (.cons (.c (.str "1a")) (.cons (.c (.str "()")) .nil))))))))))))))))))))) (.cons (.for_ [3] (.rng (.c (.int (0))) (.c (.int (8)))) (.cons (.asg (.name 4) (.call "_law_text" (.cons (.call "_law_tree" (.cons (.var 1) .nil)) .nil))) (.cons (.asg (.name 5) (.call "_law_take" (.cons (.var 1) (.cons (.bin .add (.bi .len (.cons (.var 4) .nil)) (.c (.int (1)))) .nil)))) (.cons (.asg (.name 6) (.mat (.lst (.cons (.var 4) (.cons (.call "_law_edited" (.cons (.var 1) (.cons (.var 4) (.cons (.c (.str " ()0123456789,:-az")) .nil)))) (.cons (.call "_law_edited" (.cons (.var 1) (.cons (.call "_law_spaced" (.cons (.var 1) (.cons (.var 4) .nil))) (.cons (.c (.str " (),-0a")) .nil)))) .nil)))))) (.cons (.expr (.mth .append (.var 6) (.cons (.bin .add (.bin .add (.sli (.var 4) .nope (.var 5)) (.call "_law_pick" (.cons (.var 1) (.cons (.var 2) .nil)))) (.sli (.var 4) (.var 5) .nope)) .nil))) (.cons (.expr (.mth .append (.var 6) (.cons (.bin .add (.var 4) (.call "_law_pick" (.cons (.var 1) (.cons (.lst (.cons (.c (.str "\n")) (.cons (.c (.str " ")) (.cons (.c (.str ",")) (.cons (.c (.str "3")) (.cons (.c (.str ":")) (.cons (.c (.str ")")) (.cons (.c (.str "(")) (.cons (.c (.str " ()")) (.cons (.c (.str " a")) (.cons (.c (.str "-")) .nil))))))))))) .nil)))) .nil))) (.cons (.ife (.cmp .mem (.c (.bl false)) (.comp [4] (.seq (.var 6)) .nope (.call "_law_goes" (.cons (.var 4) .nil)) [4])) (.cons (.ret (.c (.bl false))) .nil) .nil) .nil))))))) (.cons (.for_ [4, 7] (.seq (.lst (.cons (.tup (.cons (.c (.str "")) (.cons (.c (.int (0))) .nil))) (.cons (.tup (.cons (.c (.str " ")) (.cons (.c (.int (1))) .nil))) (.cons (.tup (.cons (.c (.str "(")) (.cons (.c (.int (1))) .nil))) (.cons (.tup (.cons (.c (.str "(1, )")) (.cons (.c (.int (4))) .nil))) (.cons (.tup (.cons (.c (.str "(1 2)")) (.cons (.c (.int (3))) .nil))) (.cons (.tup (.cons (.c (.str "(,)")) (.cons (.c (.int (1))) .nil))) (.cons (.tup (.cons (.c (.str ")")) (.cons (.c (.int (0))) .nil))) (.cons (.tup (.cons (.c (.str "1, 2")) (.cons (.c (.int (1))) .nil))) (.cons (.tup (.cons (.c (.str "a1")) (.cons (.c (.int (1))) .nil))) .nil))))))))))) (.cons (.ife (.not (.call "_law_refused" (.cons (.var 4) (.cons (.var 7) .nil)))) (.cons (.ret (.c (.bl false))) .nil) .nil) .nil)) (.cons (.ret (.and (.call "_law_refused" (.cons (.c (.str "(1, 2")) (.cons (.c (.int (5))) .nil))) (.and (.call "_law_refused" (.cons (.c (.str "(1, 02)")) (.cons (.c (.int (4))) .nil))) (.and (.call "_law_refused" (.cons (.c (.str "(1, - 2)")) (.cons (.c (.int (4))) .nil))) (.call "_law_refused" (.cons (.c (.str "aB")) (.cons (.c (.int (1))) .nil))))))) .nil)))))
def k74_b_Line___init__ : Ss := (.cons (.asg (.att "Line" (.var 0) "tokens") (.call "tokens_of" (.cons (.var 1) .nil))) (.cons (.asg (.att "Line" (.var 0) "taken") (.c (.int (0)))) .nil))
def k74_b_Line_kind : Ss := (.cons (.ret (.idx (.idx (.att "Line" (.var 0) "tokens") (.att "Line" (.var 0) "taken")) (.c (.int (1))))) .nil)
def k74_b_Line_value : Ss := (.cons (.ret (.idx (.idx (.att "Line" (.var 0) "tokens") (.att "Line" (.var 0) "taken")) (.c (.int (2))))) .nil)
def k74_b_Line_spot_at_hand : Ss := (.cons (.ret (.idx (.idx (.att "Line" (.var 0) "tokens") (.att "Line" (.var 0) "taken")) (.c (.int (0))))) .nil)
def k74_b_Line_refuse : Ss := (.cons (.raise "BadText" "spot" (.own "Line" "spot_at_hand" (.var 0) .nil)) .nil)
def k74_b_Line_take : Ss := (.cons (.ife (.cmp .ne (.own "Line" "kind" (.var 0) .nil) (.var 1)) (.cons (.expr (.own "Line" "refuse" (.var 0) .nil)) .nil) .nil) (.cons (.asg (.name 2) (.own "Line" "value" (.var 0) .nil)) (.cons (.augA "Line" (.var 0) "taken" .add (.c (.int (1)))) (.cons (.ret (.var 2)) .nil))))
def k74_b_Line_take_one_of : Ss := (.cons (.ife (.cmp .nmem (.own "Line" "kind" (.var 0) .nil) (.var 1)) (.cons (.expr (.own "Line" "refuse" (.var 0) .nil)) .nil) .nil) (.cons (.ret (.own "Line" "take" (.var 0) (.cons (.own "Line" "kind" (.var 0) .nil) .nil))) .nil))
def k74_P_0 : Prg := [
  ("run_end", ⟨3, 4, k74_b_run_end⟩),
  ("integer_in", ⟨2, 4, k74_b_integer_in⟩),
  ("token_in", ⟨2, 4, k74_b_token_in⟩),
  ("tokens_of", ⟨1, 6, k74_b_tokens_of⟩),
  ("take_tree", ⟨1, 3, k74_b_take_tree⟩),
  ("read_tree", ⟨1, 3, k74_b_read_tree⟩),
  ("_law_draws", ⟨2, 9, k74_b__law_draws⟩),
  ("_law_take", ⟨2, 2, k74_b__law_take⟩),
  ("_law_pick", ⟨2, 2, k74_b__law_pick⟩),
  ("_law_same", ⟨2, 3, k74_b__law_same⟩)]
def k74_P_1 : Prg := [
  ("_law_text", ⟨1, 6, k74_b__law_text⟩),
  ("_law_spaced", ⟨2, 4, k74_b__law_spaced⟩),
  ("_law_run", ⟨3, 5, k74_b__law_run⟩),
  ("_law_tokens", ⟨1, 7, k74_b__law_tokens⟩),
  ("_law_read", ⟨1, 8, k74_b__law_read⟩),
  ("_law_sign_of", ⟨2, 3, k74_b__law_sign_of⟩),
  ("_law_edited", ⟨3, 5, k74_b__law_edited⟩),
  ("_law_refused", ⟨2, 4, k74_b__law_refused⟩),
  ("_law_goes", ⟨1, 3, k74_b__law_goes⟩),
  ("_law_leaf", ⟨1, 1, k74_b__law_leaf⟩)]
def k74_P_2 : Prg := [
  ("_law_tree", ⟨1, 4, k74_b__law_tree⟩),
  ("law", ⟨1, 8, k74_b_law⟩),
  ("Line.__init__", ⟨2, 2, k74_b_Line___init__⟩),
  ("Line.kind", ⟨1, 1, k74_b_Line_kind⟩),
  ("Line.value", ⟨1, 1, k74_b_Line_value⟩),
  ("Line.spot_at_hand", ⟨1, 1, k74_b_Line_spot_at_hand⟩),
  ("Line.refuse", ⟨1, 1, k74_b_Line_refuse⟩),
  ("Line.take", ⟨2, 3, k74_b_Line_take⟩),
  ("Line.take_one_of", ⟨2, 2, k74_b_Line_take_one_of⟩)]
def k74_P : Prg := k74_P_0 ++ (k74_P_1 ++ (k74_P_2))
theorem k74_P_ok : cAll k74_p k74_gl k74_hn = some k74_P := by kernel_rfl
theorem k74_l_run_end : k74_P.lookup ("run_end" : Str) = some ⟨3, 4, k74_b_run_end⟩ := by kernel_rfl
theorem k74_l_integer_in : k74_P.lookup ("integer_in" : Str) = some ⟨2, 4, k74_b_integer_in⟩ := by kernel_rfl
theorem k74_l_token_in : k74_P.lookup ("token_in" : Str) = some ⟨2, 4, k74_b_token_in⟩ := by kernel_rfl
theorem k74_l_tokens_of : k74_P.lookup ("tokens_of" : Str) = some ⟨1, 6, k74_b_tokens_of⟩ := by kernel_rfl
theorem k74_l_take_tree : k74_P.lookup ("take_tree" : Str) = some ⟨1, 3, k74_b_take_tree⟩ := by kernel_rfl
theorem k74_l_read_tree : k74_P.lookup ("read_tree" : Str) = some ⟨1, 3, k74_b_read_tree⟩ := by kernel_rfl
theorem k74_l__law_draws : k74_P.lookup ("_law_draws" : Str) = some ⟨2, 9, k74_b__law_draws⟩ := by kernel_rfl
theorem k74_l__law_take : k74_P.lookup ("_law_take" : Str) = some ⟨2, 2, k74_b__law_take⟩ := by kernel_rfl
theorem k74_l__law_pick : k74_P.lookup ("_law_pick" : Str) = some ⟨2, 2, k74_b__law_pick⟩ := by kernel_rfl
theorem k74_l__law_same : k74_P.lookup ("_law_same" : Str) = some ⟨2, 3, k74_b__law_same⟩ := by kernel_rfl
theorem k74_l__law_text : k74_P.lookup ("_law_text" : Str) = some ⟨1, 6, k74_b__law_text⟩ := by kernel_rfl
theorem k74_l__law_spaced : k74_P.lookup ("_law_spaced" : Str) = some ⟨2, 4, k74_b__law_spaced⟩ := by kernel_rfl
theorem k74_l__law_run : k74_P.lookup ("_law_run" : Str) = some ⟨3, 5, k74_b__law_run⟩ := by kernel_rfl
theorem k74_l__law_tokens : k74_P.lookup ("_law_tokens" : Str) = some ⟨1, 7, k74_b__law_tokens⟩ := by kernel_rfl
theorem k74_l__law_read : k74_P.lookup ("_law_read" : Str) = some ⟨1, 8, k74_b__law_read⟩ := by kernel_rfl
theorem k74_l__law_sign_of : k74_P.lookup ("_law_sign_of" : Str) = some ⟨2, 3, k74_b__law_sign_of⟩ := by kernel_rfl
theorem k74_l__law_edited : k74_P.lookup ("_law_edited" : Str) = some ⟨3, 5, k74_b__law_edited⟩ := by kernel_rfl
theorem k74_l__law_refused : k74_P.lookup ("_law_refused" : Str) = some ⟨2, 4, k74_b__law_refused⟩ := by kernel_rfl
theorem k74_l__law_goes : k74_P.lookup ("_law_goes" : Str) = some ⟨1, 3, k74_b__law_goes⟩ := by kernel_rfl
theorem k74_l__law_leaf : k74_P.lookup ("_law_leaf" : Str) = some ⟨1, 1, k74_b__law_leaf⟩ := by kernel_rfl
theorem k74_l__law_tree : k74_P.lookup ("_law_tree" : Str) = some ⟨1, 4, k74_b__law_tree⟩ := by kernel_rfl
theorem k74_l_law : k74_P.lookup ("law" : Str) = some ⟨1, 8, k74_b_law⟩ := by kernel_rfl
theorem k74_l_Line___init__ : k74_P.lookup ("Line.__init__" : Str) = some ⟨2, 2, k74_b_Line___init__⟩ := by kernel_rfl
theorem k74_l_Line_kind : k74_P.lookup ("Line.kind" : Str) = some ⟨1, 1, k74_b_Line_kind⟩ := by kernel_rfl
theorem k74_l_Line_value : k74_P.lookup ("Line.value" : Str) = some ⟨1, 1, k74_b_Line_value⟩ := by kernel_rfl
theorem k74_l_Line_spot_at_hand : k74_P.lookup ("Line.spot_at_hand" : Str) = some ⟨1, 1, k74_b_Line_spot_at_hand⟩ := by kernel_rfl
theorem k74_l_Line_refuse : k74_P.lookup ("Line.refuse" : Str) = some ⟨1, 1, k74_b_Line_refuse⟩ := by kernel_rfl
theorem k74_l_Line_take : k74_P.lookup ("Line.take" : Str) = some ⟨2, 3, k74_b_Line_take⟩ := by kernel_rfl
theorem k74_l_Line_take_one_of : k74_P.lookup ("Line.take_one_of" : Str) = some ⟨2, 2, k74_b_Line_take_one_of⟩ := by kernel_rfl
end Z
end
section
set_option Elab.async false
set_option linter.all false
set_option maxRecDepth 100000
set_option maxHeartbeats 0
namespace Z
open PySem PySem.Spec PyProof.Rows L2
abbrev k74_R : PySem.W.OpenRow := PySem.W.OpenLaw.row PySem.Challenge.rw_exchangetowers_k74_texts_of_trees_with_a
abbrev k74_hk : PySem.W.Hook := hookZ 5 k74_p k74_gl (fnsOf k74_p k74_hn) (tabsOf k74_gl)
def k74_ob (s : PySem.W.SharedT) : AlZ := obsZG 5 k74_p k74_gl (fnsOf k74_p k74_hn) (tabsOf k74_gl) (HandSHeadRun.getT s)
theorem k74_ob_eq (s : PySem.W.SharedT) : k74_ob s = k74_hk.obs s.abs := obsZG_eq (HandSHeadRun.getT_eq s)
def k74_loose : List Str := (("TowerError" : Str) :: ("_wall" : Str) :: k74_gl.map (·.1)).filter fun x => !(x == ("law" : Str))
theorem k74_run2 (b : Bool) (w : World) : HandSHeadRun.RunEq k74_R (PySem.W.view k74_R.prog [35]) k74_hk k74_ob 3000 k74_loose (w.withFollow "special-get-raises" b) := by
  cases b with
  | false =>
    intro os
    kernel_rfl
  | true =>
    intro os
    kernel_rfl
theorem k74_run (w : World) : HandSHeadRun.RunEq k74_R (PySem.W.view k74_R.prog [35]) k74_hk k74_ob 3000 k74_loose w := by
  have h := k74_run2 (w.params.followText "special-get-raises") w
  rwa [World.withFollow_self] at h
theorem k74_hints : hintsOk k74_p k74_hn = true := by kernel_rfl
def k74_gg : Bool := k74_hn.all fun h => match h.cm with | none => (match k74_gl.lookup h.f with | some .fn => true | _ => false) | some _ => true
theorem k74_cls : clsChk k74_p k74_gl k74_hn = true := by kernel_rfl
def k74_gf : Bool := k74_gl.all fun p => match p.2 with | .fn => k74_hn.any fun h => h.f == p.1 && h.cm.isNone | _ => true
theorem k74_gg_ok : k74_gg = true := by kernel_rfl
theorem k74_gf_ok : k74_gf = true := by kernel_rfl
theorem k74_some : (cAll k74_p k74_gl k74_hn).isSome = true := by kernel_rfl
end Z
end
section
set_option Elab.async false
set_option linter.all false
set_option maxRecDepth 100000
set_option maxHeartbeats 0
namespace Z
open PySem PySem.Spec PyProof.Rows L2
theorem ints_reps {K : PySem.W.Frag} {w : World} {as F : List Addr} {H : Hp} : ∀ ns : List Int, Reps K w as F H (ns.map V.int) (ns.map D.int)
  | [] => .nil
  | n :: ns => .cons (.int n) (ints_reps ns)
/-- the law's promise from what the evaluator gives -/
theorem law_sp {K : PySem.W.Frag} {w : World} {mg : Str → Option Value} {Fn_ : Fn} {f : Str} {H : Hp} {a : Addr} {ns : List Int} {M : Mem} (h : Fn_ f [.sc (ns.map .int)] [] = some (.ok (.bl true) M)) (hO : Only H) (hS : SqL K H a (ns.map V.int)) :
    spR K w mg Fn_ f 1 [.ref a] H (fun v _ => v = .bl true) fun _ _ _ => False := by
  have hs : ScL K H a (ns.map V.int) := by
    rcases hS with (hS | ⟨o, hS⟩) | hS
    · rcases hO a with q | ⟨o, xs, q⟩
      · rw [q] at hS
        cases hS
      · rw [q] at hS
        cases hS
    · exact .inl ⟨o, hS⟩
    · exact .inr hS
  refine ⟨rfl, [], [], [], _, _, ⟨rfl, .nil, fun a ha => (by cases ha), fun n a o e => (by simp at e)⟩, .cons (.sc hs (ints_reps ns)) .nil, h, fun d M' e as' H' v L hM hr => ?_, fun c p M' e => (by cases e)⟩
  cases e
  cases hr with
  | val hr =>
    cases hr
    rfl
end Z
namespace Z
open PySem PySem.Spec PyProof.Rows L2
/-- how an exception lies, at whatever world -/
def CXw (P : Program) : CXT := fun outer H s E u s' => ∃ w, L2N.CX P w outer H s E u s'
theorem fn_w {P : Program} {w : World} {K : PySem.W.Frag} {mg : Str → Option Value} {base : Heap} {k : Nat} {f : Addr} {fd : FuncData} {ps : List Str} {sp : Sp} (F : FnOk P w K mg base (L2N.CX P w) k f fd ps sp) : FnOk P w K mg base (CXw P) k f fd ps sp :=
  ⟨F.len, fun A outer s H args us vs Q E hr he hb hv hs => codeAny_mono (F.run A outer s H args us vs Q E hr he hb hv hs) fun r s' q => by
    cases r with
    | error e => exact ⟨w, q⟩
    | ok fl => cases fl <;> exact q⟩
theorem cxw_no {P : Program} (H : Hp) (s : Shared) (e : Value) (s' : Shared) (h : CXw P [] H s (fun _ _ _ => False) e s') : False := by
  obtain ⟨w, _, _, _, _, _, _, _, _, _, _, _, _, q⟩ := h
  exact q
end Z
open PySem PySem.W PySem.Calls PyProof.Rows
abbrev Z.k74_Q : Program := PySem.W.view Z.k74_R.prog [35]
abbrev Z.k74_d : DefRec := HandSHeadRun.topDef Z.k74_R.prog 35
theorem Z.k74_1 : opening Z.k74_R.prog = plainProg Z.k74_R.prog.main.scope.names := by kernel_rfl
theorem Z.k74_2 (s : Shared) : fenceModules? Z.k74_R.prog s = some s := by kernel_rfl
theorem Z.k74_3 : PySem.W.defOf Z.k74_Q Z.k74_R.name = some (Z.k74_d, []) := by kernel_rfl
theorem Z.k74_4 : Z.k74_R.prog.theDef Z.k74_R.name = some (Z.k74_d.params, Z.k74_d.body, Z.k74_d.scope) := by kernel_rfl
theorem Z.k74_5 : kwWritten? Z.k74_d.params.kwonlyargs Z.k74_d.params.kw_defaults = some [] := by kernel_rfl
theorem Z.k74_6 : (!Z.k74_R.writes || Z.k74_R.records.isEmpty) = true := by rfl
theorem Z.k74_7 : Z.k74_R.wellSaid = true := by decide +kernel
theorem Z.k74_8 : (chainsOk Z.k74_Q && opensWell Z.k74_R.prog && (frees Z.k74_R.toRowW && Z.k74_R.within.isEmpty)) = true := by decide +kernel
theorem Z.k74_9 : Z.k74_R.prog.bare := ⟨rfl, rfl, rfl, rfl, rfl, by decide +kernel⟩
theorem Z.k74_0 : Z.k74_R.toRowW.promised := by w_witness2
theorem Z.k74_dn : Z.k74_d.name = ("law" : PySem.Str) := by kernel_rfl
theorem Z.k74_df : Z.k74_d.params.defaults = [] := by kernel_rfl
theorem Z.k74_nm : Z.k74_R.prog = Z.k74_p := rfl
namespace Z
open PySem PySem.Spec PyProof.Rows L2
theorem k74_law_in : ∃ h ∈ k74_hn, h.f = ("law" : Str) ∧ h.N.take h.ps = [("script" : Str)] ∧ h.cm = none := by
  have e : (k74_hn.any fun h => decide (h.f = ("law" : Str)) && (decide (h.N.take h.ps = [("script" : Str)]) && decide (h.cm = none))) = true := by kernel_rfl
  obtain ⟨h, h1, h2⟩ := List.any_eq_true.mp e
  have h3 := band h2
  have h4 := band h3.2
  exact ⟨h, h1, of_decide_eq_true h3.1, of_decide_eq_true h4.1, of_decide_eq_true h4.2⟩
theorem k74_F (P : Prg) (hP : cAll k74_p k74_gl k74_hn = some P) (hse : SameOk P) (k : Nat) (pure_ : ∀ ns : List Int, ∃ M, callK P true k "law" [.sc (ns.map .int)] [] = some (.ok (.bl true) M)) (w : World) (mg : Str → Option Value) (fa : Addr) (h : Heap) (Y : k74_hk.says w h) (G : h.Ns mainGlobals mg) (hfa : mg ("law" : Str) = some (.ref fa)) :
    ∃ (K : PySem.W.Frag) (fd : FuncData) (sp : Sp), K.In h ∧ (∀ (s : Shared) (u : Value), BindsTo s fd ⟨[u], []⟩ [(("script" : Str), u)]) ∧
        (∀ (H : Hp) (a : Addr) (ns : List Int), ns.length ≤ 63 → Only H → SqL K H a (ns.map V.int) → sp [.ref a] H (fun v _ => v = .bl true) fun _ _ _ => False) ∧
        ∀ base : Heap, K.In base → base.Ns mainGlobals mg → FnOk k74_R.prog w K mg base (CXw k74_R.prog) k fa fd [("script" : Str)] sp := by
  obtain ⟨K, KX, c⟩ := Y
  have gls := gls_ok (p := k74_p) KX G c
  have hgf : ∀ f, k74_gl.lookup f = some .fn → ∃ h ∈ k74_hn, h.f = f ∧ h.cm = none := fun f hf => by
    have h1 := List.all_eq_true.mp k74_gf_ok _ (PySem.mem_of_lookup hf)
    obtain ⟨h, h2, h3⟩ := List.any_eq_true.mp h1
    have h4 := band h3
    exact ⟨h, h2, eq_of_beq h4.1, Option.isNone_iff_eq_none.mp h4.2⟩
  have hgg : ∀ h ∈ k74_hn, h.cm = none → k74_gl.lookup h.f = some .fn := fun h hh hc => by
    have h1 := List.all_eq_true.mp k74_gg_ok h hh
    rw [hc] at h1
    dsimp only at h1
    split at h1
    · rename_i e
      exact e
    · cases h1
  have hnd : ∀ h ∈ k74_hn, ∀ h' ∈ k74_hn, h.f = h'.f → h = h' := by
    have nd : (k74_hn.map (·.f)).Nodup := of_decide_eq_true (band k74_hints).2
    intro h h1 h' h2 e
    obtain ⟨i, hi, e1⟩ := List.getElem_of_mem h1
    obtain ⟨j, hj, e2⟩ := List.getElem_of_mem h2
    have := nd_ix (i := i) (j := j) (x := h.f) nd (by rw [List.getElem?_map, List.getElem?_eq_getElem hi, e1]; rfl) (by rw [List.getElem?_map, List.getElem?_eq_getElem hj, e2, e]; rfl)
    subst this
    rw [← e1, e2]
  have dfs := defsZ (p := k74_p) KX G c k74_hints hgg
  obtain ⟨hl, h1, h2, h3, h4⟩ := k74_law_in
  have all := fun base => defs_ok (prog := k74_p) (w := w) (base := base) hP hnd hgf dfs gls (clsZ KX G c k74_cls) (fun _ => hse) k k (Nat.le_refl k) hl h1
  obtain ⟨a, name, qual, params, body, scope, dV, kV, doc, pm, cdv, ct, oc, an, od, osl, g1, g2, g3, g4, g6, g7, g8⟩ := dfs hl h1
  unfold DefAt at g2
  rw [h4] at g2
  obtain ⟨g2, _⟩ := g2
  rw [h2] at g2
  rw [hfa] at g2
  cases g2
  rw [h3] at g6
  refine ⟨K, PySem.W.fnOf name qual params body scope dV kV doc pm an cdv ct, spR K w mg (callK P true k) "law" 1, KX, fun s u => .of_eq (g6 [u] rfl), fun H a ns hn hO hS => ?_, fun base hb hbn => ?_⟩
  · obtain ⟨M, hM⟩ := pure_ ns
    exact law_sp hM hO hS
  · obtain ⟨a', fd', e1, ⟨oc', od', osl', e2⟩, e4, e5, e6⟩ := all base
    unfold DefAt at e1
    rw [h4] at e1
    obtain ⟨e1, _⟩ := e1
    rw [h2, hfa] at e1
    cases e1
    rw [g3] at e2
    cases e2
    rw [h3, h2] at e5
    exact fn_w e5
end Z

open PySem PySem.W PySem.Calls PyProof.Rows
theorem Z.k74_walk (P : Z.Prg) (hP : Z.cAll Z.k74_p Z.k74_gl Z.k74_hn = some P) (hse : Z.SameOk P) (k : Nat) (hk : L2.Room k callerA) (pure_ : ∀ ns : List Int, ∃ M, Z.callK P true k "law" [.sc (ns.map .int)] [] = some (.ok (.bl true) M)) :
    WalkO Z.k74_Q Z.k74_loose (XL Z.k74_Q []) Z.k74_hk.says Z.k74_R.toRowW Z.k74_d [] (fun f vs => PySem.call f vs) := by
  refine L2.walk_ofE (l := PySem.Challenge.rw_exchangetowers_k74_texts_of_trees_with_a) (n := 63) (k := k) (x := ("script" : PySem.Str)) (CX := Z.CXw Z.k74_R.prog) rfl (by decide) Z.k74_df hk (fun w mg fa h Y G hm => ?_) Z.cxw_no
  exact Z.k74_F P hP hse k pure_ w mg fa h Y G (by rw [← Z.k74_dn]; exact hm)
theorem Z.k74_end (P : Z.Prg) (hP : Z.cAll Z.k74_p Z.k74_gl Z.k74_hn = some P) (hse : Z.SameOk P) (k : Nat) (hk : L2.Room k callerA) (pure_ : ∀ ns : List Int, ∃ M, Z.callK P true k "law" [.sc (ns.map .int)] [] = some (.ok (.bl true) M)) : PySem.Challenge.rw_exchangetowers_k74_texts_of_trees_with_a.Holds := by
  w_on; o_law
  exact HandSHeadRun.head_any Z.k74_ob_eq Z.k74_1 Z.k74_2 Z.k74_run Z.k74_3 Z.k74_4 Z.k74_5 Z.k74_6 Z.k74_7 Z.k74_8 Z.k74_9 Z.k74_0 (Z.k74_walk P hP hse k hk pure_)
end
section
set_option Elab.async false
set_option linter.all false
set_option maxRecDepth 100000
set_option maxHeartbeats 1000000
set_option autoImplicit false
/-! What a run ends in, backwards: rules for each kind of expression and statement. E: what holds where it raises. -/
namespace Z.W0
open PySem
abbrev Ex := Str → List (Str × D) → Mem → Prop
abbrev noE : Ex := fun _ _ _ => False
/-- how a run over the memory ends -/
def wR {α : Type} (x : R α) (Q : α → Mem → Prop) (E : Ex) : Prop := match x with
  | none => False
  | some (.ok a M) => Q a M
  | some (.exc c p M) => E c p M
def wO (x : Option Fl) (Q : Fl → Prop) : Prop := match x with
  | none => False
  | some fl => Q fl
theorem wR.mono {α : Type} {x : R α} {Q Q' : α → Mem → Prop} {E E' : Ex} (h : wR x Q E) (hq : ∀ a M, Q a M → Q' a M) (he : ∀ c p M, E c p M → E' c p M) : wR x Q' E' := by
  match x, h with
  | some (.ok a M), h => exact hq a M h
  | some (.exc c p M), h => exact he c p M h
theorem wR.ok {α : Type} {x : R α} {Q : α → Mem → Prop} (h : wR x Q noE) : ∃ a M, x = some (.ok a M) ∧ Q a M := by
  match x, h with
  | some (.ok a M), h => exact ⟨a, M, rfl, h⟩
theorem wR.of {α : Type} {x : R α} {a : α} {M : Mem} {Q : α → Mem → Prop} {E : Ex} (e : x = some (.ok a M)) (h : Q a M) : wR x Q E := by
  rw [e]
  exact h
theorem wO.of {x : Option Fl} {fl : Fl} {Q : Fl → Prop} (e : x = some fl) (h : Q fl) : wO x Q := by
  rw [e]
  exact h
theorem wO.get {x : Option Fl} {Q : Fl → Prop} (h : wO x Q) : ∃ fl, x = some fl ∧ Q fl := by
  match x, h with
  | some fl, h => exact ⟨fl, rfl, h⟩
theorem wO.mono {x : Option Fl} {Q Q' : Fl → Prop} (h : wO x Q) (hq : ∀ fl, Q fl → Q' fl) : wO x Q' := by
  match x, h with
  | some fl, h => exact hq fl h
theorem wR_bind {α β : Type} {x : R α} {f : α → Mem → R β} {Q : β → Mem → Prop} {E : Ex} (h : wR x (fun a M => wR (f a M) Q E) E) : wR (x.bind f) Q E := by
  match x, h with
  | some (.ok a M), h => exact h
  | some (.exc c p M), h => exact h
theorem wO_onR {α : Type} {env : Env} {x : R α} {f : α → Mem → Option Fl} {Q : Fl → Prop} (h : wR x (fun a M => wO (f a M) Q) fun c p M => Q (.ex env c p M)) : wO (onR env x f) Q := by
  match x, h with
  | some (.ok a M), h => exact h
  | some (.exc c p M), h => exact h
def wE (g : G) (e : E) (env : Env) (M : Mem) (Q : D → Mem → Prop) (X : Ex) : Prop := wR (exE g e env M) Q X
def wT (g : G) (e : E) (env : Env) (M : Mem) (Q : Bool → Mem → Prop) (X : Ex) : Prop := wR (exT g e env M) Q X
def wEs (g : G) (e : Es) (env : Env) (M : Mem) (Q : List D → Mem → Prop) (X : Ex) : Prop := wR (exEs g e env M) Q X
def wI (g : G) (e : It) (env : Env) (M : Mem) (Q : Wk → Mem → Prop) (X : Ex) : Prop := wR (exI g e env M) Q X
def wS (g : G) (s : S) (env : Env) (M : Mem) (Q : Fl → Prop) : Prop := wO (exS g s env M) Q
def wSs (g : G) (s : Ss) (env : Env) (M : Mem) (Q : Fl → Prop) : Prop := wO (exSs g s env M) Q
variable {g : G} {env : Env} {M : Mem} {X : Ex}
section
variable {Q : D → Mem → Prop} {T : Bool → Mem → Prop}
theorem vE_c {d : D} (h : Q d M) : wE g (.c d) env M Q X := h
theorem vE_nope (h : Q .non M) : wE g .nope env M Q X := h
theorem vE_var {i : Nat} {d : D} (e : env[i]? = some (some d)) (h : Q d M) : wE g (.var i) env M Q X := by
  unfold wE
  rw [exE, e]
  exact h
theorem vE_bin {op : BOp} {a b : E} (h : wE g a env M (fun x M => wE g b env M (fun y M => ∃ r, binD op x y M = some r ∧ Q r M) X) X) : wE g (.bin op a b) env M Q X := by
  unfold wE
  rw [exE]
  refine wR_bind (wR.mono h (fun x M h => wR_bind (wR.mono h (fun y M h => ?_) fun _ _ _ h => h)) fun _ _ _ h => h)
  obtain ⟨r, e, h⟩ := h
  rw [e]
  exact h
theorem vE_neg {a : E} (h : wE g a env M (fun x M => ∃ i, x = .int i ∧ Q (.int (-i)) M) X) : wE g (.neg a) env M Q X := by
  unfold wE
  rw [exE]
  refine wR_bind (wR.mono h (fun x M h => ?_) fun _ _ _ h => h)
  obtain ⟨i, rfl, h⟩ := h
  exact h
theorem vE_cmp {op : COp} {a b : E} (h : wE g a env M (fun x M => wE g b env M (fun y M => ∃ r, cmpD op x y M = some r ∧ Q (.bl r) M) X) X) : wE g (.cmp op a b) env M Q X := by
  unfold wE
  rw [exE]
  refine wR_bind (wR.mono h (fun x M h => wR_bind (wR.mono h (fun y M h => ?_) fun _ _ _ h => h)) fun _ _ _ h => h)
  obtain ⟨r, e, h⟩ := h
  rw [e]
  exact h
theorem vT_cmp {op : COp} {a b : E} (h : wE g a env M (fun x M => wE g b env M (fun y M => ∃ r, cmpD op x y M = some r ∧ T r M) X) X) : wT g (.cmp op a b) env M T X := by
  unfold wT
  rw [exT]
  refine wR_bind (wR.mono h (fun x M h => wR_bind (wR.mono h (fun y M h => ?_) fun _ _ _ h => h)) fun _ _ _ h => h)
  obtain ⟨r, e, h⟩ := h
  rw [e]
  exact h
theorem vE_not {a : E} (h : wE g a env M (fun x M => ∃ t, truth x M = some t ∧ Q (.bl (!t)) M) X) : wE g (.not a) env M Q X := by
  unfold wE
  rw [exE]
  refine wR_bind (wR.mono h (fun x M h => ?_) fun _ _ _ h => h)
  obtain ⟨i, e, h⟩ := h
  rw [e]
  exact h
theorem vT_not {a : E} (h : wT g a env M (fun x M => T (!x) M) X) : wT g (.not a) env M T X := by
  unfold wT
  rw [exT]
  exact wR_bind h
theorem vE_and {a b : E} (h : wE g a env M (fun x M => ∃ t, x = .bl t ∧ if t then wE g b env M Q X else Q (.bl false) M) X) : wE g (.and a b) env M Q X := by
  unfold wE
  rw [exE]
  refine wR_bind (wR.mono h (fun x M h => ?_) fun _ _ _ h => h)
  obtain ⟨t, rfl, h⟩ := h
  cases t <;> exact h
theorem vE_or {a b : E} (h : wE g a env M (fun x M => ∃ t, x = .bl t ∧ if t then Q (.bl true) M else wE g b env M Q X) X) : wE g (.or a b) env M Q X := by
  unfold wE
  rw [exE]
  refine wR_bind (wR.mono h (fun x M h => ?_) fun _ _ _ h => h)
  obtain ⟨t, rfl, h⟩ := h
  cases t <;> exact h
theorem vT_and {a b : E} (h : wT g a env M (fun x M => if x then wT g b env M T X else T false M) X) : wT g (.and a b) env M T X := by
  unfold wT
  rw [exT]
  refine wR_bind (wR.mono h (fun x M h => ?_) fun _ _ _ h => h)
  cases x <;> exact h
theorem vT_or {a b : E} (h : wT g a env M (fun x M => if x then T true M else wT g b env M T X) X) : wT g (.or a b) env M T X := by
  unfold wT
  rw [exT]
  refine wR_bind (wR.mono h (fun x M h => ?_) fun _ _ _ h => h)
  cases x <;> exact h
theorem vE_ite {t a b : E} (h : wT g t env M (fun x M => if x then wE g a env M Q X else wE g b env M Q X) X) : wE g (.ite t a b) env M Q X := by
  unfold wE
  rw [exE]
  refine wR_bind (wR.mono h (fun x M h => ?_) fun _ _ _ h => h)
  cases x <;> exact h
theorem vE_tup {es : Es} (h : wEs g es env M (fun ds M => ∃ ds', frzs ds = some ds' ∧ ds'.length ≤ 16777216 ∧ Q (.tup ds') M) X) : wE g (.tup es) env M Q X := by
  unfold wE
  rw [exE]
  refine wR_bind (wR.mono h (fun x M h => ?_) fun _ _ _ h => h)
  obtain ⟨ds', e, hl, h⟩ := h
  rw [e]
  show wR (if _ then _ else _) Q X
  rw [if_pos hl]
  exact h
theorem vE_lst {es : Es} (h : wEs g es env M (fun ds M => ∃ ds', frzs ds = some ds' ∧ ds'.length ≤ 16777216 ∧ Q (.fl ds') M) X) : wE g (.lst es) env M Q X := by
  unfold wE
  rw [exE]
  refine wR_bind (wR.mono h (fun x M h => ?_) fun _ _ _ h => h)
  obtain ⟨ds', e, hl, h⟩ := h
  rw [e]
  show wR (if _ then _ else _) Q X
  rw [if_pos hl]
  exact h
theorem vE_nil {L : List D → Mem → Prop} (h : L [] M) : wEs g .nil env M L X := h
theorem vE_cons {e : E} {es : Es} {L : List D → Mem → Prop} (h : wE g e env M (fun x M => wEs g es env M (fun ds M => L (x :: ds) M) X) X) : wEs g (.cons e es) env M L X := by
  unfold wEs
  rw [exEs]
  exact wR_bind (wR.mono h (fun x M h => wR_bind (wR.mono h (fun y M h => h) fun _ _ _ h => h)) fun _ _ _ h => h)
theorem vE_idx {a i : E} (h : wE g a env M (fun x M => wE g i env M (fun y M => ∃ r, idxD x y M = some r ∧ Q r M) X) X) : wE g (.idx a i) env M Q X := by
  unfold wE
  rw [exE]
  refine wR_bind (wR.mono h (fun x M h => wR_bind (wR.mono h (fun y M h => ?_) fun _ _ _ h => h)) fun _ _ _ h => h)
  obtain ⟨r, e, h⟩ := h
  rw [e]
  exact h
theorem vE_sli {a lo hi : E} (h : wE g a env M (fun x M => wE g lo env M (fun l M => ∃ l', optI l = some l' ∧ wE g hi env M (fun u M => ∃ u', optI u = some u' ∧ ∃ r, sliD x l' u' M = some r ∧ Q r M) X) X) X) : wE g (.sli a lo hi) env M Q X := by
  unfold wE
  rw [exE]
  refine wR_bind (wR.mono h (fun x M h => wR_bind (wR.mono h (fun y M h => ?_) fun _ _ _ h => h)) fun _ _ _ h => h)
  obtain ⟨l', e, h⟩ := h
  rw [e]
  refine wR_bind (wR.mono h (fun u M h => ?_) fun _ _ _ h => h)
  obtain ⟨u', e, r, e', h⟩ := h
  rw [e]
  show wR (lift1 (sliD x l' u' M) M) Q X
  rw [e']
  exact h
theorem vE_mat {a : E} (h : wE g a env M (fun x M => ∃ ds, x = .fl ds ∧ Q (.ref M.length) (M ++ [.lst ds])) X) : wE g (.mat a) env M Q X := by
  unfold wE
  rw [exE]
  refine wR_bind (wR.mono h (fun x M h => ?_) fun _ _ _ h => h)
  obtain ⟨ds, rfl, h⟩ := h
  exact h
theorem vE_call {F F' : Fn} {nn : Nat} {f : Str} {as : Es} (h : wEs ⟨F, true, F', nn⟩ as env M (fun ds M => ∃ ds', frzs ds = some ds' ∧ wR (inv F f ds' M) Q X) X) : wE ⟨F, true, F', nn⟩ (.call f as) env M Q X := by
  unfold wE
  rw [exE, if_pos rfl]
  refine wR_bind (wR.mono h (fun x M h => ?_) fun _ _ _ h => h)
  obtain ⟨ds', e, h⟩ := h
  rw [e]
  exact h
theorem vT_call {F F' : Fn} {nn : Nat} {f : Str} {as : Es} (h : wEs ⟨F, true, F', nn⟩ as env M (fun ds M => ∃ ds', frzs ds = some ds' ∧ wR (inv F f ds' M) (fun d M => ∃ t, truth d M = some t ∧ T t M) X) X) : wT ⟨F, true, F', nn⟩ (.call f as) env M T X := by
  unfold wT
  rw [exT, if_pos rfl]
  refine wR_bind (wR.mono h (fun x M h => ?_) fun _ _ _ h => h)
  obtain ⟨ds', e, h⟩ := h
  rw [e]
  refine wR_bind (wR.mono h (fun x M h => ?_) fun _ _ _ h => h)
  obtain ⟨t, e, h⟩ := h
  rw [e]
  exact h
theorem vE_bi {b : Bi} {as : Es} (hc : (biHot b || g.calm) = true) (h : wEs g as env M (fun ds M => ∃ r, biD b ds M = some r ∧ Q r M) X) : wE g (.bi b as) env M Q X := by
  unfold wE
  rw [exE, if_pos hc]
  refine wR_bind (wR.mono h (fun x M h => ?_) fun _ _ _ h => h)
  obtain ⟨r, e, h⟩ := h
  rw [e]
  exact h
theorem vT_bi {b : Bi} {as : Es} (hc : (biHot b || g.calm) = true) (h : wEs g as env M (fun ds M => ∃ r, biD b ds M = some r ∧ ∃ t, truth r M = some t ∧ T t M) X) : wT g (.bi b as) env M T X := by
  unfold wT
  rw [exT, if_pos hc]
  refine wR_bind (wR.mono h (fun x M h => ?_) fun _ _ _ h => h)
  obtain ⟨r, e, t, e', h⟩ := h
  rw [e]
  show wR ((truth r M).bind _) T X
  rw [e']
  exact h
theorem vE_mth {m : Mt} {o : E} {as : Es} (h : wE g o env M (fun x M => mthOk m x M = true ∧ wEs g as env M (fun ds M => ∃ ds', frzs ds = some ds' ∧ ds'.all argOk = true ∧ ∃ r M', mthD m x ds' M = some (r, M') ∧ Q r M') X) X) : wE g (.mth m o as) env M Q X := by
  unfold wE
  rw [exE]
  refine wR_bind (wR.mono h (fun x M h => ?_) fun _ _ _ h => h)
  obtain ⟨h1, h⟩ := h
  rw [if_pos h1]
  refine wR_bind (wR.mono h (fun ds M h => ?_) fun _ _ _ h => h)
  obtain ⟨ds', e, h2, r, M', e', h⟩ := h
  rw [e]
  show wR (if _ then _ else _) Q X
  rw [if_pos h2, e']
  exact h
/-! instances -/
theorem vE_att {o : E} {c f : Str} (h : wE g o env M (fun x M => ∃ r fs d, insOf c x M = some (r, fs) ∧ fs.lookup f = some d ∧ Q d M) X) : wE g (.att c o f) env M Q X := by
  unfold wE
  rw [exE]
  refine wR_bind (wR.mono h (fun x M h => ?_) fun _ _ _ h => h)
  obtain ⟨r, fs, d, e1, e2, h⟩ := h
  rw [e1]
  show wR (lift1 (fs.lookup f) M) Q X
  rw [e2]
  exact h
theorem vE_own {F F' : Fn} {nn : Nat} {o : E} {c m : Str} {as : Es} (h : wE ⟨F, true, F', nn⟩ o env M (fun x M => ∃ r fs, insOf c x M = some (r, fs) ∧ fs.lookup m = none ∧ wEs ⟨F, true, F', nn⟩ as env M (fun ds M => ∃ ds', frzs ds = some ds' ∧ wR (inv F (qual c m) (x :: ds') M) Q X) X) X) :
    wE ⟨F, true, F', nn⟩ (.own c m o as) env M Q X := by
  unfold wE
  rw [exE, if_pos rfl]
  refine wR_bind (wR.mono h (fun x M h => ?_) fun _ _ _ h => h)
  obtain ⟨r, fs, e1, e2, h⟩ := h
  rw [e1]
  show wR (if (fs.lookup m).isNone = true then _ else none) Q X
  rw [e2, if_pos (show (none : Option D).isNone = true from rfl)]
  refine wR_bind (wR.mono h (fun ds M h => ?_) fun _ _ _ h => h)
  obtain ⟨ds', e, h⟩ := h
  rw [e]
  exact h
theorem vT_own {F F' : Fn} {nn : Nat} {o : E} {c m : Str} {as : Es} (h : wE ⟨F, true, F', nn⟩ o env M (fun x M => ∃ r fs, insOf c x M = some (r, fs) ∧ fs.lookup m = none ∧ wEs ⟨F, true, F', nn⟩ as env M (fun ds M => ∃ ds', frzs ds = some ds' ∧ wR (inv F (qual c m) (x :: ds') M) (fun d M => ∃ t, truth d M = some t ∧ T t M) X) X) X) :
    wT ⟨F, true, F', nn⟩ (.own c m o as) env M T X := by
  unfold wT
  rw [exT, if_pos rfl]
  refine wR_bind (wR.mono h (fun x M h => ?_) fun _ _ _ h => h)
  obtain ⟨r, fs, e1, e2, h⟩ := h
  rw [e1]
  show wR (if (fs.lookup m).isNone = true then _ else none) T X
  rw [e2, if_pos (show (none : Option D).isNone = true from rfl)]
  refine wR_bind (wR.mono h (fun ds M h => ?_) fun _ _ _ h => h)
  obtain ⟨ds', e, h⟩ := h
  rw [e]
  refine wR_bind (wR.mono h (fun x M h => ?_) fun _ _ _ h => h)
  obtain ⟨t, e, h⟩ := h
  rw [e]
  exact h
theorem vE_new {F F' : Fn} {nn : Nat} {c : Str} {as : Es} (hn : 1 ≤ nn) (h : wEs ⟨F, true, F', nn⟩ as env M (fun ds M => ∃ ds', frzs ds = some ds' ∧ wR (inv F' (qual c "__init__") (.ref M.length :: ds') (M ++ [.ins c []])) (fun v M' => v = .non ∧ Q (.ref M.length) M') X) X) :
    wE ⟨F, true, F', nn⟩ (.new c as) env M Q X := by
  unfold wE
  rw [exE, if_pos (by show (true && decide (1 ≤ nn)) = true; rw [decide_eq_true hn]; rfl)]
  refine wR_bind (wR.mono h (fun ds M h => ?_) fun _ _ _ h => h)
  obtain ⟨ds', e, h⟩ := h
  rw [e]
  refine wR_bind (wR.mono h (fun v M' h => ?_) fun _ _ _ h => h)
  obtain ⟨rfl, h⟩ := h
  exact h
theorem vE_isi {a : E} {ts : List Ty} (h : wE g a env M (fun x M => ∃ t, isTs x M ts = some t ∧ Q (.bl t) M) X) : wE g (.isi a ts) env M Q X := by
  unfold wE
  rw [exE]
  refine wR_bind (wR.mono h (fun x M h => ?_) fun _ _ _ h => h)
  obtain ⟨r, e, h⟩ := h
  rw [e]
  exact h
theorem vT_isi {a : E} {ts : List Ty} (h : wE g a env M (fun x M => ∃ t, isTs x M ts = some t ∧ T t M) X) : wT g (.isi a ts) env M T X := by
  unfold wT
  rw [exT]
  refine wR_bind (wR.mono h (fun x M h => ?_) fun _ _ _ h => h)
  obtain ⟨r, e, h⟩ := h
  rw [e]
  exact h
theorem vT_nope (h : T true M) : wT g .nope env M T X := h
theorem vT_var {i : Nat} {d : D} (e : env[i]? = some (some d)) (h : ∃ t, truth d M = some t ∧ T t M) : wT g (.var i) env M T X := by
  obtain ⟨t, e', h⟩ := h
  unfold wT
  rw [exT, e]
  show wR ((truth d M).bind _) T X
  rw [e']
  exact h
theorem vT_idx {a i : E} (h : wE g a env M (fun x M => wE g i env M (fun y M => ∃ r, idxD x y M = some r ∧ ∃ t, truth r M = some t ∧ T t M) X) X) : wT g (.idx a i) env M T X := by
  unfold wT
  rw [exT]
  refine wR_bind (wR.mono h (fun x M h => wR_bind (wR.mono h (fun y M h => ?_) fun _ _ _ h => h)) fun _ _ _ h => h)
  obtain ⟨r, e, t, e', h⟩ := h
  rw [e]
  show wR ((truth r M).bind _) T X
  rw [e']
  exact h
/-! walks -/
theorem vE_compL {watch : Mem → Bool} {body : D → Mem → R (Option D)} (I : List D → List D → Mem → Prop) (hw : ∀ l acc M, I l acc M → watch M = true)
    (step : ∀ x l acc M, I (x :: l) acc M → ∃ y M', body x M = some (.ok y M') ∧ I l (acc ++ y.toList) M') :
    ∀ (items acc : List D) (M : Mem), I items acc M → ∃ ys M', compL watch body items M = some (.ok ys M') ∧ I [] (acc ++ ys) M'
  | [], acc, M, h => ⟨[], M, by rw [compL, if_pos (hw _ _ _ h)], by rw [List.append_nil]; exact h⟩
  | x :: l, acc, M, h => by
    obtain ⟨y, M1, e1, h1⟩ := step x l acc M h
    obtain ⟨ys, M2, e2, h2⟩ := vE_compL I hw step l _ M1 h1
    refine ⟨y.toList ++ ys, M2, ?_, by rw [← List.append_assoc]; exact h2⟩
    rw [compL, if_pos (hw _ _ _ h), e1]
    dsimp only
    rw [e2]
    cases y <;> rfl
/-- a comprehension of one clause; I: what is left, what is made -/
theorem vE_comp {F F' : Fn} {nn : Nat} {gt : List Nat} {it : It} {cond elt : E} {own : List Nat} (h : wI ⟨F, true, F', nn⟩ it env M (fun w M => ∃ I : List D → List D → Mem → Prop, (∀ l acc M, I l acc M → w.watch M = true) ∧ I w.items [] M ∧
      (∀ x l acc M, I (x :: l) acc M → ∃ env1, bindG gt x M (wipeE env own) = some env1 ∧ wT ⟨F, true, F', nn⟩ cond env1 M (fun t M => if t then wE ⟨F, true, F', nn⟩ elt env1 M (fun y M => ∃ y', frz y = some y' ∧ I l (acc ++ [y']) M) noE else I l acc M) noE) ∧
      ∀ ys M, I [] ys M → ys.length ≤ 16777216 ∧ Q (.fl ys) M) X) : wE ⟨F, true, F', nn⟩ (.comp gt it cond elt own) env M Q X := by
  unfold wE
  rw [exE, if_pos rfl]
  refine wR_bind (wR.mono h (fun w M h => ?_) fun _ _ _ h => h)
  obtain ⟨I, hw, h0, step, done⟩ := h
  refine wR_bind ?_
  have key := vE_compL (watch := w.watch) (body := (fun d M => match bindG gt d M (wipeE env own) with
        | some env1 => (exT ⟨F, true, F', nn⟩ cond env1 M).bind fun t M => if t then (exE ⟨F, true, F', nn⟩ elt env1 M).bind fun y M => (match frz y with
          | some y => some (.ok (some y) M)
          | none => none) else some (.ok none M)
        | none => none)) I hw (by
    intro x l acc M hI
    obtain ⟨env1, e1, h1⟩ := step x l acc M hI
    obtain ⟨t, M1, e2, h2⟩ := wR.ok (show wR (exT _ cond env1 M) _ noE from h1)
    rw [e1]
    show ∃ y M', R.bind (exT _ cond env1 M) _ = _ ∧ _
    rw [e2]
    cases t with
    | false =>
      refine ⟨none, M1, rfl, ?_⟩
      rw [show acc ++ (none : Option D).toList = acc from List.append_nil _]
      exact h2
    | true =>
      obtain ⟨y, M2, e3, y', e4, h3⟩ := wR.ok (show wR (exE _ elt env1 M1) _ noE from h2)
      refine ⟨some y', M2, ?_, h3⟩
      show (R.bind (exE _ elt env1 M1) _) = _
      rw [e3]
      show (match frz y with
          | some y => some (Rs.ok (some y) M2)
          | none => none) = _
      rw [e4])
  obtain ⟨ys, M', e, h1⟩ := key w.items [] M h0
  obtain ⟨h2, h3⟩ := done ys M' h1
  refine wR.of e ?_
  show wR (if _ then _ else _) Q X
  rw [if_pos h2]
  exact h3
theorem vI_seq {e : E} {W : Wk → Mem → Prop} (h : wE g e env M (fun x M => ∃ ds, seqOf x M = some ds ∧ W ⟨ds, watchOf x ds⟩ M) X) : wI g (.seq e) env M W X := by
  unfold wI
  rw [exI]
  refine wR_bind (wR.mono h (fun x M h => ?_) fun _ _ _ h => h)
  obtain ⟨ds, e, h⟩ := h
  unfold wkSeq
  rw [e]
  exact h
theorem vI_txt {e : E} {W : Wk → Mem → Prop} (h : wE g e env M (fun x M => ∃ z, x = .str z ∧ W ⟨signs z, still⟩ M) X) : wI g (.txt e) env M W X := by
  unfold wI
  rw [exI]
  refine wR_bind (wR.mono h (fun x M h => ?_) fun _ _ _ h => h)
  obtain ⟨z, rfl, h⟩ := h
  exact h
theorem vI_rng {a b : E} {W : Wk → Mem → Prop} (h : wE g a env M (fun x M => wE g b env M (fun y M => ∃ lo hi, x = .int lo ∧ y = .int hi ∧ rngOk lo hi = true ∧ W ⟨rangeL lo (hi - lo).toNat, still⟩ M) X) X) : wI g (.rng a b) env M W X := by
  unfold wI
  rw [exI]
  refine wR_bind (wR.mono h (fun x M h => wR_bind (wR.mono h (fun y M h => ?_) fun _ _ _ h => h)) fun _ _ _ h => h)
  obtain ⟨lo, hi, rfl, rfl, e, h⟩ := h
  unfold wkRng
  dsimp only
  rw [if_pos e]
  exact h
end
/-! ### statements -/
variable {Q : Fl → Prop} {r : Ss}
theorem vS_nil (h : Q (.nx env M)) : wSs g .nil env M Q := h
theorem vS_cons {s : S} (h : wS g s env M (fun fl => match fl with
    | .nx env1 M1 => wSs g r env1 M1 Q
    | x => Q x)) : wSs g (.cons s r) env M Q := by
  unfold wSs
  rw [exSs]
  obtain ⟨fl, e, h⟩ := wO.get h
  rw [e]
  cases fl <;> exact h
theorem vS_skip (h : wSs g r env M Q) : wSs g (.cons .skip r) env M Q := vS_cons h
theorem vS_expr {e : E} (h : wE g e env M (fun _ M => wSs g r env M Q) fun c p M => Q (.ex env c p M)) : wSs g (.cons (.expr e) r) env M Q := by
  refine vS_cons ?_
  unfold wS
  rw [exS]
  exact wO_onR h
theorem vS_asg {i : Nat} {e : E} (h : wE g e env M (fun x M => ∃ x', frz x = some x' ∧ wSs g r (env.set i (some x')) M Q) fun c p M => Q (.ex env c p M)) : wSs g (.cons (.asg (.name i) e) r) env M Q := by
  refine vS_cons ?_
  unfold wS
  rw [exS, if_pos (show tgOk g.calm (.name i) = true from rfl)]
  refine wO_onR (wR.mono h (fun x M h => ?_) fun _ _ _ h => h)
  obtain ⟨x', e, h⟩ := h
  rw [e]
  exact h
theorem vS_asgT {F F' : Fn} {nn : Nat} {is : List Nat} {e : E} (h : wE ⟨F, true, F', nn⟩ e env M (fun x M => ∃ x', frz x = some x' ∧ ∃ env1, bindG is x' M env = some env1 ∧ wSs ⟨F, true, F', nn⟩ r env1 M Q) fun c p M => Q (.ex env c p M)) : wSs ⟨F, true, F', nn⟩ (.cons (.asg (.tup is) e) r) env M Q := by
  refine vS_cons ?_
  unfold wS
  rw [exS, if_pos (show tgOk true (.tup is) = true from rfl)]
  refine wO_onR (wR.mono h (fun x M h => ?_) fun _ _ _ h => h)
  obtain ⟨x', e, env1, e1, h⟩ := h
  rw [e]
  dsimp only
  rw [e1]
  exact h
theorem vS_sub {o i e : E} (h : wE g e env M (fun x M => ∃ x', frz x = some x' ∧ wE g o env M (fun od M => wE g i env M (fun id M => ∃ M1, setSub od id x' M = some M1 ∧ wSs g r env M1 Q) fun c p M => Q (.ex env c p M)) fun c p M => Q (.ex env c p M)) fun c p M => Q (.ex env c p M)) : wSs g (.cons (.asg (.sub o i) e) r) env M Q := by
  refine vS_cons ?_
  unfold wS
  rw [exS, if_pos (show tgOk g.calm (.sub o i) = true from rfl)]
  refine wO_onR (wR.mono h (fun x M h => ?_) fun _ _ _ h => h)
  obtain ⟨x', e, h⟩ := h
  rw [e]
  refine wO_onR (wR.mono h (fun x M h => wO_onR (wR.mono h (fun x M h => ?_) fun _ _ _ h => h)) fun _ _ _ h => h)
  obtain ⟨M1, e, h⟩ := h
  rw [e]
  exact h
theorem vS_asgA {o e : E} {c f : Str} (h : wE g e env M (fun x M => ∃ x', frz x = some x' ∧ wE g o env M (fun od M => ∃ k fs, insOf c od M = some (k, fs) ∧ wSs g r env (M.set k (.ins c (putA f x' fs))) Q) fun c p M => Q (.ex env c p M)) fun c p M => Q (.ex env c p M)) : wSs g (.cons (.asg (.att c o f) e) r) env M Q := by
  refine vS_cons ?_
  unfold wS
  rw [exS, if_pos (show tgOk g.calm (.att c o f) = true from rfl)]
  refine wO_onR (wR.mono h (fun x M h => ?_) fun _ _ _ h => h)
  obtain ⟨x', e, h⟩ := h
  rw [e]
  refine wO_onR (wR.mono h (fun x M h => ?_) fun _ _ _ h => h)
  obtain ⟨k, fs, e, h⟩ := h
  rw [e]
  exact h
theorem vS_aug {i : Nat} {op : BOp} {e : E} {a : Int} (ha : env[i]? = some (some (.int a))) (h : wE g e env M (fun x M => ∃ b z, x = .int b ∧ binI op a b = some z ∧ wSs g r (env.set i (some (.int z))) M Q) fun c p M => Q (.ex env c p M)) : wSs g (.cons (.aug i op e) r) env M Q := by
  refine vS_cons ?_
  unfold wS
  rw [exS, ha]
  refine wO_onR (wR.mono h (fun x M h => ?_) fun _ _ _ h => h)
  obtain ⟨b, z, rfl, e, h⟩ := h
  dsimp only
  rw [e]
  exact h
theorem vS_augA {o e : E} {c f : Str} {op : BOp} (h : wE g o env M (fun od M => ∃ k fs a, insOf c od M = some (k, fs) ∧ fs.lookup f = some (.int a) ∧ wE g e env M (fun x M => ∃ b z k fs, x = .int b ∧ binI op a b = some z ∧ insOf c od M = some (k, fs) ∧ wSs g r env (M.set k (.ins c (putA f (.int z) fs))) Q) fun c p M => Q (.ex env c p M)) fun c p M => Q (.ex env c p M)) : wSs g (.cons (.augA c o f op e) r) env M Q := by
  refine vS_cons ?_
  unfold wS
  rw [exS]
  refine wO_onR (wR.mono h (fun x M h => ?_) fun _ _ _ h => h)
  obtain ⟨k, fs, a, e1, e2, h⟩ := h
  rw [e1]
  dsimp only
  rw [e2]
  refine wO_onR (wR.mono h (fun x M h => ?_) fun _ _ _ h => h)
  obtain ⟨b, z, k, fs, rfl, e3, e4, h⟩ := h
  dsimp only
  rw [e3, e4]
  exact h
theorem vS_raise {F F' : Fn} {nn : Nat} {c f : Str} {e : E} (hn : 3 ≤ nn) (h : wE ⟨F, true, F', nn⟩ e env M (fun x M => ∃ x', frz x = some x' ∧ Q (.ex env c [(f, x')] M)) fun c p M => Q (.ex env c p M)) : wSs ⟨F, true, F', nn⟩ (.cons (.raise c f e) r) env M Q := by
  refine vS_cons ?_
  unfold wS
  rw [exS, if_pos (by show (true && decide (3 ≤ nn)) = true; rw [decide_eq_true hn]; rfl)]
  refine wO_onR (wR.mono h (fun x M h => ?_) fun _ _ _ h => h)
  obtain ⟨x', e, h⟩ := h
  rw [e]
  exact h
/-- what a try's body must give -/
def tryQ (g : G) (r : Ss) (c f : Str) (i : Nat) (Q : Fl → Prop) : Fl → Prop := fun fl => match fl with
  | .ex env1 c1 p M1 => c1 = c ∧ ∃ x y : Int, p.lookup f = some (.int x) ∧ env1[i]? = some (some (.int y)) ∧ Q (.rt (.bl (decide (x = y))) M1)
  | .nx env1 M1 => wSs g r env1 M1 Q
  | x => Q x
theorem vtry_nx {c f : Str} {i : Nat} (h : wSs g r env M Q) : tryQ g r c f i Q (.nx env M) := h
theorem vtry_rt {c f : Str} {i : Nat} {d : D} (h : Q (.rt d M)) : tryQ g r c f i Q (.rt d M) := h
theorem vtry_ex {c f : Str} {i : Nat} {p : List (Str × D)} {x y : Int} (h1 : p.lookup f = some (.int x)) (h2 : env[i]? = some (some (.int y))) (h : Q (.rt (.bl (decide (x = y))) M)) : tryQ g r c f i Q (.ex env c p M) := ⟨rfl, x, y, h1, h2, h⟩
theorem vS_try {F F' : Fn} {nn : Nat} {c f : Str} {i : Nat} {b : Ss} (hn : 3 ≤ nn) (h : wSs ⟨F, true, F', nn⟩ b env M (tryQ ⟨F, true, F', nn⟩ r c f i Q)) : wSs ⟨F, true, F', nn⟩ (.cons (.tryS b c f i) r) env M Q := by
  refine vS_cons ?_
  unfold wS
  rw [exS, if_pos (by show (true && decide (3 ≤ nn)) = true; rw [decide_eq_true hn]; rfl)]
  obtain ⟨fl, e, h⟩ := wO.get h
  rw [e]
  cases fl with
  | ex env1 c1 p M1 =>
    obtain ⟨rfl, x, y, e1, e2, h⟩ := h
    dsimp only
    rw [if_pos rfl, e1, e2]
    exact h
  | _ => exact h
theorem vS_ret {e : E} (h : wE g e env M (fun x M => Q (.rt x M)) fun c p M => Q (.ex env c p M)) : wSs g (.cons (.ret e) r) env M Q := by
  refine vS_cons ?_
  unfold wS
  rw [exS]
  exact wO_onR h
theorem vS_brk (h : Q (.bk env M)) : wSs g (.cons .brk r) env M Q := vS_cons h
theorem vS_cont (h : Q (.ct env M)) : wSs g (.cons .cont r) env M Q := vS_cons h
/-- what follows a block -/
def aft (g : G) (r : Ss) (Q : Fl → Prop) : Fl → Prop := fun fl => match fl with
  | .nx env1 M1 => wSs g r env1 M1 Q
  | x => Q x
theorem vaft_nx (h : wSs g r env M Q) : aft g r Q (.nx env M) := h
theorem vaft_rt {d : D} (h : Q (.rt d M)) : aft g r Q (.rt d M) := h
theorem vaft_bk (h : Q (.bk env M)) : aft g r Q (.bk env M) := h
theorem vaft_ct (h : Q (.ct env M)) : aft g r Q (.ct env M) := h
theorem vaft_ex {c : Str} {p : List (Str × D)} (h : Q (.ex env c p M)) : aft g r Q (.ex env c p M) := h
theorem vS_ife {t : E} {a b : Ss} (h : wT g t env M (fun x M => if x then wSs g a env M (aft g r Q) else wSs g b env M (aft g r Q)) fun c p M => Q (.ex env c p M)) : wSs g (.cons (.ife t a b) r) env M Q := by
  refine vS_cons ?_
  unfold wS
  rw [exS]
  refine wO_onR (wR.mono h (fun x M h => ?_) fun _ _ _ h => h)
  cases x <;> exact h
theorem vE_forM {watch : Mem → Bool} {body : D → Env → Mem → Option Fl} (I : List D → Env → Mem → Prop) (hw : ∀ l env M, I l env M → watch M = true)
    (step : ∀ x l env M, I (x :: l) env M → wO (body x env M) fun fl => match fl with
      | .nx env M => I l env M
      | .ct env M => I l env M
      | .bk env M => Q (.nx env M)
      | x => Q x) (done : ∀ env M, I [] env M → Q (.nx env M)) : ∀ (items : List D) (env : Env) (M : Mem), I items env M → wO (forM watch body items env M) Q
  | [], env, M, h => by
    rw [forM, if_pos (hw _ _ _ h)]
    exact done env M h
  | x :: l, env, M, h => by
    rw [forM, if_pos (hw _ _ _ h)]
    obtain ⟨fl, e, h1⟩ := wO.get (step x l env M h)
    rw [e]
    cases fl with
    | nx env1 M1 => exact vE_forM I hw step done l env1 M1 h1
    | ct env1 M1 => exact vE_forM I hw step done l env1 M1 h1
    | bk env1 M1 => exact h1
    | rt d M1 => exact h1
    | ex env1 c p M1 => exact h1
/-- what a turn of a loop must give -/
def turnQ (I : Env → Mem → Prop) (Q : Fl → Prop) : Fl → Prop := fun fl => match fl with
  | .nx env M => I env M
  | .ct env M => I env M
  | .bk env M => Q (.nx env M)
  | x => Q x
theorem vturn_nx {I : Env → Mem → Prop} (h : I env M) : turnQ I Q (.nx env M) := h
theorem vturn_ct {I : Env → Mem → Prop} (h : I env M) : turnQ I Q (.ct env M) := h
theorem vturn_bk {I : Env → Mem → Prop} (h : Q (.nx env M)) : turnQ I Q (.bk env M) := h
theorem vturn_rt {I : Env → Mem → Prop} {d : D} (h : Q (.rt d M)) : turnQ I Q (.rt d M) := h
theorem vturn_ex {I : Env → Mem → Prop} {c : Str} {p : List (Str × D)} (h : Q (.ex env c p M)) : turnQ I Q (.ex env c p M) := h
theorem vS_for {F F' : Fn} {nn : Nat} {gt : List Nat} {it : It} {b : Ss} (h : wI ⟨F, true, F', nn⟩ it env M (fun w M => ∃ I : List D → Env → Mem → Prop, (∀ l env M, I l env M → w.watch M = true) ∧ I w.items env M ∧
      (∀ x l env M, I (x :: l) env M → ∃ env1, bindG gt x M env = some env1 ∧ wSs ⟨F, true, F', nn⟩ b env1 M (turnQ (I l) (aft ⟨F, true, F', nn⟩ r Q))) ∧
      ∀ env M, I [] env M → wSs ⟨F, true, F', nn⟩ r env M Q) fun c p M => Q (.ex env c p M)) : wSs ⟨F, true, F', nn⟩ (.cons (.for_ gt it b) r) env M Q := by
  refine vS_cons ?_
  unfold wS
  rw [exS, if_pos rfl]
  refine wO_onR (wR.mono h (fun w M h => ?_) fun _ _ _ h => h)
  obtain ⟨I, hw, h0, step, done⟩ := h
  refine vE_forM I hw (fun x l env M hI => ?_) done _ _ _ h0
  obtain ⟨env1, e, h1⟩ := step x l env M hI
  unfold forB
  rw [e]
  refine wO.mono h1 fun fl h => ?_
  cases fl <;> exact h
theorem vE_loop {t : E} {b : Ss} (I : Nat → Env → Mem → Prop) (step : ∀ n env M, I n env M → wT g t env M (fun x M => if x then wSs g b env M (turnQ (fun env M => ∃ m, m < n ∧ I m env M) (aft g r Q)) else wSs g r env M Q) (fun c p M => Q (.ex env c p M))) :
    ∀ (k n : Nat), n ≤ k → ∀ (env : Env) (M : Mem), I n env M → wO (loopM (wStep (exT g t) (exSs g b)) (env, M)) (aft g r Q) := by
  intro k
  induction k with
  | zero =>
    intro n hn env M hI
    obtain rfl : n = 0 := by omega
    have h := step 0 env M hI
    rw [loopM]
    unfold wStep
    unfold wT at h
    dsimp only
    match e : exT g t env M, h with
    | some (.exc c p M1), h => exact h
    | some (.ok false M1), h => exact h
    | some (.ok true M1), h =>
      dsimp only
      obtain ⟨fl, e2, h⟩ := wO.get (show wO (exSs g b env M1) _ from h)
      rw [e2]
      cases fl with
      | nx env1 M2 =>
        obtain ⟨m, hm, _⟩ := h
        exact absurd hm (Nat.not_lt_zero _)
      | ct env1 M2 =>
        obtain ⟨m, hm, _⟩ := h
        exact absurd hm (Nat.not_lt_zero _)
      | bk env1 M2 => exact h
      | rt d M2 => exact h
      | ex env1 c p M2 => exact h
  | succ k ih =>
    intro n hn env M hI
    have h := step n env M hI
    rw [loopM]
    unfold wStep
    unfold wT at h
    dsimp only
    match e : exT g t env M, h with
    | some (.exc c p M1), h => exact h
    | some (.ok false M1), h => exact h
    | some (.ok true M1), h =>
      dsimp only
      obtain ⟨fl, e2, h⟩ := wO.get (show wO (exSs g b env M1) _ from h)
      rw [e2]
      cases fl with
      | nx env1 M2 =>
        obtain ⟨m, hm, hI2⟩ := h
        exact ih m (by omega) env1 M2 hI2
      | ct env1 M2 =>
        obtain ⟨m, hm, hI2⟩ := h
        exact ih m (by omega) env1 M2 hI2
      | bk env1 M2 => exact h
      | rt d M2 => exact h
      | ex env1 c p M2 => exact h
theorem vS_whl {t : E} {b : Ss} (h : ∃ I : Nat → Env → Mem → Prop, (∃ n, I n env M) ∧ ∀ n env M, I n env M → wT g t env M (fun x M => if x then wSs g b env M (turnQ (fun env M => ∃ m, m < n ∧ I m env M) (aft g r Q)) else wSs g r env M Q) (fun c p M => Q (.ex env c p M))) : wSs g (.cons (.whl t b) r) env M Q := by
  obtain ⟨I, ⟨n, h0⟩, step⟩ := h
  refine vS_cons ?_
  unfold wS
  rw [exS]
  refine wO.mono (vE_loop I step n n (Nat.le_refl _) env M h0) fun fl h => ?_
  cases fl <;> exact h
/-- a def's run -/
theorem vE_fin {x : Option Fl} {Q : D → Mem → Prop} {X : Ex} (h : wO x fun fl => match fl with
    | .rt d M => Q d M
    | .nx _ M => Q .non M
    | .ex _ c p M => X c p M
    | _ => False) : wR (fin x) Q X := by
  obtain ⟨fl, e, h⟩ := wO.get h
  rw [e]
  cases fl <;> first
    | exact h
    | exact h.elim
def finQ (Q : D → Mem → Prop) (X : Ex) : Fl → Prop := fun fl => match fl with
  | .rt d M => Q d M
  | .nx _ M => Q .non M
  | .ex _ c p M => X c p M
  | _ => False
theorem vfin_rtQ {Q : D → Mem → Prop} {d : D} (h : Q d M) : finQ Q X (.rt d M) := h
theorem vfin_nxQ {Q : D → Mem → Prop} (h : Q .non M) : finQ Q X (.nx env M) := h
theorem vfin_exQ {Q : D → Mem → Prop} {c : Str} {p : List (Str × D)} (h : X c p M) : finQ Q X (.ex env c p M) := h
theorem vE_def {P : Prg} {k : Nat} {f : Str} {ds : List D} {ps n : Nat} {b : Ss} {Q : D → Mem → Prop} (e : P.lookup f = some ⟨ps, n, b⟩) (hl : ds.length = ps) (h : wSs ⟨callK P true k, true, callK P true (k - 1), k⟩ b (startE n ds) M (finQ Q X)) : wR (callK P true (k + 1) f ds M) Q X := by
  rw [callK_succ, runDf, e]
  dsimp only
  rw [if_pos hl]
  exact vE_fin h
end Z.W0
end
section
set_option Elab.async false
set_option linter.all false
set_option maxRecDepth 100000
set_option maxHeartbeats 1000000
set_option autoImplicit false
/-! The rules of ZW0 about names that never unfold by themselves (printed by mkW.py). -/
namespace Z
open PySem
abbrev Ex := W0.Ex
abbrev noE : Ex := W0.noE
@[irreducible] def wR {α : Type} (x : R α) (Q : α → Mem → Prop) (E : Ex) : Prop := W0.wR x Q E
theorem wR_eq {α : Type} (x : R α) (Q : α → Mem → Prop) (E : Ex) : wR x Q E = W0.wR x Q E := by
  unfold wR
  rfl
@[irreducible] def wO (x : Option Fl) (Q : Fl → Prop) : Prop := W0.wO x Q
theorem wO_eq (x : Option Fl) (Q : Fl → Prop) : wO x Q = W0.wO x Q := by
  unfold wO
  rfl
@[irreducible] def wE (g : G) (e : E) (env : Env) (M : Mem) (Q : D → Mem → Prop) (X : Ex) : Prop := W0.wE g e env M Q X
theorem wE_eq (g : G) (e : E) (env : Env) (M : Mem) (Q : D → Mem → Prop) (X : Ex) : wE g e env M Q X = W0.wE g e env M Q X := by
  unfold wE
  rfl
@[irreducible] def wT (g : G) (e : E) (env : Env) (M : Mem) (Q : Bool → Mem → Prop) (X : Ex) : Prop := W0.wT g e env M Q X
theorem wT_eq (g : G) (e : E) (env : Env) (M : Mem) (Q : Bool → Mem → Prop) (X : Ex) : wT g e env M Q X = W0.wT g e env M Q X := by
  unfold wT
  rfl
@[irreducible] def wEs (g : G) (e : Es) (env : Env) (M : Mem) (Q : List D → Mem → Prop) (X : Ex) : Prop := W0.wEs g e env M Q X
theorem wEs_eq (g : G) (e : Es) (env : Env) (M : Mem) (Q : List D → Mem → Prop) (X : Ex) : wEs g e env M Q X = W0.wEs g e env M Q X := by
  unfold wEs
  rfl
@[irreducible] def wI (g : G) (e : It) (env : Env) (M : Mem) (Q : Wk → Mem → Prop) (X : Ex) : Prop := W0.wI g e env M Q X
theorem wI_eq (g : G) (e : It) (env : Env) (M : Mem) (Q : Wk → Mem → Prop) (X : Ex) : wI g e env M Q X = W0.wI g e env M Q X := by
  unfold wI
  rfl
@[irreducible] def wS (g : G) (s : S) (env : Env) (M : Mem) (Q : Fl → Prop) : Prop := W0.wS g s env M Q
theorem wS_eq (g : G) (s : S) (env : Env) (M : Mem) (Q : Fl → Prop) : wS g s env M Q = W0.wS g s env M Q := by
  unfold wS
  rfl
@[irreducible] def wSs (g : G) (s : Ss) (env : Env) (M : Mem) (Q : Fl → Prop) : Prop := W0.wSs g s env M Q
theorem wSs_eq (g : G) (s : Ss) (env : Env) (M : Mem) (Q : Fl → Prop) : wSs g s env M Q = W0.wSs g s env M Q := by
  unfold wSs
  rfl
@[irreducible] def tryQ (g : G) (r : Ss) (c f : Str) (i : Nat) (Q : Fl → Prop) : Fl → Prop := W0.tryQ g r c f i Q
theorem tryQ_eq (g : G) (r : Ss) (c f : Str) (i : Nat) (Q : Fl → Prop) : tryQ g r c f i Q = W0.tryQ g r c f i Q := by
  unfold tryQ
  rfl
@[irreducible] def aft (g : G) (r : Ss) (Q : Fl → Prop) : Fl → Prop := W0.aft g r Q
theorem aft_eq (g : G) (r : Ss) (Q : Fl → Prop) : aft g r Q = W0.aft g r Q := by
  unfold aft
  rfl
@[irreducible] def turnQ (I : Env → Mem → Prop) (Q : Fl → Prop) : Fl → Prop := W0.turnQ I Q
theorem turnQ_eq (I : Env → Mem → Prop) (Q : Fl → Prop) : turnQ I Q = W0.turnQ I Q := by
  unfold turnQ
  rfl
@[irreducible] def finQ (Q : D → Mem → Prop) (X : Ex) : Fl → Prop := W0.finQ Q X
theorem finQ_eq (Q : D → Mem → Prop) (X : Ex) : finQ Q X = W0.finQ Q X := by
  unfold finQ
  rfl
theorem wR.mono {α : Type} {x : R α} {Q Q' : α → Mem → Prop} {E E' : Ex} (h : wR x Q E) (hq : ∀ a M, Q a M → Q' a M) (he : ∀ c p M, E c p M → E' c p M) : wR x Q' E' := by
  try simp only [wR_eq, wO_eq, wE_eq, wT_eq, wEs_eq, wI_eq, wS_eq, wSs_eq, tryQ_eq, aft_eq, turnQ_eq, finQ_eq] at *
  exact W0.wR.mono h hq he
theorem wR.ok {α : Type} {x : R α} {Q : α → Mem → Prop} (h : wR x Q noE) : ∃ a M, x = some (.ok a M) ∧ Q a M := by
  try simp only [wR_eq, wO_eq, wE_eq, wT_eq, wEs_eq, wI_eq, wS_eq, wSs_eq, tryQ_eq, aft_eq, turnQ_eq, finQ_eq] at *
  exact W0.wR.ok h
theorem wR.of {α : Type} {x : R α} {a : α} {M : Mem} {Q : α → Mem → Prop} {E : Ex} (e : x = some (.ok a M)) (h : Q a M) : wR x Q E := by
  try simp only [wR_eq, wO_eq, wE_eq, wT_eq, wEs_eq, wI_eq, wS_eq, wSs_eq, tryQ_eq, aft_eq, turnQ_eq, finQ_eq] at *
  exact W0.wR.of e h
theorem wO.of {x : Option Fl} {fl : Fl} {Q : Fl → Prop} (e : x = some fl) (h : Q fl) : wO x Q := by
  try simp only [wR_eq, wO_eq, wE_eq, wT_eq, wEs_eq, wI_eq, wS_eq, wSs_eq, tryQ_eq, aft_eq, turnQ_eq, finQ_eq] at *
  exact W0.wO.of e h
theorem wO.get {x : Option Fl} {Q : Fl → Prop} (h : wO x Q) : ∃ fl, x = some fl ∧ Q fl := by
  try simp only [wR_eq, wO_eq, wE_eq, wT_eq, wEs_eq, wI_eq, wS_eq, wSs_eq, tryQ_eq, aft_eq, turnQ_eq, finQ_eq] at *
  exact W0.wO.get h
theorem wO.mono {x : Option Fl} {Q Q' : Fl → Prop} (h : wO x Q) (hq : ∀ fl, Q fl → Q' fl) : wO x Q' := by
  try simp only [wR_eq, wO_eq, wE_eq, wT_eq, wEs_eq, wI_eq, wS_eq, wSs_eq, tryQ_eq, aft_eq, turnQ_eq, finQ_eq] at *
  exact W0.wO.mono h hq
theorem wR_bind {α β : Type} {x : R α} {f : α → Mem → R β} {Q : β → Mem → Prop} {E : Ex} (h : wR x (fun a M => wR (f a M) Q E) E) : wR (x.bind f) Q E := by
  try simp only [wR_eq, wO_eq, wE_eq, wT_eq, wEs_eq, wI_eq, wS_eq, wSs_eq, tryQ_eq, aft_eq, turnQ_eq, finQ_eq] at *
  exact W0.wR_bind h
theorem wO_onR {α : Type} {env : Env} {x : R α} {f : α → Mem → Option Fl} {Q : Fl → Prop} (h : wR x (fun a M => wO (f a M) Q) fun c p M => Q (.ex env c p M)) : wO (onR env x f) Q := by
  try simp only [wR_eq, wO_eq, wE_eq, wT_eq, wEs_eq, wI_eq, wS_eq, wSs_eq, tryQ_eq, aft_eq, turnQ_eq, finQ_eq] at *
  exact W0.wO_onR h
variable {g : G} {env : Env} {M : Mem} {X : Ex}
section
variable {Q : D → Mem → Prop} {T : Bool → Mem → Prop}
theorem vE_c {d : D} (h : Q d M) : wE g (.c d) env M Q X := by
  try simp only [wR_eq, wO_eq, wE_eq, wT_eq, wEs_eq, wI_eq, wS_eq, wSs_eq, tryQ_eq, aft_eq, turnQ_eq, finQ_eq] at *
  exact W0.vE_c h
theorem vE_nope (h : Q .non M) : wE g .nope env M Q X := by
  try simp only [wR_eq, wO_eq, wE_eq, wT_eq, wEs_eq, wI_eq, wS_eq, wSs_eq, tryQ_eq, aft_eq, turnQ_eq, finQ_eq] at *
  exact W0.vE_nope h
theorem vE_var {i : Nat} {d : D} (e : env[i]? = some (some d)) (h : Q d M) : wE g (.var i) env M Q X := by
  try simp only [wR_eq, wO_eq, wE_eq, wT_eq, wEs_eq, wI_eq, wS_eq, wSs_eq, tryQ_eq, aft_eq, turnQ_eq, finQ_eq] at *
  exact W0.vE_var e h
theorem vE_bin {op : BOp} {a b : E} (h : wE g a env M (fun x M => wE g b env M (fun y M => ∃ r, binD op x y M = some r ∧ Q r M) X) X) : wE g (.bin op a b) env M Q X := by
  try simp only [wR_eq, wO_eq, wE_eq, wT_eq, wEs_eq, wI_eq, wS_eq, wSs_eq, tryQ_eq, aft_eq, turnQ_eq, finQ_eq] at *
  exact W0.vE_bin h
theorem vE_neg {a : E} (h : wE g a env M (fun x M => ∃ i, x = .int i ∧ Q (.int (-i)) M) X) : wE g (.neg a) env M Q X := by
  try simp only [wR_eq, wO_eq, wE_eq, wT_eq, wEs_eq, wI_eq, wS_eq, wSs_eq, tryQ_eq, aft_eq, turnQ_eq, finQ_eq] at *
  exact W0.vE_neg h
theorem vE_cmp {op : COp} {a b : E} (h : wE g a env M (fun x M => wE g b env M (fun y M => ∃ r, cmpD op x y M = some r ∧ Q (.bl r) M) X) X) : wE g (.cmp op a b) env M Q X := by
  try simp only [wR_eq, wO_eq, wE_eq, wT_eq, wEs_eq, wI_eq, wS_eq, wSs_eq, tryQ_eq, aft_eq, turnQ_eq, finQ_eq] at *
  exact W0.vE_cmp h
theorem vT_cmp {op : COp} {a b : E} (h : wE g a env M (fun x M => wE g b env M (fun y M => ∃ r, cmpD op x y M = some r ∧ T r M) X) X) : wT g (.cmp op a b) env M T X := by
  try simp only [wR_eq, wO_eq, wE_eq, wT_eq, wEs_eq, wI_eq, wS_eq, wSs_eq, tryQ_eq, aft_eq, turnQ_eq, finQ_eq] at *
  exact W0.vT_cmp h
theorem vE_not {a : E} (h : wE g a env M (fun x M => ∃ t, truth x M = some t ∧ Q (.bl (!t)) M) X) : wE g (.not a) env M Q X := by
  try simp only [wR_eq, wO_eq, wE_eq, wT_eq, wEs_eq, wI_eq, wS_eq, wSs_eq, tryQ_eq, aft_eq, turnQ_eq, finQ_eq] at *
  exact W0.vE_not h
theorem vT_not {a : E} (h : wT g a env M (fun x M => T (!x) M) X) : wT g (.not a) env M T X := by
  try simp only [wR_eq, wO_eq, wE_eq, wT_eq, wEs_eq, wI_eq, wS_eq, wSs_eq, tryQ_eq, aft_eq, turnQ_eq, finQ_eq] at *
  exact W0.vT_not h
theorem vE_and {a b : E} (h : wE g a env M (fun x M => ∃ t, x = .bl t ∧ if t then wE g b env M Q X else Q (.bl false) M) X) : wE g (.and a b) env M Q X := by
  try simp only [wR_eq, wO_eq, wE_eq, wT_eq, wEs_eq, wI_eq, wS_eq, wSs_eq, tryQ_eq, aft_eq, turnQ_eq, finQ_eq] at *
  exact W0.vE_and h
theorem vE_or {a b : E} (h : wE g a env M (fun x M => ∃ t, x = .bl t ∧ if t then Q (.bl true) M else wE g b env M Q X) X) : wE g (.or a b) env M Q X := by
  try simp only [wR_eq, wO_eq, wE_eq, wT_eq, wEs_eq, wI_eq, wS_eq, wSs_eq, tryQ_eq, aft_eq, turnQ_eq, finQ_eq] at *
  exact W0.vE_or h
theorem vT_and {a b : E} (h : wT g a env M (fun x M => if x then wT g b env M T X else T false M) X) : wT g (.and a b) env M T X := by
  try simp only [wR_eq, wO_eq, wE_eq, wT_eq, wEs_eq, wI_eq, wS_eq, wSs_eq, tryQ_eq, aft_eq, turnQ_eq, finQ_eq] at *
  exact W0.vT_and h
theorem vT_or {a b : E} (h : wT g a env M (fun x M => if x then T true M else wT g b env M T X) X) : wT g (.or a b) env M T X := by
  try simp only [wR_eq, wO_eq, wE_eq, wT_eq, wEs_eq, wI_eq, wS_eq, wSs_eq, tryQ_eq, aft_eq, turnQ_eq, finQ_eq] at *
  exact W0.vT_or h
theorem vE_ite {t a b : E} (h : wT g t env M (fun x M => if x then wE g a env M Q X else wE g b env M Q X) X) : wE g (.ite t a b) env M Q X := by
  try simp only [wR_eq, wO_eq, wE_eq, wT_eq, wEs_eq, wI_eq, wS_eq, wSs_eq, tryQ_eq, aft_eq, turnQ_eq, finQ_eq] at *
  exact W0.vE_ite h
theorem vE_tup {es : Es} (h : wEs g es env M (fun ds M => ∃ ds', frzs ds = some ds' ∧ ds'.length ≤ 16777216 ∧ Q (.tup ds') M) X) : wE g (.tup es) env M Q X := by
  try simp only [wR_eq, wO_eq, wE_eq, wT_eq, wEs_eq, wI_eq, wS_eq, wSs_eq, tryQ_eq, aft_eq, turnQ_eq, finQ_eq] at *
  exact W0.vE_tup h
theorem vE_lst {es : Es} (h : wEs g es env M (fun ds M => ∃ ds', frzs ds = some ds' ∧ ds'.length ≤ 16777216 ∧ Q (.fl ds') M) X) : wE g (.lst es) env M Q X := by
  try simp only [wR_eq, wO_eq, wE_eq, wT_eq, wEs_eq, wI_eq, wS_eq, wSs_eq, tryQ_eq, aft_eq, turnQ_eq, finQ_eq] at *
  exact W0.vE_lst h
theorem vE_nil {L : List D → Mem → Prop} (h : L [] M) : wEs g .nil env M L X := by
  try simp only [wR_eq, wO_eq, wE_eq, wT_eq, wEs_eq, wI_eq, wS_eq, wSs_eq, tryQ_eq, aft_eq, turnQ_eq, finQ_eq] at *
  exact W0.vE_nil h
theorem vE_cons {e : E} {es : Es} {L : List D → Mem → Prop} (h : wE g e env M (fun x M => wEs g es env M (fun ds M => L (x :: ds) M) X) X) : wEs g (.cons e es) env M L X := by
  try simp only [wR_eq, wO_eq, wE_eq, wT_eq, wEs_eq, wI_eq, wS_eq, wSs_eq, tryQ_eq, aft_eq, turnQ_eq, finQ_eq] at *
  exact W0.vE_cons h
theorem vE_idx {a i : E} (h : wE g a env M (fun x M => wE g i env M (fun y M => ∃ r, idxD x y M = some r ∧ Q r M) X) X) : wE g (.idx a i) env M Q X := by
  try simp only [wR_eq, wO_eq, wE_eq, wT_eq, wEs_eq, wI_eq, wS_eq, wSs_eq, tryQ_eq, aft_eq, turnQ_eq, finQ_eq] at *
  exact W0.vE_idx h
theorem vE_sli {a lo hi : E} (h : wE g a env M (fun x M => wE g lo env M (fun l M => ∃ l', optI l = some l' ∧ wE g hi env M (fun u M => ∃ u', optI u = some u' ∧ ∃ r, sliD x l' u' M = some r ∧ Q r M) X) X) X) : wE g (.sli a lo hi) env M Q X := by
  try simp only [wR_eq, wO_eq, wE_eq, wT_eq, wEs_eq, wI_eq, wS_eq, wSs_eq, tryQ_eq, aft_eq, turnQ_eq, finQ_eq] at *
  exact W0.vE_sli h
theorem vE_mat {a : E} (h : wE g a env M (fun x M => ∃ ds, x = .fl ds ∧ Q (.ref M.length) (M ++ [.lst ds])) X) : wE g (.mat a) env M Q X := by
  try simp only [wR_eq, wO_eq, wE_eq, wT_eq, wEs_eq, wI_eq, wS_eq, wSs_eq, tryQ_eq, aft_eq, turnQ_eq, finQ_eq] at *
  exact W0.vE_mat h
theorem vE_call {F F' : Fn} {nn : Nat} {f : Str} {as : Es} (h : wEs ⟨F, true, F', nn⟩ as env M (fun ds M => ∃ ds', frzs ds = some ds' ∧ wR (inv F f ds' M) Q X) X) : wE ⟨F, true, F', nn⟩ (.call f as) env M Q X := by
  try simp only [wR_eq, wO_eq, wE_eq, wT_eq, wEs_eq, wI_eq, wS_eq, wSs_eq, tryQ_eq, aft_eq, turnQ_eq, finQ_eq] at *
  exact W0.vE_call h
theorem vT_call {F F' : Fn} {nn : Nat} {f : Str} {as : Es} (h : wEs ⟨F, true, F', nn⟩ as env M (fun ds M => ∃ ds', frzs ds = some ds' ∧ wR (inv F f ds' M) (fun d M => ∃ t, truth d M = some t ∧ T t M) X) X) : wT ⟨F, true, F', nn⟩ (.call f as) env M T X := by
  try simp only [wR_eq, wO_eq, wE_eq, wT_eq, wEs_eq, wI_eq, wS_eq, wSs_eq, tryQ_eq, aft_eq, turnQ_eq, finQ_eq] at *
  exact W0.vT_call h
theorem vE_bi {b : Bi} {as : Es} (hc : (biHot b || g.calm) = true) (h : wEs g as env M (fun ds M => ∃ r, biD b ds M = some r ∧ Q r M) X) : wE g (.bi b as) env M Q X := by
  try simp only [wR_eq, wO_eq, wE_eq, wT_eq, wEs_eq, wI_eq, wS_eq, wSs_eq, tryQ_eq, aft_eq, turnQ_eq, finQ_eq] at *
  exact W0.vE_bi hc h
theorem vT_bi {b : Bi} {as : Es} (hc : (biHot b || g.calm) = true) (h : wEs g as env M (fun ds M => ∃ r, biD b ds M = some r ∧ ∃ t, truth r M = some t ∧ T t M) X) : wT g (.bi b as) env M T X := by
  try simp only [wR_eq, wO_eq, wE_eq, wT_eq, wEs_eq, wI_eq, wS_eq, wSs_eq, tryQ_eq, aft_eq, turnQ_eq, finQ_eq] at *
  exact W0.vT_bi hc h
theorem vE_mth {m : Mt} {o : E} {as : Es} (h : wE g o env M (fun x M => mthOk m x M = true ∧ wEs g as env M (fun ds M => ∃ ds', frzs ds = some ds' ∧ ds'.all argOk = true ∧ ∃ r M', mthD m x ds' M = some (r, M') ∧ Q r M') X) X) : wE g (.mth m o as) env M Q X := by
  try simp only [wR_eq, wO_eq, wE_eq, wT_eq, wEs_eq, wI_eq, wS_eq, wSs_eq, tryQ_eq, aft_eq, turnQ_eq, finQ_eq] at *
  exact W0.vE_mth h
theorem vE_att {o : E} {c f : Str} (h : wE g o env M (fun x M => ∃ r fs d, insOf c x M = some (r, fs) ∧ fs.lookup f = some d ∧ Q d M) X) : wE g (.att c o f) env M Q X := by
  try simp only [wR_eq, wO_eq, wE_eq, wT_eq, wEs_eq, wI_eq, wS_eq, wSs_eq, tryQ_eq, aft_eq, turnQ_eq, finQ_eq] at *
  exact W0.vE_att h
theorem vE_own {F F' : Fn} {nn : Nat} {o : E} {c m : Str} {as : Es} (h : wE ⟨F, true, F', nn⟩ o env M (fun x M => ∃ r fs, insOf c x M = some (r, fs) ∧ fs.lookup m = none ∧ wEs ⟨F, true, F', nn⟩ as env M (fun ds M => ∃ ds', frzs ds = some ds' ∧ wR (inv F (qual c m) (x :: ds') M) Q X) X) X) :
    wE ⟨F, true, F', nn⟩ (.own c m o as) env M Q X := by
  try simp only [wR_eq, wO_eq, wE_eq, wT_eq, wEs_eq, wI_eq, wS_eq, wSs_eq, tryQ_eq, aft_eq, turnQ_eq, finQ_eq] at *
  exact W0.vE_own h
theorem vT_own {F F' : Fn} {nn : Nat} {o : E} {c m : Str} {as : Es} (h : wE ⟨F, true, F', nn⟩ o env M (fun x M => ∃ r fs, insOf c x M = some (r, fs) ∧ fs.lookup m = none ∧ wEs ⟨F, true, F', nn⟩ as env M (fun ds M => ∃ ds', frzs ds = some ds' ∧ wR (inv F (qual c m) (x :: ds') M) (fun d M => ∃ t, truth d M = some t ∧ T t M) X) X) X) :
    wT ⟨F, true, F', nn⟩ (.own c m o as) env M T X := by
  try simp only [wR_eq, wO_eq, wE_eq, wT_eq, wEs_eq, wI_eq, wS_eq, wSs_eq, tryQ_eq, aft_eq, turnQ_eq, finQ_eq] at *
  exact W0.vT_own h
theorem vE_new {F F' : Fn} {nn : Nat} {c : Str} {as : Es} (hn : 1 ≤ nn) (h : wEs ⟨F, true, F', nn⟩ as env M (fun ds M => ∃ ds', frzs ds = some ds' ∧ wR (inv F' (qual c "__init__") (.ref M.length :: ds') (M ++ [.ins c []])) (fun v M' => v = .non ∧ Q (.ref M.length) M') X) X) :
    wE ⟨F, true, F', nn⟩ (.new c as) env M Q X := by
  try simp only [wR_eq, wO_eq, wE_eq, wT_eq, wEs_eq, wI_eq, wS_eq, wSs_eq, tryQ_eq, aft_eq, turnQ_eq, finQ_eq] at *
  exact W0.vE_new hn h
theorem vE_isi {a : E} {ts : List Ty} (h : wE g a env M (fun x M => ∃ t, isTs x M ts = some t ∧ Q (.bl t) M) X) : wE g (.isi a ts) env M Q X := by
  try simp only [wR_eq, wO_eq, wE_eq, wT_eq, wEs_eq, wI_eq, wS_eq, wSs_eq, tryQ_eq, aft_eq, turnQ_eq, finQ_eq] at *
  exact W0.vE_isi h
theorem vT_isi {a : E} {ts : List Ty} (h : wE g a env M (fun x M => ∃ t, isTs x M ts = some t ∧ T t M) X) : wT g (.isi a ts) env M T X := by
  try simp only [wR_eq, wO_eq, wE_eq, wT_eq, wEs_eq, wI_eq, wS_eq, wSs_eq, tryQ_eq, aft_eq, turnQ_eq, finQ_eq] at *
  exact W0.vT_isi h
theorem vT_nope (h : T true M) : wT g .nope env M T X := by
  try simp only [wR_eq, wO_eq, wE_eq, wT_eq, wEs_eq, wI_eq, wS_eq, wSs_eq, tryQ_eq, aft_eq, turnQ_eq, finQ_eq] at *
  exact W0.vT_nope h
theorem vT_var {i : Nat} {d : D} (e : env[i]? = some (some d)) (h : ∃ t, truth d M = some t ∧ T t M) : wT g (.var i) env M T X := by
  try simp only [wR_eq, wO_eq, wE_eq, wT_eq, wEs_eq, wI_eq, wS_eq, wSs_eq, tryQ_eq, aft_eq, turnQ_eq, finQ_eq] at *
  exact W0.vT_var e h
theorem vT_idx {a i : E} (h : wE g a env M (fun x M => wE g i env M (fun y M => ∃ r, idxD x y M = some r ∧ ∃ t, truth r M = some t ∧ T t M) X) X) : wT g (.idx a i) env M T X := by
  try simp only [wR_eq, wO_eq, wE_eq, wT_eq, wEs_eq, wI_eq, wS_eq, wSs_eq, tryQ_eq, aft_eq, turnQ_eq, finQ_eq] at *
  exact W0.vT_idx h
theorem vE_comp {F F' : Fn} {nn : Nat} {gt : List Nat} {it : It} {cond elt : E} {own : List Nat} (h : wI ⟨F, true, F', nn⟩ it env M (fun w M => ∃ I : List D → List D → Mem → Prop, (∀ l acc M, I l acc M → w.watch M = true) ∧ I w.items [] M ∧
      (∀ x l acc M, I (x :: l) acc M → ∃ env1, bindG gt x M (wipeE env own) = some env1 ∧ wT ⟨F, true, F', nn⟩ cond env1 M (fun t M => if t then wE ⟨F, true, F', nn⟩ elt env1 M (fun y M => ∃ y', frz y = some y' ∧ I l (acc ++ [y']) M) noE else I l acc M) noE) ∧
      ∀ ys M, I [] ys M → ys.length ≤ 16777216 ∧ Q (.fl ys) M) X) : wE ⟨F, true, F', nn⟩ (.comp gt it cond elt own) env M Q X := by
  try simp only [wR_eq, wO_eq, wE_eq, wT_eq, wEs_eq, wI_eq, wS_eq, wSs_eq, tryQ_eq, aft_eq, turnQ_eq, finQ_eq] at *
  exact W0.vE_comp h
theorem vI_seq {e : E} {W : Wk → Mem → Prop} (h : wE g e env M (fun x M => ∃ ds, seqOf x M = some ds ∧ W ⟨ds, watchOf x ds⟩ M) X) : wI g (.seq e) env M W X := by
  try simp only [wR_eq, wO_eq, wE_eq, wT_eq, wEs_eq, wI_eq, wS_eq, wSs_eq, tryQ_eq, aft_eq, turnQ_eq, finQ_eq] at *
  exact W0.vI_seq h
theorem vI_txt {e : E} {W : Wk → Mem → Prop} (h : wE g e env M (fun x M => ∃ z, x = .str z ∧ W ⟨signs z, still⟩ M) X) : wI g (.txt e) env M W X := by
  try simp only [wR_eq, wO_eq, wE_eq, wT_eq, wEs_eq, wI_eq, wS_eq, wSs_eq, tryQ_eq, aft_eq, turnQ_eq, finQ_eq] at *
  exact W0.vI_txt h
theorem vI_rng {a b : E} {W : Wk → Mem → Prop} (h : wE g a env M (fun x M => wE g b env M (fun y M => ∃ lo hi, x = .int lo ∧ y = .int hi ∧ rngOk lo hi = true ∧ W ⟨rangeL lo (hi - lo).toNat, still⟩ M) X) X) : wI g (.rng a b) env M W X := by
  try simp only [wR_eq, wO_eq, wE_eq, wT_eq, wEs_eq, wI_eq, wS_eq, wSs_eq, tryQ_eq, aft_eq, turnQ_eq, finQ_eq] at *
  exact W0.vI_rng h
end
variable {Q : Fl → Prop} {r : Ss}
theorem vS_nil (h : Q (.nx env M)) : wSs g .nil env M Q := by
  try simp only [wR_eq, wO_eq, wE_eq, wT_eq, wEs_eq, wI_eq, wS_eq, wSs_eq, tryQ_eq, aft_eq, turnQ_eq, finQ_eq] at *
  exact W0.vS_nil h
theorem vS_cons {s : S} (h : wS g s env M (fun fl => match fl with
    | .nx env1 M1 => wSs g r env1 M1 Q
    | x => Q x)) : wSs g (.cons s r) env M Q := by
  try simp only [wR_eq, wO_eq, wE_eq, wT_eq, wEs_eq, wI_eq, wS_eq, wSs_eq, tryQ_eq, aft_eq, turnQ_eq, finQ_eq] at *
  exact W0.vS_cons h
theorem vS_skip (h : wSs g r env M Q) : wSs g (.cons .skip r) env M Q := by
  try simp only [wR_eq, wO_eq, wE_eq, wT_eq, wEs_eq, wI_eq, wS_eq, wSs_eq, tryQ_eq, aft_eq, turnQ_eq, finQ_eq] at *
  exact W0.vS_skip h
theorem vS_expr {e : E} (h : wE g e env M (fun _ M => wSs g r env M Q) fun c p M => Q (.ex env c p M)) : wSs g (.cons (.expr e) r) env M Q := by
  try simp only [wR_eq, wO_eq, wE_eq, wT_eq, wEs_eq, wI_eq, wS_eq, wSs_eq, tryQ_eq, aft_eq, turnQ_eq, finQ_eq] at *
  exact W0.vS_expr h
theorem vS_asg {i : Nat} {e : E} (h : wE g e env M (fun x M => ∃ x', frz x = some x' ∧ wSs g r (env.set i (some x')) M Q) fun c p M => Q (.ex env c p M)) : wSs g (.cons (.asg (.name i) e) r) env M Q := by
  try simp only [wR_eq, wO_eq, wE_eq, wT_eq, wEs_eq, wI_eq, wS_eq, wSs_eq, tryQ_eq, aft_eq, turnQ_eq, finQ_eq] at *
  exact W0.vS_asg h
theorem vS_asgT {F F' : Fn} {nn : Nat} {is : List Nat} {e : E} (h : wE ⟨F, true, F', nn⟩ e env M (fun x M => ∃ x', frz x = some x' ∧ ∃ env1, bindG is x' M env = some env1 ∧ wSs ⟨F, true, F', nn⟩ r env1 M Q) fun c p M => Q (.ex env c p M)) : wSs ⟨F, true, F', nn⟩ (.cons (.asg (.tup is) e) r) env M Q := by
  try simp only [wR_eq, wO_eq, wE_eq, wT_eq, wEs_eq, wI_eq, wS_eq, wSs_eq, tryQ_eq, aft_eq, turnQ_eq, finQ_eq] at *
  exact W0.vS_asgT h
theorem vS_sub {o i e : E} (h : wE g e env M (fun x M => ∃ x', frz x = some x' ∧ wE g o env M (fun od M => wE g i env M (fun id M => ∃ M1, setSub od id x' M = some M1 ∧ wSs g r env M1 Q) fun c p M => Q (.ex env c p M)) fun c p M => Q (.ex env c p M)) fun c p M => Q (.ex env c p M)) : wSs g (.cons (.asg (.sub o i) e) r) env M Q := by
  try simp only [wR_eq, wO_eq, wE_eq, wT_eq, wEs_eq, wI_eq, wS_eq, wSs_eq, tryQ_eq, aft_eq, turnQ_eq, finQ_eq] at *
  exact W0.vS_sub h
theorem vS_asgA {o e : E} {c f : Str} (h : wE g e env M (fun x M => ∃ x', frz x = some x' ∧ wE g o env M (fun od M => ∃ k fs, insOf c od M = some (k, fs) ∧ wSs g r env (M.set k (.ins c (putA f x' fs))) Q) fun c p M => Q (.ex env c p M)) fun c p M => Q (.ex env c p M)) : wSs g (.cons (.asg (.att c o f) e) r) env M Q := by
  try simp only [wR_eq, wO_eq, wE_eq, wT_eq, wEs_eq, wI_eq, wS_eq, wSs_eq, tryQ_eq, aft_eq, turnQ_eq, finQ_eq] at *
  exact W0.vS_asgA h
theorem vS_aug {i : Nat} {op : BOp} {e : E} {a : Int} (ha : env[i]? = some (some (.int a))) (h : wE g e env M (fun x M => ∃ b z, x = .int b ∧ binI op a b = some z ∧ wSs g r (env.set i (some (.int z))) M Q) fun c p M => Q (.ex env c p M)) : wSs g (.cons (.aug i op e) r) env M Q := by
  try simp only [wR_eq, wO_eq, wE_eq, wT_eq, wEs_eq, wI_eq, wS_eq, wSs_eq, tryQ_eq, aft_eq, turnQ_eq, finQ_eq] at *
  exact W0.vS_aug ha h
theorem vS_augA {o e : E} {c f : Str} {op : BOp} (h : wE g o env M (fun od M => ∃ k fs a, insOf c od M = some (k, fs) ∧ fs.lookup f = some (.int a) ∧ wE g e env M (fun x M => ∃ b z k fs, x = .int b ∧ binI op a b = some z ∧ insOf c od M = some (k, fs) ∧ wSs g r env (M.set k (.ins c (putA f (.int z) fs))) Q) fun c p M => Q (.ex env c p M)) fun c p M => Q (.ex env c p M)) : wSs g (.cons (.augA c o f op e) r) env M Q := by
  try simp only [wR_eq, wO_eq, wE_eq, wT_eq, wEs_eq, wI_eq, wS_eq, wSs_eq, tryQ_eq, aft_eq, turnQ_eq, finQ_eq] at *
  exact W0.vS_augA h
theorem vS_raise {F F' : Fn} {nn : Nat} {c f : Str} {e : E} (hn : 3 ≤ nn) (h : wE ⟨F, true, F', nn⟩ e env M (fun x M => ∃ x', frz x = some x' ∧ Q (.ex env c [(f, x')] M)) fun c p M => Q (.ex env c p M)) : wSs ⟨F, true, F', nn⟩ (.cons (.raise c f e) r) env M Q := by
  try simp only [wR_eq, wO_eq, wE_eq, wT_eq, wEs_eq, wI_eq, wS_eq, wSs_eq, tryQ_eq, aft_eq, turnQ_eq, finQ_eq] at *
  exact W0.vS_raise hn h
theorem vtry_nx {c f : Str} {i : Nat} (h : wSs g r env M Q) : tryQ g r c f i Q (.nx env M) := by
  try simp only [wR_eq, wO_eq, wE_eq, wT_eq, wEs_eq, wI_eq, wS_eq, wSs_eq, tryQ_eq, aft_eq, turnQ_eq, finQ_eq] at *
  exact W0.vtry_nx h
theorem vtry_rt {c f : Str} {i : Nat} {d : D} (h : Q (.rt d M)) : tryQ g r c f i Q (.rt d M) := by
  try simp only [wR_eq, wO_eq, wE_eq, wT_eq, wEs_eq, wI_eq, wS_eq, wSs_eq, tryQ_eq, aft_eq, turnQ_eq, finQ_eq] at *
  exact W0.vtry_rt h
theorem vtry_ex {c f : Str} {i : Nat} {p : List (Str × D)} {x y : Int} (h1 : p.lookup f = some (.int x)) (h2 : env[i]? = some (some (.int y))) (h : Q (.rt (.bl (decide (x = y))) M)) : tryQ g r c f i Q (.ex env c p M) := by
  try simp only [wR_eq, wO_eq, wE_eq, wT_eq, wEs_eq, wI_eq, wS_eq, wSs_eq, tryQ_eq, aft_eq, turnQ_eq, finQ_eq] at *
  exact W0.vtry_ex h1 h2 h
theorem vS_try {F F' : Fn} {nn : Nat} {c f : Str} {i : Nat} {b : Ss} (hn : 3 ≤ nn) (h : wSs ⟨F, true, F', nn⟩ b env M (tryQ ⟨F, true, F', nn⟩ r c f i Q)) : wSs ⟨F, true, F', nn⟩ (.cons (.tryS b c f i) r) env M Q := by
  try simp only [wR_eq, wO_eq, wE_eq, wT_eq, wEs_eq, wI_eq, wS_eq, wSs_eq, tryQ_eq, aft_eq, turnQ_eq, finQ_eq] at *
  exact W0.vS_try hn h
theorem vS_ret {e : E} (h : wE g e env M (fun x M => Q (.rt x M)) fun c p M => Q (.ex env c p M)) : wSs g (.cons (.ret e) r) env M Q := by
  try simp only [wR_eq, wO_eq, wE_eq, wT_eq, wEs_eq, wI_eq, wS_eq, wSs_eq, tryQ_eq, aft_eq, turnQ_eq, finQ_eq] at *
  exact W0.vS_ret h
theorem vS_brk (h : Q (.bk env M)) : wSs g (.cons .brk r) env M Q := by
  try simp only [wR_eq, wO_eq, wE_eq, wT_eq, wEs_eq, wI_eq, wS_eq, wSs_eq, tryQ_eq, aft_eq, turnQ_eq, finQ_eq] at *
  exact W0.vS_brk h
theorem vS_cont (h : Q (.ct env M)) : wSs g (.cons .cont r) env M Q := by
  try simp only [wR_eq, wO_eq, wE_eq, wT_eq, wEs_eq, wI_eq, wS_eq, wSs_eq, tryQ_eq, aft_eq, turnQ_eq, finQ_eq] at *
  exact W0.vS_cont h
theorem vaft_nx (h : wSs g r env M Q) : aft g r Q (.nx env M) := by
  try simp only [wR_eq, wO_eq, wE_eq, wT_eq, wEs_eq, wI_eq, wS_eq, wSs_eq, tryQ_eq, aft_eq, turnQ_eq, finQ_eq] at *
  exact W0.vaft_nx h
theorem vaft_rt {d : D} (h : Q (.rt d M)) : aft g r Q (.rt d M) := by
  try simp only [wR_eq, wO_eq, wE_eq, wT_eq, wEs_eq, wI_eq, wS_eq, wSs_eq, tryQ_eq, aft_eq, turnQ_eq, finQ_eq] at *
  exact W0.vaft_rt h
theorem vaft_bk (h : Q (.bk env M)) : aft g r Q (.bk env M) := by
  try simp only [wR_eq, wO_eq, wE_eq, wT_eq, wEs_eq, wI_eq, wS_eq, wSs_eq, tryQ_eq, aft_eq, turnQ_eq, finQ_eq] at *
  exact W0.vaft_bk h
theorem vaft_ct (h : Q (.ct env M)) : aft g r Q (.ct env M) := by
  try simp only [wR_eq, wO_eq, wE_eq, wT_eq, wEs_eq, wI_eq, wS_eq, wSs_eq, tryQ_eq, aft_eq, turnQ_eq, finQ_eq] at *
  exact W0.vaft_ct h
theorem vaft_ex {c : Str} {p : List (Str × D)} (h : Q (.ex env c p M)) : aft g r Q (.ex env c p M) := by
  try simp only [wR_eq, wO_eq, wE_eq, wT_eq, wEs_eq, wI_eq, wS_eq, wSs_eq, tryQ_eq, aft_eq, turnQ_eq, finQ_eq] at *
  exact W0.vaft_ex h
theorem vS_ife {t : E} {a b : Ss} (h : wT g t env M (fun x M => if x then wSs g a env M (aft g r Q) else wSs g b env M (aft g r Q)) fun c p M => Q (.ex env c p M)) : wSs g (.cons (.ife t a b) r) env M Q := by
  try simp only [wR_eq, wO_eq, wE_eq, wT_eq, wEs_eq, wI_eq, wS_eq, wSs_eq, tryQ_eq, aft_eq, turnQ_eq, finQ_eq] at *
  exact W0.vS_ife h
theorem vturn_nx {I : Env → Mem → Prop} (h : I env M) : turnQ I Q (.nx env M) := by
  try simp only [wR_eq, wO_eq, wE_eq, wT_eq, wEs_eq, wI_eq, wS_eq, wSs_eq, tryQ_eq, aft_eq, turnQ_eq, finQ_eq] at *
  exact W0.vturn_nx h
theorem vturn_ct {I : Env → Mem → Prop} (h : I env M) : turnQ I Q (.ct env M) := by
  try simp only [wR_eq, wO_eq, wE_eq, wT_eq, wEs_eq, wI_eq, wS_eq, wSs_eq, tryQ_eq, aft_eq, turnQ_eq, finQ_eq] at *
  exact W0.vturn_ct h
theorem vturn_bk {I : Env → Mem → Prop} (h : Q (.nx env M)) : turnQ I Q (.bk env M) := by
  try simp only [wR_eq, wO_eq, wE_eq, wT_eq, wEs_eq, wI_eq, wS_eq, wSs_eq, tryQ_eq, aft_eq, turnQ_eq, finQ_eq] at *
  exact W0.vturn_bk h
theorem vturn_rt {I : Env → Mem → Prop} {d : D} (h : Q (.rt d M)) : turnQ I Q (.rt d M) := by
  try simp only [wR_eq, wO_eq, wE_eq, wT_eq, wEs_eq, wI_eq, wS_eq, wSs_eq, tryQ_eq, aft_eq, turnQ_eq, finQ_eq] at *
  exact W0.vturn_rt h
theorem vturn_ex {I : Env → Mem → Prop} {c : Str} {p : List (Str × D)} (h : Q (.ex env c p M)) : turnQ I Q (.ex env c p M) := by
  try simp only [wR_eq, wO_eq, wE_eq, wT_eq, wEs_eq, wI_eq, wS_eq, wSs_eq, tryQ_eq, aft_eq, turnQ_eq, finQ_eq] at *
  exact W0.vturn_ex h
theorem vS_for {F F' : Fn} {nn : Nat} {gt : List Nat} {it : It} {b : Ss} (h : wI ⟨F, true, F', nn⟩ it env M (fun w M => ∃ I : List D → Env → Mem → Prop, (∀ l env M, I l env M → w.watch M = true) ∧ I w.items env M ∧
      (∀ x l env M, I (x :: l) env M → ∃ env1, bindG gt x M env = some env1 ∧ wSs ⟨F, true, F', nn⟩ b env1 M (turnQ (I l) (aft ⟨F, true, F', nn⟩ r Q))) ∧
      ∀ env M, I [] env M → wSs ⟨F, true, F', nn⟩ r env M Q) fun c p M => Q (.ex env c p M)) : wSs ⟨F, true, F', nn⟩ (.cons (.for_ gt it b) r) env M Q := by
  try simp only [wR_eq, wO_eq, wE_eq, wT_eq, wEs_eq, wI_eq, wS_eq, wSs_eq, tryQ_eq, aft_eq, turnQ_eq, finQ_eq] at *
  exact W0.vS_for h
theorem vS_whl {t : E} {b : Ss} (h : ∃ I : Nat → Env → Mem → Prop, (∃ n, I n env M) ∧ ∀ n env M, I n env M → wT g t env M (fun x M => if x then wSs g b env M (turnQ (fun env M => ∃ m, m < n ∧ I m env M) (aft g r Q)) else wSs g r env M Q) (fun c p M => Q (.ex env c p M))) : wSs g (.cons (.whl t b) r) env M Q := by
  try simp only [wR_eq, wO_eq, wE_eq, wT_eq, wEs_eq, wI_eq, wS_eq, wSs_eq, tryQ_eq, aft_eq, turnQ_eq, finQ_eq] at *
  exact W0.vS_whl h
theorem vE_fin {x : Option Fl} {Q : D → Mem → Prop} {X : Ex} (h : wO x fun fl => match fl with
    | .rt d M => Q d M
    | .nx _ M => Q .non M
    | .ex _ c p M => X c p M
    | _ => False) : wR (fin x) Q X := by
  try simp only [wR_eq, wO_eq, wE_eq, wT_eq, wEs_eq, wI_eq, wS_eq, wSs_eq, tryQ_eq, aft_eq, turnQ_eq, finQ_eq] at *
  exact W0.vE_fin h
theorem vfin_rtQ {Q : D → Mem → Prop} {d : D} (h : Q d M) : finQ Q X (.rt d M) := by
  try simp only [wR_eq, wO_eq, wE_eq, wT_eq, wEs_eq, wI_eq, wS_eq, wSs_eq, tryQ_eq, aft_eq, turnQ_eq, finQ_eq] at *
  exact W0.vfin_rtQ h
theorem vfin_nxQ {Q : D → Mem → Prop} (h : Q .non M) : finQ Q X (.nx env M) := by
  try simp only [wR_eq, wO_eq, wE_eq, wT_eq, wEs_eq, wI_eq, wS_eq, wSs_eq, tryQ_eq, aft_eq, turnQ_eq, finQ_eq] at *
  exact W0.vfin_nxQ h
theorem vfin_exQ {Q : D → Mem → Prop} {c : Str} {p : List (Str × D)} (h : X c p M) : finQ Q X (.ex env c p M) := by
  try simp only [wR_eq, wO_eq, wE_eq, wT_eq, wEs_eq, wI_eq, wS_eq, wSs_eq, tryQ_eq, aft_eq, turnQ_eq, finQ_eq] at *
  exact W0.vfin_exQ h
theorem vE_def {P : Prg} {k : Nat} {f : Str} {ds : List D} {ps n : Nat} {b : Ss} {Q : D → Mem → Prop} (e : P.lookup f = some ⟨ps, n, b⟩) (hl : ds.length = ps) (h : wSs ⟨callK P true k, true, callK P true (k - 1), k⟩ b (startE n ds) M (finQ Q X)) : wR (callK P true (k + 1) f ds M) Q X := by
  try simp only [wR_eq, wO_eq, wE_eq, wT_eq, wEs_eq, wI_eq, wS_eq, wSs_eq, tryQ_eq, aft_eq, turnQ_eq, finQ_eq] at *
  exact W0.vE_def e hl h
end Z
end
section
set_option Elab.async false
set_option linter.all false
set_option maxRecDepth 100000
set_option maxHeartbeats 1000000
set_option autoImplicit false
/-! Plain rules about the evaluator. -/
namespace Z
open PySem
variable {P : Prg} {k : Nat} {f : Str} {ds : List D} {M M1 : Mem} {d r : D} {g : G}
theorem on_ok {α : Type} {a : α} {env : Env} {f : α → Mem → Option Fl} : onR env (some (.ok a M)) f = f a M := rfl
theorem fin_rt : fin (some (.rt d M)) = some (.ok d M) := rfl
theorem fin_nx {env : Env} : fin (some (.nx env M)) = some (.ok .non M) := rfl
theorem lift1_some : lift1 (some d) M = some (.ok d M) := rfl
theorem liftB_some {b : Bool} : liftB (some b) M = some (.ok (.bl b) M) := rfl
theorem obind_some {α β : Type} {a : α} {f : α → Option β} : Option.bind (some a) f = f a := rfl
theorem bind_ok {α β : Type} {a : α} {f : α → Mem → R β} : R.bind (some (.ok a M)) f = f a M := rfl
theorem deep_val {m av n : Nat} (h : d.val = true) : deep m av M (n + 1) d = some d := by
  unfold deep
  rw [if_pos h]
theorem out_val {m : Nat} (h : d.val = true) : outD m M d = some d := by
  have e : deep m M.length M 100000 d = some d := deep_val (n := 99999) h
  cases d <;> first
    | exact e
    | cases h
theorem refs_vals : ∀ {ds : List D}, D.vals ds = true → ds.flatMap refs1 = [] ∧ ds.all argOk = true ∧ ∀ rs, ds.map (ren rs) = ds
  | [], _ => ⟨rfl, rfl, fun _ => rfl⟩
  | d :: ds, h => by
    have h' := band (show (d.val && D.vals ds) = true from h)
    obtain ⟨h1, h2, h3⟩ := refs_vals h'.2
    have hr : ∀ n, d ≠ .ref n := fun n z => by
      rw [z] at h'
      cases h'.1
    refine ⟨?_, ?_, fun rs => ?_⟩
    · rw [List.flatMap_cons, h1, List.append_nil]
      cases d <;> first
        | rfl
        | exact absurd rfl (hr _)
    · rw [List.all_cons, h2, Bool.and_true]
      cases d <;> first
        | exact h'.1
        | exact absurd rfl (hr _)
    · rw [List.map_cons, h3]
      congr 1
      cases d <;> first
        | rfl
        | exact absurd rfl (hr _)
/-- a call with plain values -/
theorem inv_vals {Fn_ : Fn} {r' : D} (h : D.vals ds = true) (e : Fn_ f ds [] = some (.ok r M1)) (o : outD 0 M1 r = some r') : inv Fn_ f ds M = some (.ok r' M) := by
  obtain ⟨h1, h2, h3⟩ := refs_vals h
  have hr : refsOf ds = [] := by
    unfold refsOf
    rw [h1]
    exact List.eraseDups_nil
  unfold inv
  rw [if_pos h2, hr]
  show backR [] M (Fn_ f (ds.map (ren [])) []) = _
  rw [h3, e]
  show (if flats [] then (match outD 0 M1 r with
    | some d' => some (Rs.ok d' (putBack [] [] M))
    | none => none) else none) = _
  rw [o]
  rfl
theorem inv_val {Fn_ : Fn} (h : D.vals ds = true) (e : Fn_ f ds [] = some (.ok r M1)) (hr : r.val = true) : inv Fn_ f ds M = some (.ok r M) := inv_vals h e (out_val hr)
/-- a comprehension whose turns change nothing -/
theorem compL_map {wt : Mem → Bool} {body : D → Mem → R (Option D)} {F : D → D} (hw : wt M = true) : ∀ {l : List D}, (∀ x ∈ l, body x M = some (.ok (some (F x)) M)) → compL wt body l M = some (.ok (l.map F) M)
  | [], _ => by
    rw [compL, if_pos hw]
    rfl
  | x :: l, h => by
    rw [compL, if_pos hw, h x List.mem_cons_self]
    dsimp only
    rw [compL_map hw fun y hy => h y (List.mem_cons_of_mem _ hy)]
    rfl
theorem frz_int {i : Int} : frz (.int i) = some (.int i) := rfl
theorem frz_bl {b : Bool} : frz (.bl b) = some (.bl b) := rfl
theorem frz_str {s : Str} : frz (.str s) = some (.str s) := rfl
theorem frz_tup {ds : List D} : frz (.tup ds) = some (.tup ds) := rfl
theorem frz_tl {ds : List D} : frz (.tl ds) = some (.tl ds) := rfl
theorem frz_fl {ds : List D} : frz (.fl ds) = some (.tl ds) := rfl
theorem frz_non : frz .non = some .non := rfl
theorem frz_val {d : D} (h : d.val = true) : frz d = some d := by
  cases d <;> first
    | rfl
    | cases h
theorem frzs_vals : ∀ {ds : List D}, D.vals ds = true → frzs ds = some ds
  | [], _ => rfl
  | d :: ds, h => by
    have h' := band (show (d.val && D.vals ds) = true from h)
    rw [frzs, frz_val h'.1, frzs_vals h'.2]
end Z
end
section
set_option Elab.async false
set_option linter.all false
set_option maxRecDepth 100000
set_option maxHeartbeats 1000000
set_option autoImplicit false
/-! Calls, a list of draws, small rules. -/
namespace Z
open PySem
variable {M : Mem} {X : Ex} {F : Fn} {f : Str} {ds : List D} {r : Nat} {Q : D → Mem → Prop} {P : D → Prop}
variable {g : G} {env : Env}
theorem wE.mono {e : E} {Q Q' : D → Mem → Prop} {X X' : Ex} (h : wE g e env M Q X) (hq : ∀ a M, Q a M → Q' a M) (he : ∀ c p M, X c p M → X' c p M) : wE g e env M Q' X' := by
  simp only [wE_eq] at *
  exact W0.wR.mono h hq he
theorem wT.mono {e : E} {Q Q' : Bool → Mem → Prop} {X X' : Ex} (h : wT g e env M Q X) (hq : ∀ a M, Q a M → Q' a M) (he : ∀ c p M, X c p M → X' c p M) : wT g e env M Q' X' := by
  simp only [wT_eq] at *
  exact W0.wR.mono h hq he
theorem wI.mono {e : It} {Q Q' : Wk → Mem → Prop} {X X' : Ex} (h : wI g e env M Q X) (hq : ∀ a M, Q a M → Q' a M) (he : ∀ c p M, X c p M → X' c p M) : wI g e env M Q' X' := by
  simp only [wI_eq] at *
  exact W0.wR.mono h hq he
theorem wEs.mono {e : Es} {Q Q' : List D → Mem → Prop} {X X' : Ex} (h : wEs g e env M Q X) (hq : ∀ a M, Q a M → Q' a M) (he : ∀ c p M, X c p M → X' c p M) : wEs g e env M Q' X' := by
  simp only [wEs_eq] at *
  exact W0.wR.mono h hq he
theorem wSs.mono {s : Ss} {Q Q' : Fl → Prop} (h : wSs g s env M Q) (hq : ∀ fl, Q fl → Q' fl) : wSs g s env M Q' := by
  simp only [wSs_eq] at *
  exact W0.wO.mono h hq
theorem inv_vW (h : D.vals ds = true) (e : wR (F f ds []) (fun v M1 => ∃ v', outD 0 M1 v = some v' ∧ Q v' M) noE) : wR (inv F f ds M) Q X := by
  obtain ⟨v, M1, e1, v', e2, h2⟩ := wR.ok e
  exact wR.of (inv_vals h e1 e2) h2
/-- the draws -/
def Dr (ns : List Int) : MO := .lst (ns.map .int)
theorem vals_ints : ∀ ns : List Int, D.vals (ns.map .int) = true
  | [] => rfl
  | n :: ns => vals_ints ns
/-- what a def that takes draws gives -/
def SpD (F : Fn) (f : Str) (ds : List D) (P : D → Prop) : Prop := ∀ ns : List Int, wR (F f (.ref 0 :: ds) [Dr ns]) (fun v M1 => ∃ ns' Mx v', M1 = Dr ns' :: Mx ∧ outD 1 M1 v = some v' ∧ P v') noE
theorem objs_dr {ns : List Int} (hM : M[r]? = some (Dr ns)) : objs M [r] = some [Dr ns] := by
  rw [objs, hM]
  rfl
theorem inv_dr {ns : List Int} (h : SpD F f ds P) (hv : D.vals ds = true) (hM : M[r]? = some (Dr ns)) (hQ : ∀ v ns', P v → Q v (M.set r (Dr ns'))) : wR (inv F f (.ref r :: ds) M) Q X := by
  obtain ⟨v, M1, e1, ns', Mx, v', rfl, e2, h2⟩ := wR.ok (h ns)
  obtain ⟨a1, a2, a3⟩ := refs_vals hv
  have hr : refsOf (.ref r :: ds) = [r] := by
    unfold refsOf
    rw [List.flatMap_cons, a1]
    rfl
  refine wR.of ?_ (hQ v' ns' h2)
  unfold inv
  rw [if_pos (by rw [List.all_cons, a2]; rfl), hr, objs_dr hM]
  dsimp only
  have fl : flats [Dr ns] = true := by
    show (D.vals (ns.map .int) && true) = true
    rw [vals_ints]
    rfl
  rw [if_pos fl]
  have er : ren [r] (.ref r) = .ref 0 := by
    show D.ref ([r].idxOf r) = _
    simp
  rw [List.map_cons, er, a3, e1]
  have fl2 : flats ((Dr ns' :: Mx).take [r].length) = true := by
    show (D.vals (ns'.map .int) && true) = true
    rw [vals_ints]
    rfl
  unfold backR
  dsimp only
  rw [if_pos fl2]
  have e3 : outD [r].length (Dr ns' :: Mx) v = some v' := e2
  rw [e3]
  rfl
/-! ### methods, places -/
theorem dec63 {j : Nat} (h : j < 100000000) : (decide (-(2 ^ 63) ≤ (j : Int)) && decide ((j : Int) < 2 ^ 63)) = true := by
  simp
  omega
theorem erase_perm' {α : Type} : ∀ (l : List α) (i : Nat) (h : i < l.length), (l[i] :: l.eraseIdx i).Perm l
  | a :: l, 0, _ => List.Perm.refl _
  | a :: l, i + 1, h => by
    have h' : i < l.length := by simpa using h
    have ih := erase_perm' l i h'
    show (l[i] :: a :: l.eraseIdx i).Perm (a :: l)
    exact (List.Perm.swap a _ _).trans (ih.cons a)
theorem erase_map {α β : Type} (f : α → β) : ∀ (l : List α) (i : Nat), (l.map f).eraseIdx i = (l.eraseIdx i).map f
  | [], _ => rfl
  | _ :: _, 0 => rfl
  | a :: l, i + 1 => by
    show f a :: (l.map f).eraseIdx i = f a :: (l.eraseIdx i).map f
    rw [erase_map]
theorem set_map {α β : Type} (f : α → β) : ∀ (l : List α) (i : Nat) (x : α), (l.map f).set i (f x) = (l.set i x).map f
  | [], _, _ => rfl
  | _ :: _, 0, _ => rfl
  | a :: l, i + 1, x => by
    show f a :: (l.map f).set i (f x) = f a :: (l.set i x).map f
    rw [set_map]
theorem seqIx_n {j n : Nat} (h : j < n) : seqIndex? (j : Int) n = some j := by
  unfold seqIndex?
  simp
  omega
theorem pop_at {es : List D} {j : Nat} {x : D} (hM : M[r]? = some (.lst es)) (hj : es[j]? = some x) (h6 : j < 100000000) : mthD .pop (.ref r) [.int (j : Int)] M = some (x, M.set r (.lst (es.eraseIdx j))) := by
  have hl := (List.getElem?_eq_some_iff.mp hj).1
  simp only [mthD, hM, dec63 h6, if_true, seqIx_n hl, hj]
theorem pop_last {es : List D} {x : D} (hM : M[r]? = some (.lst (es ++ [x]))) : mthD .pop (.ref r) [] M = some (x, M.set r (.lst es)) := by
  have e1 : (es ++ [x])[(es ++ [x]).length - 1]? = some x := by simp
  simp only [mthD, hM, e1, List.dropLast_concat]
theorem app_end {es : List D} {x : D} (hM : M[r]? = some (.lst es)) (hl : es.length < 16777216) : mthD .append (.ref r) [x] M = some (.non, M.set r (.lst (es ++ [x]))) := by
  simp only [mthD, hM, decide_eq_true hl, if_true]
theorem set_at {es : List D} {j : Nat} {v : D} (hM : M[r]? = some (.lst es)) (hj : j < es.length) (h6 : j < 100000000) : setSub (.ref r) (.int (j : Int)) v M = some (M.set r (.lst (es.set j v))) := by
  simp only [setSub, hM, seqIx_n hj, dec63 h6, if_true]
/-- calls, never opened by themselves -/
@[irreducible] def CK (P : Prg) (k : Nat) : Fn := callK P true k
theorem CK_eq (P : Prg) (k : Nat) : CK P k = callK P true k := by
  unfold CK
  rfl
theorem CK_w {P : Prg} {k : Nat} {f : Str} {ds : List D} {ps n : Nat} {b : Ss} {Q : D → Mem → Prop} (e : P.lookup f = some ⟨ps, n, b⟩) (hl : ds.length = ps) (h : wSs ⟨CK P k, true, CK P (k - 1), k⟩ b (startE n ds) M (finQ Q X)) : wR (CK P (k + 1) f ds M) Q X := by
  rw [CK_eq]
  rw [CK_eq, CK_eq] at h
  exact vE_def e hl h
theorem frz_w {d : D} (h : d.val = true) {R : D → Prop} (h' : R d) : ∃ x', frz d = some x' ∧ R x' := ⟨d, frz_val h, h'⟩
end Z
end
section
set_option Elab.async false
set_option linter.all false
set_option maxRecDepth 100000
set_option maxHeartbeats 1000000
set_option autoImplicit false
/-! Small rules; draws. -/
namespace Z
open PySem
variable {M : Mem} {X : Ex} {k n : Nat} {d e : D} {ds : List D}
theorem shaped_int (i : Int) : SeqAt.shaped (.int i) = true := by
  unfold SeqAt.shaped PyData.canLay0
  simp [PyData.depth]
theorem eq_int (i j : Int) : eqD (.int i) (.int j) M = some (decide (i = j)) := by
  have v : ∀ i : Int, viewS (.int i) M = some (.int i) := fun i => by
    unfold viewS
    rw [show view (.int i) M = some (.int i) from rfl]
    dsimp only
    rw [if_pos (shaped_int i)]
  unfold eqD
  rw [v, v]
  simp only [PyData.eqv]
  rfl
def toI : D → Int
  | .int i => i
  | _ => 0
theorem rangeL_map : ∀ (n : Nat) (lo : Int), rangeL lo n = (List.range n).map fun (j : Nat) => D.int (lo + (j : Int))
  | 0, _ => rfl
  | n + 1, lo => by
    rw [rangeL, rangeL_map n, List.range_succ_eq_map, List.map_cons, List.map_map]
    congr 1
    · simp
    · refine List.map_congr_left fun j _ => ?_
      show D.int (lo + 1 + (j : Int)) = D.int (lo + ((j + 1 : Nat) : Int))
      congr 1
      omega
theorem seqIx_nat {j n : Nat} (h : j < n) : seqIndex? (j : Int) n = some j := by
  unfold seqIndex?
  simp
  omega
theorem vals_tl (l : List Int) : D.vals [.tl (l.map D.int)] = true := by
  show (D.vals (l.map D.int) && true) = true
  rw [vals_ints]
  rfl
local macro_rules | `(tactic| array_mem_dec) => `(tactic| first
  | with_reducible refine vE_c ?_ | with_reducible refine vE_nope ?_ | with_reducible refine vE_var (by with_unfolding_all rfl) ?_ | with_reducible refine vE_bin ?_ | with_reducible refine vE_neg ?_ | with_reducible refine vE_cmp ?_ | with_reducible refine vE_not ?_ | with_reducible refine vE_and ?_ | with_reducible refine vE_or ?_ | with_reducible refine vE_ite ?_
  | with_reducible refine vE_tup ?_ | with_reducible refine vE_lst ?_ | with_reducible refine vE_nil ?_ | with_reducible refine vE_cons ?_ | with_reducible refine vE_idx ?_ | with_reducible refine vE_sli ?_ | with_reducible refine vE_mat ?_ | with_reducible refine vE_call ?_ | with_reducible refine vE_bi (by with_unfolding_all rfl) ?_ | with_reducible refine vE_mth ?_ | with_reducible refine vE_isi ?_ | with_reducible refine vE_att ?_ | with_reducible refine vE_own ?_ | with_reducible refine vE_new (by with_unfolding_all exact Nat.le_of_ble_eq_true rfl) ?_ | with_reducible refine vT_own ?_
  | with_reducible refine vT_nope ?_ | with_reducible refine vT_var (by with_unfolding_all rfl) ?_ | with_reducible refine vT_cmp ?_ | with_reducible refine vT_not ?_ | with_reducible refine vT_and ?_ | with_reducible refine vT_or ?_ | with_reducible refine vT_call ?_ | with_reducible refine vT_bi (by with_unfolding_all rfl) ?_ | with_reducible refine vT_isi ?_ | with_reducible refine vT_idx ?_
  | with_reducible refine vI_seq ?_ | with_reducible refine vI_txt ?_ | with_reducible refine vI_rng ?_
  | with_reducible refine vS_nil ?_ | with_reducible refine vS_skip ?_ | with_reducible refine vS_expr ?_ | with_reducible refine vS_asg ?_ | with_reducible refine vS_asgT ?_ | with_reducible refine vS_sub ?_ | with_reducible refine vS_ret ?_ | with_reducible refine vS_brk ?_ | with_reducible refine vS_cont ?_ | with_reducible refine vS_ife ?_ | with_reducible refine vS_for ?_ | with_reducible refine vS_asgA ?_ | with_reducible refine vS_aug (by with_unfolding_all rfl) ?_ | with_reducible refine vS_augA ?_ | with_reducible refine vS_whl ?_
  | with_reducible refine vaft_nx ?_ | with_reducible refine vaft_rt ?_ | with_reducible refine vaft_bk ?_ | with_reducible refine vaft_ct ?_ | with_reducible refine vturn_nx ?_ | with_reducible refine vturn_ct ?_ | with_reducible refine vturn_bk ?_ | with_reducible refine vturn_rt ?_ | with_reducible refine vfin_rtQ ?_ | with_reducible refine vfin_nxQ ?_ | with_reducible refine vturn_ex ?_ | with_reducible refine vaft_ex ?_ | with_reducible refine vfin_exQ ?_)
local macro_rules | `(tactic| array_get_dec) => `(tactic| repeat (first
  | with_reducible refine vE_c ?_ | with_reducible refine vE_nope ?_ | with_reducible refine vE_var (by with_unfolding_all rfl) ?_ | with_reducible refine vE_bin ?_ | with_reducible refine vE_neg ?_ | with_reducible refine vE_cmp ?_ | with_reducible refine vE_not ?_ | with_reducible refine vE_and ?_ | with_reducible refine vE_or ?_ | with_reducible refine vE_ite ?_
  | with_reducible refine vE_tup ?_ | with_reducible refine vE_lst ?_ | with_reducible refine vE_nil ?_ | with_reducible refine vE_cons ?_ | with_reducible refine vE_idx ?_ | with_reducible refine vE_sli ?_ | with_reducible refine vE_mat ?_ | with_reducible refine vE_call ?_ | with_reducible refine vE_bi (by with_unfolding_all rfl) ?_ | with_reducible refine vE_mth ?_ | with_reducible refine vE_isi ?_ | with_reducible refine vE_att ?_ | with_reducible refine vE_own ?_ | with_reducible refine vE_new (by with_unfolding_all exact Nat.le_of_ble_eq_true rfl) ?_ | with_reducible refine vT_own ?_
  | with_reducible refine vT_nope ?_ | with_reducible refine vT_var (by with_unfolding_all rfl) ?_ | with_reducible refine vT_cmp ?_ | with_reducible refine vT_not ?_ | with_reducible refine vT_and ?_ | with_reducible refine vT_or ?_ | with_reducible refine vT_call ?_ | with_reducible refine vT_bi (by with_unfolding_all rfl) ?_ | with_reducible refine vT_isi ?_ | with_reducible refine vT_idx ?_
  | with_reducible refine vI_seq ?_ | with_reducible refine vI_txt ?_ | with_reducible refine vI_rng ?_
  | with_reducible refine vS_nil ?_ | with_reducible refine vS_skip ?_ | with_reducible refine vS_expr ?_ | with_reducible refine vS_asg ?_ | with_reducible refine vS_asgT ?_ | with_reducible refine vS_sub ?_ | with_reducible refine vS_ret ?_ | with_reducible refine vS_brk ?_ | with_reducible refine vS_cont ?_ | with_reducible refine vS_ife ?_ | with_reducible refine vS_for ?_ | with_reducible refine vS_asgA ?_ | with_reducible refine vS_aug (by with_unfolding_all rfl) ?_ | with_reducible refine vS_augA ?_ | with_reducible refine vS_whl ?_
  | with_reducible refine vaft_nx ?_ | with_reducible refine vaft_rt ?_ | with_reducible refine vaft_bk ?_ | with_reducible refine vaft_ct ?_ | with_reducible refine vturn_nx ?_ | with_reducible refine vturn_ct ?_ | with_reducible refine vturn_bk ?_ | with_reducible refine vturn_rt ?_ | with_reducible refine vfin_rtQ ?_ | with_reducible refine vfin_nxQ ?_ | with_reducible refine vturn_ex ?_ | with_reducible refine vaft_ex ?_ | with_reducible refine vfin_exQ ?_))
def CC : Nat → Fn := CK k74_P
theorem C_w {f : Str} {ds : List D} {ps n : Nat} {b : Ss} {Q : D → Mem → Prop} (e : k74_P.lookup f = some ⟨ps, n, b⟩) (hl : ds.length = ps) (h : wSs ⟨CC k, true, CC (k - 1), k⟩ b (startE n ds) M (finQ Q X)) : wR (CC (k + 1) f ds M) Q X := CK_w e hl h
theorem len_ref {r : Nat} {ds : List D} (h : M[r]? = some (.lst ds)) : biD .len [.ref r] M = some (.int (ds.length : Int)) := by
  simp only [biD, lenD, seqOf, h, Option.map_some]
theorem mod_int {j m : Int} (hm : 0 < m) : binD .mod (.int j) (.int m) M = some (.int (j % m)) := by
  show (binI .mod j m).map D.int = _
  unfold binI
  rw [if_pos hm]
  rfl
theorem idx_of {a : D} {l : List D} {j : Nat} {x : D} (ha : a = .tl l ∨ a = .tup l ∨ a = .fl l ∨ ∃ r, a = .ref r ∧ M[r]? = some (.lst l)) (h : l[j]? = some x) (hj : j < 100000000) : idxD a (.int (j : Int)) M = some x := by
  have hl := (List.getElem?_eq_some_iff.mp h).1
  have e : seqIndex? (j : Int) l.length = some j := seqIx_nat hl
  have c : (decide (-(2 ^ 63) ≤ (j : Int)) && decide ((j : Int) < 2 ^ 63)) = true := by
    simp
    omega
  rcases ha with rfl | rfl | rfl | ⟨r, rfl, hr⟩
  · simp only [idxD, seqOf, e, c, if_true, h]
  · simp only [idxD, seqOf, e, c, if_true, h]
  · simp only [idxD, seqOf, e, c, if_true, h]
  · simp only [idxD, seqOf, hr, e, c, if_true, h]
theorem eq_intC (i j : Int) : cmpD .eq (.int i) (.int j) M = some (decide (i = j)) := eq_int (M := M) i j
def isBel (m : Int) (d : D) : Prop := ∃ j : Nat, d = .int (j : Int) ∧ (j : Int) < m
theorem m_take {m : Int} (hm : 0 < m) : SpD (CC (k + 1)) "_law_take" [.int m] (isBel m) := by
  intro ns
  refine C_w k74_l__law_take rfl ?_
  show wSs _ k74_b__law_take [some (.ref 0), some (.int m)] _ _
  unfold k74_b__law_take
  array_get_dec
  refine ⟨.int (ns.length : Int), by simp [biD, lenD, seqOf, Dr], ?_⟩
  array_get_dec
  refine ⟨_, eq_intC _ _, ?_⟩
  rcases List.eq_nil_or_concat ns with rfl | ⟨l, j, rfl⟩
  · rw [if_pos (by simp)]
    array_get_dec
    exact ⟨[], [], .int 0, rfl, rfl, 0, rfl, hm⟩
  · rw [List.concat_eq_append, if_neg (by rw [List.length_append]; simp; omega)]
    array_get_dec
    refine ⟨rfl, ?_⟩
    array_get_dec
    refine ⟨_, rfl, rfl, .int j, [Dr l], ?_, ?_⟩
    · have e1 : ((l ++ [j]).map D.int)[((l ++ [j]).map D.int).length - 1]? = some (.int j) := by
        simp
      have e2 : ((l ++ [j]).map D.int).dropLast = l.map D.int := by simp
      show (match ((l ++ [j]).map D.int)[((l ++ [j]).map D.int).length - 1]? with
        | some d => some (d, List.set [Dr (l ++ [j])] 0 (.lst ((l ++ [j]).map D.int).dropLast))
        | none => none) = _
      rw [e1, e2]
      rfl
    · array_get_dec
      refine ⟨_, rfl, ?_⟩
      array_get_dec
      refine ⟨.int (j % m), mod_int hm, ?_⟩
      array_get_dec
      have h0 := Int.emod_nonneg j (show m ≠ 0 by omega)
      have h1 := Int.emod_lt_of_pos j hm
      exact ⟨l, [], .int (j % m), rfl, rfl, (j % m).toNat, by rw [Int.toNat_of_nonneg h0], by omega⟩
theorem m_pick {ds : List D} (hd : D.vals ds = true) (hn : ds ≠ []) (hl : ds.length < 100000000) : SpD (CC (k + 2)) "_law_pick" [.tl ds] (· ∈ ds) := by
  intro ns
  refine C_w k74_l__law_pick rfl ?_
  show wSs _ k74_b__law_pick [some (.ref 0), some (.tl ds)] _ _
  unfold k74_b__law_pick
  array_get_dec
  refine ⟨.int (ds.length : Int), rfl, ?_⟩
  array_get_dec
  refine ⟨_, rfl, ?_⟩
  have hp : 0 < ds.length := List.length_pos_iff.mpr hn
  refine inv_dr (m_take (by omega)) rfl rfl fun v ns' hv => ?_
  obtain ⟨j, rfl, h1⟩ := hv
  have hj : j < ds.length := by omega
  refine ⟨ds[j], idx_of (.inl rfl) (by simp) (by omega), ?_⟩
  · array_get_dec
    have hx : D.val ds[j] = true := by
      have key : ∀ (l : List D), D.vals l = true → ∀ x ∈ l, x.val = true := fun l => by
        induction l with
        | nil => exact fun _ x hx => by cases hx
        | cons a l ih =>
          intro h x hx
          have h' := band (show (a.val && D.vals l) = true from h)
          rcases List.mem_cons.mp hx with rfl | hx
          · exact h'.1
          · exact ih h'.2 x hx
      exact key ds hd _ (List.getElem_mem hj)
    exact ⟨ns', [], ds[j], rfl, out_val hx, List.getElem_mem hj⟩
theorem vals_tl1 (l : List Int) : D.vals [.tl (l.map D.int)] = true := vals_tl l
theorem int_at {l : List Int} {j : Nat} (h : j < l.length) : (l.map D.int)[j]? = some (.int l[j]) := by
  rw [List.getElem?_map, List.getElem?_eq_getElem h]
  rfl
theorem cut_to {l : List D} {j : Nat} : cutD l none (some (j : Int)) = l.take j := by
  unfold cutD
  rw [HT.sIx_nat, HT.sIx_none, List.drop_zero, Nat.sub_zero]
  rcases Nat.le_total j l.length with h | h
  · rw [Nat.min_eq_left h]
  · rw [Nat.min_eq_right h, List.take_of_length_le (Nat.le_refl _), List.take_of_length_le h]
theorem comp_dr {F F' : Fn} {nn : Nat} {i : Nat} {it : It} {elt : E} {env : Env} {ns : List Int} {Mt : Mem} {P : D → Prop} {Lp : Nat → Prop} {Q : D → Mem → Prop} (hm : ∀ l, Lp l → l ≤ 16777216)
    (hI : wI ⟨F, true, F', nn⟩ it env (Dr ns :: Mt) (fun w M => (∀ M, w.watch M = true) ∧ Lp w.items.length ∧ ∃ ns', M = Dr ns' :: Mt) X)
    (hb : ∀ x ns, wE ⟨F, true, F', nn⟩ elt ((wipeE env [i]).set i (some x)) (Dr ns :: Mt) (fun y M => ∃ y', frz y = some y' ∧ P y' ∧ ∃ ns', M = Dr ns' :: Mt) noE)
    (hQ : ∀ ns' ys, Lp ys.length → (∀ y ∈ ys, P y) → Q (.fl ys) (Dr ns' :: Mt)) : wE ⟨F, true, F', nn⟩ (.comp [i] it .nope elt [i]) env (Dr ns :: Mt) Q X := by
  refine vE_comp (wI.mono hI (fun w M h => ?_) fun _ _ _ h => h)
  obtain ⟨hw, hl, ns', rfl⟩ := h
  refine ⟨fun l acc M => (∃ ns', M = Dr ns' :: Mt) ∧ (∀ y ∈ acc, P y) ∧ acc.length + l.length = w.items.length, fun _ _ M _ => hw M, ⟨⟨_, rfl⟩, fun y hy => (by cases hy), by simp⟩, ?_, ?_⟩
  · rintro x l acc M ⟨⟨ns2, rfl⟩, hp, hlen⟩
    refine ⟨_, rfl, ?_⟩
    refine vT_nope ?_
    rw [if_pos rfl]
    refine wE.mono (hb x ns2) (fun y M h => ?_) fun _ _ _ h => h
    obtain ⟨y', e, h1, ns3, rfl⟩ := h
    refine ⟨y', e, ⟨_, rfl⟩, fun z hz => ?_, ?_⟩
    · rcases List.mem_append.mp hz with hz | hz
      · exact hp z hz
      · rw [List.mem_singleton.mp hz]
        exact h1
    · rw [List.length_append]
      rw [List.length_cons] at hlen
      simp only [List.length_cons, List.length_nil]
      omega
  · rintro ys M ⟨⟨ns2, rfl⟩, hp, hlen⟩
    rw [List.length_nil, Nat.add_zero] at hlen
    rw [← hlen] at hl
    exact ⟨hm _ hl, hQ _ _ hl hp⟩
theorem comp_pure {F F' : Fn} {nn : Nat} {i : Nat} {it : It} {elt : E} {env : Env} {l0 : List D} {F0 : D → D} {Q : D → Mem → Prop} (hl : l0.length ≤ 16777216)
    (hI : wI ⟨F, true, F', nn⟩ it env M (fun w M' => M' = M ∧ w.watch M = true ∧ w.items = l0) X)
    (hb : ∀ x ∈ l0, wE ⟨F, true, F', nn⟩ elt ((wipeE env [i]).set i (some x)) M (fun y M' => M' = M ∧ frz y = some (F0 x)) noE)
    (hQ : Q (.fl (l0.map F0)) M) : wE ⟨F, true, F', nn⟩ (.comp [i] it .nope elt [i]) env M Q X := by
  refine vE_comp (wI.mono hI (fun w M' h => ?_) fun _ _ _ h => h)
  obtain ⟨rfl, hw, hit⟩ := h
  refine ⟨fun l acc M1 => M1 = M' ∧ ∃ m, m ≤ l0.length ∧ l = l0.drop m ∧ acc = (l0.take m).map F0, ?_, ⟨rfl, 0, Nat.zero_le _, hit, rfl⟩, ?_, ?_⟩
  · rintro l acc M1 ⟨rfl, _⟩
    exact hw
  · rintro x l acc M1 ⟨rfl, m, hm, e, rfl⟩
    have hm2 : m < l0.length := by
      refine Classical.byContradiction fun hc => ?_
      rw [List.drop_eq_nil_of_le (by omega)] at e
      cases e
    rw [List.drop_eq_getElem_cons hm2] at e
    obtain ⟨e1, e2⟩ := List.cons.inj e
    refine ⟨_, rfl, ?_⟩
    refine vT_nope ?_
    rw [if_pos rfl]
    refine wE.mono (hb x (by rw [e1]; exact List.getElem_mem hm2)) (fun y M2 h => ?_) fun _ _ _ h => h
    obtain ⟨rfl, h⟩ := h
    refine ⟨_, h, rfl, m + 1, hm2, e2, ?_⟩
    rw [List.take_succ_eq_append_getElem hm2, List.map_append, e1]
    rfl
  · rintro ys M1 ⟨rfl, m, hm, e, rfl⟩
    have hm2 : l0.length ≤ m := by
      refine Classical.byContradiction fun hc => ?_
      rw [List.drop_eq_getElem_cons (by omega)] at e
      cases e
    rw [List.take_of_length_le hm2]
    exact ⟨by rw [List.length_map]; exact hl, hQ⟩
theorem shl_ex {M : Mem} : ∃ m : Int, 0 < m ∧ binD .shl (.int 1) (.int 7200) M = some (.int m) := by
  refine ⟨1 * 2 ^ (7200 : Int).toNat, ?_, ?_⟩
  · exact Int.mul_pos (by decide) (Int.pow_pos (by decide))
  · show (binI .shl 1 7200).map D.int = _
    unfold binI
    rw [if_pos (by decide)]
    rfl
theorem pow_ex {M : Mem} : ∃ m : Int, binD .pow (.int 10) (.int 18) M = some (.int m) := by
  refine ⟨10 ^ (18 : Int).toNat, ?_⟩
  show (binI .pow 10 18).map D.int = _
  unfold binI
  rw [if_pos (by decide)]
  rfl
theorem mul_r {i j : Int} (h : -4294967296 < j ∧ j < 4294967296) : binD .mul (.int i) (.int j) M = some (.int (i * j)) := by
  show (binI .mul i j).map D.int = _
  unfold binI
  rw [if_pos]
  · rfl
  · unfold mulOk
    rw [Bool.or_eq_true]
    right
    rw [decide_eq_true (by omega), decide_eq_true (by omega)]
    rfl
theorem fdiv_i {i j : Int} (h : 0 < j ∧ j < 1073741824) : binD .fdiv (.int i) (.int j) M = some (.int (i / j)) := by
  show (binI .fdiv i j).map D.int = _
  have hb : (decide (0 < j) && decide (j < 1073741824)) = true := by
    rw [decide_eq_true h.1, decide_eq_true h.2]
    rfl
  show (if (decide (0 < j) && decide (j < 1073741824)) = true then some (i / j) else none).map D.int = _
  rw [if_pos hb]
  rfl
theorem out_ref {r m : Nat} {ds : List D} (hr : ¬ r < m) (hM : M[r]? = some (.lst ds)) (hv : D.vals ds = true) : outD m M (.ref r) = some (.fl ds) := by
  show (if r < m then none else (match M[r]? with
    | some (.lst ds) => if D.vals ds then some (D.fl ds) else (deeps m r M 100000 ds).map D.fl
    | _ => none)) = _
  rw [if_neg hr, hM]
  dsimp only
  rw [if_pos hv]
theorem m_draws {ns : List Int} {Q : D → Mem → Prop} (h : ∀ ns' : List Int, Q (.fl (ns'.map .int)) M) : wR (inv (CC (k + 1)) "_law_draws" [.sc (ns.map .int), .int 1000] M) Q X := by
  refine inv_vW (by show (D.vals (ns.map .int) && true) = true; rw [vals_ints]; rfl) ?_
  refine C_w k74_l__law_draws rfl ?_
  show wSs _ k74_b__law_draws [some (.sc (ns.map .int)), some (.int 1000), none, none, none, none, none, none, none] _ _
  unfold k74_b__law_draws
  array_get_dec
  refine comp_pure (l0 := (ns.take 63).map .int) (F0 := fun d => .int (toI d % (Classical.choose (shl_ex (M := []))))) (by rw [List.length_map, List.length_take]; omega) ?_ ?_ ?_
  · array_get_dec
    refine ⟨none, rfl, ?_⟩
    array_get_dec
    refine ⟨some 63, rfl, _, rfl, ?_⟩
    refine ⟨_, rfl, rfl, rfl, ?_⟩
    show cutD (ns.map .int) none (some ((63 : Nat) : Int)) = _
    rw [cut_to, List.map_take]
  · intro x hx
    obtain ⟨i, hi, rfl⟩ := List.mem_map.mp hx
    obtain ⟨h1, h2⟩ := Classical.choose_spec (shl_ex (M := []))
    array_get_dec
    refine ⟨_, rfl, ?_⟩
    array_get_dec
    refine ⟨_, h2, ?_⟩
    refine ⟨_, mod_int h1, rfl, rfl⟩
  have e : ((ns.take 63).map D.int).map (fun d => D.int (toI d % (Classical.choose (shl_ex (M := []))))) = ((ns.take 63).map fun i => i % (Classical.choose (shl_ex (M := [])))).map .int := by
    rw [List.map_map, List.map_map]
    rfl
  rw [e]
  have hc : ((ns.take 63).map fun i => i % (Classical.choose (shl_ex (M := [])))).length ≤ 63 := by
    rw [List.length_map, List.length_take]
    omega
  generalize ((ns.take 63).map fun i => i % (Classical.choose (shl_ex (M := [])))) = cells at hc
  refine ⟨_, rfl, ?_⟩
  refine ⟨_, rfl, ?_⟩
  array_get_dec
  refine ⟨.int (cells.length : Int), by rw [len_ref rfl, List.length_map], ?_⟩
  array_get_dec
  refine ⟨_, eq_intC _ _, ?_⟩
  have rest : ∀ cells : List Int, cells ≠ [] → cells.length ≤ 63 → wSs ⟨CC k, true, CC (k - 1), k⟩ (.cons (.asg (.name 3) (.mat (.bi .list (.cons (.var 2) .nil)))) (.cons (.asg (.name 4) (.mat (.lst .nil))) (.cons (.for_ [5] (.rng (.c (.int (0))) (.var 1)) (.cons (.asg (.name 6) (.bin .mod (.bi .int (.cons (.var 5) .nil)) (.bi .len (.cons (.var 2) .nil)))) (.cons (.ife (.and (.cmp .ge (.idx (.var 2) (.var 6)) (.bin .pow (.c (.int (10))) (.c (.int (18))))) (.cmp .gt (.idx (.var 3) (.var 6)) (.c (.int (0))))) (.cons (.expr (.mth .append (.var 4) (.cons (.bin .mod (.bi .int (.cons (.idx (.var 3) (.var 6)) .nil)) (.c (.int (1000)))) .nil))) (.cons (.asg (.sub (.var 3) (.var 6)) (.bin .fdiv (.idx (.var 3) (.var 6)) (.c (.int (1000))))) .nil)) (.cons (.asg (.name 8) (.bin .mod (.bi .int (.cons (.bin .add (.bin .add (.bin .mul (.idx (.var 2) (.var 6)) (.c (.int (48271)))) (.bin .mul (.var 5) (.c (.int (69621))))) (.c (.int (11)))) .nil)) (.c (.int (2147483647))))) (.cons (.expr (.mth .append (.var 4) (.cons (.bin .mod (.bi .int (.cons (.bin .add (.bin .add (.bin .mul (.var 8) (.var 8)) (.bin .mul (.c (.int (3))) (.var 8))) (.var 5)) .nil)) (.c (.int (1000003)))) .nil))) .nil))) .nil))) (.cons (.expr (.mth .reverse (.var 4) .nil)) (.cons (.ret (.var 4)) .nil)))))
      [some (.sc (ns.map .int)), some (.int 1000), some (.ref 0), none, none, none, none, none, none] [Dr cells] (finQ (fun v M1 => ∃ v', outD 0 M1 v = some v' ∧ Q v' M) noE) := fun cells hne hlen => by
    have hpos := List.length_pos_iff.mpr hne
    array_get_dec
    refine ⟨_, rfl, ?_⟩
    refine ⟨_, rfl, ?_⟩
    refine ⟨_, rfl, ?_⟩
    array_get_dec
    refine ⟨_, rfl, Nat.zero_le _, ?_⟩
    refine ⟨_, rfl, ?_⟩
    refine ⟨_, rfl, ?_⟩
    array_get_dec
    refine ⟨0, 1000, rfl, rfl, by decide, ?_⟩
    refine ⟨fun l env M => ∃ (left draws : List Int) (z5 z6 z8 : Option D) (j : Nat), env = [some (.sc (ns.map .int)), some (.int 1000), some (.ref 0), some (.ref 1), some (.ref 2), z5, z6, none, z8] ∧ M = [Dr cells, Dr left, Dr draws] ∧ j ≤ 1000 ∧ l = rangeL (j : Int) (1000 - j) ∧ left.length = cells.length ∧ draws.length = j, fun _ _ _ _ => rfl, ⟨cells, [], _, _, _, 0, rfl, rfl, by decide, rfl, rfl, rfl⟩, ?_, ?_⟩
    · rintro x l env M ⟨left, draws, z5, z6, z8, j, rfl, rfl, hj, el, hll, hdl⟩
      cases hm : 1000 - j with
      | zero =>
        rw [hm] at el
        cases el
      | succ m =>
        rw [hm] at el
        obtain ⟨e1, e2⟩ := List.cons.inj el
        subst e1
        refine ⟨_, rfl, ?_⟩
        array_get_dec
        refine ⟨_, rfl, ?_⟩
        array_get_dec
        refine ⟨.int (cells.length : Int), by rw [len_ref rfl, List.length_map], ?_⟩
        refine ⟨_, mod_int (by omega), ?_⟩
        refine ⟨_, rfl, ?_⟩
        have em : (j : Int) % (cells.length : Int) = ((j % cells.length : Nat) : Int) := by
          rw [Int.natCast_emod]
        rw [em]
        have hp : j % cells.length < cells.length := Nat.mod_lt _ hpos
        generalize j % cells.length = p at hp
        have hp2 : p < left.length := by omega
        have ic : ∀ dr, idxD (.ref 0) (.int (p : Int)) [Dr cells, Dr left, Dr dr] = some (.int cells[p]) := fun dr => idx_of (.inr (.inr (.inr ⟨0, rfl, rfl⟩))) (int_at hp) (by omega)
        have il : ∀ dr, idxD (.ref 1) (.int (p : Int)) [Dr cells, Dr left, Dr dr] = some (.int left[p]) := fun dr => idx_of (.inr (.inr (.inr ⟨1, rfl, rfl⟩))) (int_at hp2) (by omega)
        obtain ⟨pw, hpw⟩ := pow_ex (M := [Dr cells, Dr left, Dr draws])
        have app : ∀ x : Int, mthD .append (.ref 2) [.int x] [Dr cells, Dr left, Dr draws] = some (.non, [Dr cells, Dr left, Dr (draws ++ [x])]) := fun x => by
          have h := app_end (r := 2) (M := [Dr cells, Dr left, Dr draws]) (es := draws.map .int) (x := .int x) rfl (by rw [List.length_map]; omega)
          rw [h]
          show some (D.non, [Dr cells, Dr left, .lst (draws.map .int ++ [.int x])]) = _
          unfold Dr
          rw [List.map_append]
          rfl
        have fin2 : ∀ x : Int, (draws ++ [x]).length = j + 1 := fun x => by
          rw [List.length_append]
          simp only [List.length_cons, List.length_nil]
          omega
        have e3 : l = rangeL ((j + 1 : Nat) : Int) (1000 - (j + 1)) := by
          rw [e2]
          congr 1
          omega
        have other : wSs ⟨CC k, true, CC (k - 1), k⟩ (.cons (.asg (.name 8) (.bin .mod (.bi .int (.cons (.bin .add (.bin .add (.bin .mul (.idx (.var 2) (.var 6)) (.c (.int (48271)))) (.bin .mul (.var 5) (.c (.int (69621))))) (.c (.int (11)))) .nil)) (.c (.int (2147483647))))) (.cons (.expr (.mth .append (.var 4) (.cons (.bin .mod (.bi .int (.cons (.bin .add (.bin .add (.bin .mul (.var 8) (.var 8)) (.bin .mul (.c (.int (3))) (.var 8))) (.var 5)) .nil)) (.c (.int (1000003)))) .nil))) .nil))
            [some (.sc (ns.map .int)), some (.int 1000), some (.ref 0), some (.ref 1), some (.ref 2), some (.int (j : Int)), some (.int (p : Int)), none, z8] [Dr cells, Dr left, Dr draws] (fun fl => ∃ z8' x, fl = .nx [some (.sc (ns.map .int)), some (.int 1000), some (.ref 0), some (.ref 1), some (.ref 2), some (.int (j : Int)), some (.int (p : Int)), none, z8'] [Dr cells, Dr left, Dr (draws ++ [x])]) := by
          array_get_dec
          refine ⟨_, ic _, ?_⟩
          array_get_dec
          refine ⟨_, mul_r (by decide), ?_⟩
          array_get_dec
          refine ⟨_, mul_r (by decide), ?_⟩
          refine ⟨_, rfl, ?_⟩
          array_get_dec
          refine ⟨_, rfl, ?_⟩
          array_get_dec
          refine ⟨_, rfl, ?_⟩
          array_get_dec
          refine ⟨_, mod_int (by decide), ?_⟩
          have h0 := Int.emod_nonneg (cells[p] * 48271 + (j : Int) * 69621 + 11) (show (2147483647 : Int) ≠ 0 by decide)
          have h1 := Int.emod_lt_of_pos (cells[p] * 48271 + (j : Int) * 69621 + 11) (show (0 : Int) < 2147483647 by decide)
          generalize (cells[p] * 48271 + (j : Int) * 69621 + 11) % 2147483647 = mx at h0 h1
          refine ⟨_, rfl, ?_⟩
          array_get_dec
          refine ⟨rfl, ?_⟩
          array_get_dec
          refine ⟨_, mul_r (by omega), ?_⟩
          array_get_dec
          refine ⟨_, mul_r (by omega), ?_⟩
          refine ⟨_, rfl, ?_⟩
          array_get_dec
          refine ⟨_, rfl, ?_⟩
          array_get_dec
          refine ⟨_, rfl, ?_⟩
          array_get_dec
          refine ⟨_, mod_int (by decide), ?_⟩
          array_get_dec
          refine ⟨_, rfl, rfl, .non, _, app _, ?_⟩
          array_get_dec
          exact ⟨_, _, rfl⟩
        array_get_dec
        refine ⟨_, ic _, ?_⟩
        array_get_dec
        refine ⟨_, hpw, ?_⟩
        refine ⟨decide (pw ≤ cells[p]), rfl, ?_⟩
        by_cases c1 : pw ≤ cells[p]
        · rw [if_pos (decide_eq_true c1)]
          array_get_dec
          refine ⟨_, il _, ?_⟩
          array_get_dec
          refine ⟨decide (0 < left[p]), rfl, ?_⟩
          by_cases c2 : 0 < left[p]
          · rw [if_pos (decide_eq_true c2)]
            array_get_dec
            refine ⟨rfl, ?_⟩
            array_get_dec
            refine ⟨_, il _, ?_⟩
            array_get_dec
            refine ⟨_, rfl, ?_⟩
            array_get_dec
            refine ⟨_, mod_int (by decide), ?_⟩
            array_get_dec
            refine ⟨_, rfl, rfl, .non, _, app _, ?_⟩
            array_get_dec
            refine ⟨_, il _, ?_⟩
            array_get_dec
            refine ⟨_, fdiv_i (by decide), ?_⟩
            refine ⟨_, rfl, ?_⟩
            array_get_dec
            refine ⟨_, set_at (r := 1) (es := left.map .int) rfl (by rw [List.length_map]; exact hp2) (by omega), ?_⟩
            rw [set_map]
            array_get_dec
            exact ⟨left.set p _, _, _, _, _, j + 1, rfl, rfl, by omega, e3, by rw [List.length_set]; exact hll, fin2 _⟩
          · rw [if_neg fun z => c2 (of_decide_eq_true z)]
            refine wSs.mono other fun fl h => ?_
            obtain ⟨z8', x, rfl⟩ := h
            array_get_dec
            exact ⟨left, _, _, _, _, j + 1, rfl, rfl, by omega, e3, hll, fin2 x⟩
        · rw [if_neg fun z => c1 (of_decide_eq_true z)]
          rw [if_neg (by decide)]
          refine wSs.mono other fun fl h => ?_
          obtain ⟨z8', x, rfl⟩ := h
          array_get_dec
          exact ⟨left, _, _, _, _, j + 1, rfl, rfl, by omega, e3, hll, fin2 x⟩
    · rintro env M ⟨left, draws, z5, z6, z8, j, rfl, rfl, hj, el, hll, hdl⟩
      array_get_dec
      refine ⟨rfl, ?_⟩
      array_get_dec
      refine ⟨_, rfl, rfl, .non, [Dr cells, Dr left, Dr draws.reverse], ?_, ?_⟩
      · show some (D.non, [Dr cells, Dr left, .lst (draws.map .int).reverse]) = _
        unfold Dr
        rw [List.map_reverse]
      array_get_dec
      exact ⟨_, out_ref (by decide) rfl (vals_ints _), h _⟩
  split
  · array_get_dec
    refine ⟨rfl, ?_⟩
    array_get_dec
    have h0 : cells = [] := List.length_eq_zero_iff.mp (by have := of_decide_eq_true ‹_›; omega)
    subst h0
    refine ⟨_, rfl, rfl, .non, [Dr [0]], rfl, ?_⟩
    refine vS_nil (vaft_nx ?_)
    exact rest [0] (by simp) (by decide)
  · refine vS_nil (vaft_nx ?_)
    exact rest cells (fun z => by subst z; rename_i hh; exact hh rfl) hc
end Z
end
section
set_option Elab.async false
set_option linter.all false
set_option maxRecDepth 100000
set_option maxHeartbeats 1000000
set_option autoImplicit false
/-! Texts: small rules; runs of signs. -/
namespace Z
open PySem
variable {M : Mem} {X : Ex} {k : Nat}
/-- a text of signs -/
def st (l : List Nat) : Str := ⟨l.toArray⟩
theorem st_len (l : List Nat) : (st l).length = l.length := by
  unfold st Str.length
  simp
theorem st_cps (l : List Nat) : (st l).cps.toList = l := rfl
theorem st_of (z : Str) : z = st z.cps.toList := by
  cases z
  rfl
theorem st_inj {l l' : List Nat} (h : st l = st l') : l = l' := by
  rw [← st_cps l, h]
  rfl
theorem st_app (l l' : List Nat) : st l ++ st l' = st (l ++ l') := by
  show Str.append _ _ = _
  unfold Str.append st
  simp
def okT (l : List Nat) : Bool := l.all (· < 0x110000)
theorem shaped_st {l : List Nat} (h : okT l = true) : SeqAt.shaped (.str (st l)) = true := by
  unfold SeqAt.shaped
  rw [Bool.and_eq_true]
  refine ⟨?_, by simp [PyData.depth]⟩
  show PyData.strOk (st l) = true
  unfold PyData.strOk st
  rw [List.all_toArray]
  exact h
theorem len_st {l : List Nat} (h : l.length ≤ 16777216) : biD .len [.str (st l)] M = some (.int (l.length : Int)) := by
  show (match lenD (.str (st l)) M with
    | some n => some (D.int (n : Int))
    | none => none) = _
  unfold lenD
  dsimp only
  rw [st_len, if_pos h]
theorem idx_st {l : List Nat} {j c : Nat} (h : l.length ≤ 16777216) (hj : l[j]? = some c) : idxD (.str (st l)) (.int (j : Int)) M = some (.str (st [c])) := by
  have hl := (List.getElem?_eq_some_iff.mp hj).1
  unfold idxD
  dsimp only
  rw [st_len, if_pos h, seqIx_nat hl]
  have e : (st l).cps[j]? = some c := by
    rw [← Array.getElem?_toList, st_cps]
    exact hj
  dsimp only
  rw [e]
  rfl
theorem mem_st {c : Nat} {w : List Nat} : memD (.str (st [c])) (.str (st w)) M = some (decide (c ∈ w)) := by
  show (if (st [c]).length = 1 then some (decide ((st [c]).cps.toList.headD 0 ∈ (st w).cps.toList)) else none) = _
  rw [if_pos (show (st [c]).length = 1 from st_len [c]), st_cps, st_cps]
  rfl
theorem eq_st {l l' : List Nat} (h : okT l = true) (h' : okT l' = true) : eqD (.str (st l)) (.str (st l')) M = some (decide (l = l')) := by
  have v : ∀ l : List Nat, okT l = true → viewS (.str (st l)) M = some (.str (st l)) := fun l h => by
    unfold viewS
    rw [show view (.str (st l)) M = some (.str (st l)) from rfl]
    dsimp only
    rw [if_pos (shaped_st h)]
  unfold eqD
  rw [v l h, v l' h']
  simp only [PyData.eqv]
  congr 1
  by_cases e : l = l'
  · subst e
    simp
  · rw [decide_eq_false e]
    exact beq_eq_false_iff_ne.mpr fun z => e (st_inj z)
theorem cmpeq_st {l l' : List Nat} (h : okT l = true) (h' : okT l' = true) : cmpD .eq (.str (st l)) (.str (st l')) M = some (decide (l = l')) := eq_st h h'
theorem cmpne_st {l l' : List Nat} (h : okT l = true) (h' : okT l' = true) : cmpD .ne (.str (st l)) (.str (st l')) M = some (!decide (l = l')) := by
  show (eqD _ _ M).map not = _
  rw [eq_st h h']
  rfl
/-! ### runs -/
/-- how long the run of such signs is -/
def spn (cs l : List Nat) : Nat := (l.takeWhile (decide <| · ∈ cs)).length
theorem spn_nil (cs : List Nat) : spn cs [] = 0 := rfl
theorem spn_cons (cs : List Nat) (c : Nat) (l : List Nat) : spn cs (c :: l) = if c ∈ cs then spn cs l + 1 else 0 := by
  unfold spn
  rw [List.takeWhile_cons]
  by_cases h : c ∈ cs
  · rw [if_pos (by simpa using h), if_pos h]
    rfl
  · rw [if_neg (by simpa using h), if_neg h]
    rfl
theorem spn_le (cs l : List Nat) : spn cs l ≤ l.length := by
  unfold spn
  exact (List.takeWhile_sublist _).length_le
theorem lt_ints {i j : Int} : cmpD .lt (.int i) (.int j) M = some (decide (i < j)) := rfl
theorem add_ints {i j : Int} : binD .add (.int i) (.int j) M = some (.int (i + j)) := rfl
theorem sub_ints {i j : Int} : binD .sub (.int i) (.int j) M = some (.int (i - j)) := rfl
theorem drop_cons' {l : List Nat} {e c : Nat} (h : l[e]? = some c) : l.drop e = c :: l.drop (e + 1) := by
  obtain ⟨h1, h2⟩ := List.getElem?_eq_some_iff.mp h
  rw [List.drop_eq_getElem_cons h1, h2]
local macro_rules | `(tactic| array_mem_dec) => `(tactic| first
  | with_reducible refine vE_c ?_ | with_reducible refine vE_nope ?_ | with_reducible refine vE_var (by with_unfolding_all rfl) ?_ | with_reducible refine vE_bin ?_ | with_reducible refine vE_neg ?_ | with_reducible refine vE_cmp ?_ | with_reducible refine vE_not ?_ | with_reducible refine vE_and ?_ | with_reducible refine vE_or ?_ | with_reducible refine vE_ite ?_
  | with_reducible refine vE_tup ?_ | with_reducible refine vE_lst ?_ | with_reducible refine vE_nil ?_ | with_reducible refine vE_cons ?_ | with_reducible refine vE_idx ?_ | with_reducible refine vE_sli ?_ | with_reducible refine vE_mat ?_ | with_reducible refine vE_call ?_ | with_reducible refine vE_bi (by with_unfolding_all rfl) ?_ | with_reducible refine vE_mth ?_ | with_reducible refine vE_isi ?_ | with_reducible refine vE_att ?_ | with_reducible refine vE_own ?_ | with_reducible refine vE_new (by with_unfolding_all exact Nat.le_of_ble_eq_true rfl) ?_ | with_reducible refine vT_own ?_
  | with_reducible refine vT_nope ?_ | with_reducible refine vT_var (by with_unfolding_all rfl) ?_ | with_reducible refine vT_cmp ?_ | with_reducible refine vT_not ?_ | with_reducible refine vT_and ?_ | with_reducible refine vT_or ?_ | with_reducible refine vT_call ?_ | with_reducible refine vT_bi (by with_unfolding_all rfl) ?_ | with_reducible refine vT_isi ?_ | with_reducible refine vT_idx ?_
  | with_reducible refine vI_seq ?_ | with_reducible refine vI_txt ?_ | with_reducible refine vI_rng ?_
  | with_reducible refine vS_nil ?_ | with_reducible refine vS_skip ?_ | with_reducible refine vS_expr ?_ | with_reducible refine vS_asg ?_ | with_reducible refine vS_asgT ?_ | with_reducible refine vS_sub ?_ | with_reducible refine vS_ret ?_ | with_reducible refine vS_brk ?_ | with_reducible refine vS_cont ?_ | with_reducible refine vS_ife ?_ | with_reducible refine vS_for ?_ | with_reducible refine vS_asgA ?_ | with_reducible refine vS_aug (by with_unfolding_all rfl) ?_ | with_reducible refine vS_augA ?_ | with_reducible refine vS_whl ?_
  | with_reducible refine vaft_nx ?_ | with_reducible refine vaft_rt ?_ | with_reducible refine vaft_bk ?_ | with_reducible refine vaft_ct ?_ | with_reducible refine vturn_nx ?_ | with_reducible refine vturn_ct ?_ | with_reducible refine vturn_bk ?_ | with_reducible refine vturn_rt ?_ | with_reducible refine vfin_rtQ ?_ | with_reducible refine vfin_nxQ ?_ | with_reducible refine vturn_ex ?_ | with_reducible refine vaft_ex ?_ | with_reducible refine vfin_exQ ?_)
local macro_rules | `(tactic| array_get_dec) => `(tactic| repeat (first
  | with_reducible refine vE_c ?_ | with_reducible refine vE_nope ?_ | with_reducible refine vE_var (by with_unfolding_all rfl) ?_ | with_reducible refine vE_bin ?_ | with_reducible refine vE_neg ?_ | with_reducible refine vE_cmp ?_ | with_reducible refine vE_not ?_ | with_reducible refine vE_and ?_ | with_reducible refine vE_or ?_ | with_reducible refine vE_ite ?_
  | with_reducible refine vE_tup ?_ | with_reducible refine vE_lst ?_ | with_reducible refine vE_nil ?_ | with_reducible refine vE_cons ?_ | with_reducible refine vE_idx ?_ | with_reducible refine vE_sli ?_ | with_reducible refine vE_mat ?_ | with_reducible refine vE_call ?_ | with_reducible refine vE_bi (by with_unfolding_all rfl) ?_ | with_reducible refine vE_mth ?_ | with_reducible refine vE_isi ?_ | with_reducible refine vE_att ?_ | with_reducible refine vE_own ?_ | with_reducible refine vE_new (by with_unfolding_all exact Nat.le_of_ble_eq_true rfl) ?_ | with_reducible refine vT_own ?_
  | with_reducible refine vT_nope ?_ | with_reducible refine vT_var (by with_unfolding_all rfl) ?_ | with_reducible refine vT_cmp ?_ | with_reducible refine vT_not ?_ | with_reducible refine vT_and ?_ | with_reducible refine vT_or ?_ | with_reducible refine vT_call ?_ | with_reducible refine vT_bi (by with_unfolding_all rfl) ?_ | with_reducible refine vT_isi ?_ | with_reducible refine vT_idx ?_
  | with_reducible refine vI_seq ?_ | with_reducible refine vI_txt ?_ | with_reducible refine vI_rng ?_
  | with_reducible refine vS_nil ?_ | with_reducible refine vS_skip ?_ | with_reducible refine vS_expr ?_ | with_reducible refine vS_asg ?_ | with_reducible refine vS_asgT ?_ | with_reducible refine vS_sub ?_ | with_reducible refine vS_ret ?_ | with_reducible refine vS_brk ?_ | with_reducible refine vS_cont ?_ | with_reducible refine vS_ife ?_ | with_reducible refine vS_for ?_ | with_reducible refine vS_asgA ?_ | with_reducible refine vS_aug (by with_unfolding_all rfl) ?_ | with_reducible refine vS_augA ?_ | with_reducible refine vS_whl ?_
  | with_reducible refine vaft_nx ?_ | with_reducible refine vaft_rt ?_ | with_reducible refine vaft_bk ?_ | with_reducible refine vaft_ct ?_ | with_reducible refine vturn_nx ?_ | with_reducible refine vturn_ct ?_ | with_reducible refine vturn_bk ?_ | with_reducible refine vturn_rt ?_ | with_reducible refine vfin_rtQ ?_ | with_reducible refine vfin_nxQ ?_ | with_reducible refine vturn_ex ?_ | with_reducible refine vaft_ex ?_ | with_reducible refine vfin_exQ ?_))
theorem m_run_end {l cs : List Nat} {s : Nat} (hl : l.length ≤ 16777216) (hs : s ≤ l.length) {Q : D → Mem → Prop} (h : Q (.int ((s + spn cs (l.drop s) : Nat) : Int)) M) :
    wR (inv (CC (k + 1)) "run_end" [.str (st l), .int (s : Int), .str (st cs)] M) Q X := by
  refine inv_vW rfl ?_
  refine C_w k74_l_run_end rfl ?_
  show wSs _ k74_b_run_end [some (.str (st l)), some (.int (s : Int)), some (.str (st cs)), none] _ _
  unfold k74_b_run_end
  array_get_dec
  refine ⟨_, rfl, ?_⟩
  array_get_dec
  refine ⟨fun n env M => ∃ e : Nat, env = [some (.str (st l)), some (.int (s : Int)), some (.str (st cs)), some (.int (e : Int))] ∧ M = [] ∧ n = l.length - e ∧ e ≤ l.length ∧ e + spn cs (l.drop e) = s + spn cs (l.drop s), ⟨_, s, rfl, rfl, rfl, hs, rfl⟩, ?_⟩
  rintro n env M ⟨e, rfl, rfl, rfl, he, hq⟩
  array_get_dec
  refine ⟨_, len_st hl, ?_⟩
  array_get_dec
  refine ⟨_, lt_ints, ?_⟩
  by_cases hlt : e < l.length
  · rw [if_pos (by simp; omega)]
    array_get_dec
    have hc : l[e]? = some l[e] := List.getElem?_eq_getElem hlt
    refine ⟨_, idx_st hl hc, ?_⟩
    array_get_dec
    refine ⟨_, mem_st (M := []), ?_⟩
    rw [drop_cons' hc, spn_cons] at hq
    by_cases hm : l[e] ∈ cs
    · rw [if_pos (by simpa using hm)]
      rw [if_pos hm] at hq
      array_get_dec
      refine ⟨1, _, rfl, rfl, ?_⟩
      array_get_dec
      exact ⟨l.length - (e + 1), by omega, e + 1, by simp, rfl, rfl, by omega, by omega⟩
    · rw [if_neg (by simpa using hm)]
      rw [if_neg hm] at hq
      array_get_dec
      refine ⟨_, rfl, ?_⟩
      rw [show ((e : Nat) : Int) = ((s + spn cs (l.drop s) : Nat) : Int) by omega]
      exact h
  · rw [if_neg (by simp; omega), if_neg Bool.false_ne_true]
    have he2 : e = l.length := by omega
    rw [he2, List.drop_length, spn_nil] at hq
    array_get_dec
    refine ⟨_, rfl, ?_⟩
    rw [show ((e : Nat) : Int) = ((s + spn cs (l.drop s) : Nat) : Int) by omega]
    exact h
end Z
end
section
set_option Elab.async false
set_option linter.all false
set_option maxRecDepth 100000
set_option maxHeartbeats 1000000
set_option autoImplicit false
/-! Tokens of a text, as the program takes them. -/
namespace Z
open PySem PySem.NumText
variable {M : Mem} {X : Ex} {k : Nat}
def DIG : List Nat := [48, 49, 50, 51, 52, 53, 54, 55, 56, 57]
def LET : List Nat := [97, 98, 99, 100, 101, 102, 103, 104, 105, 106, 107, 108, 109, 110, 111, 112, 113, 114, 115, 116, 117, 118, 119, 120, 121, 122]
def SIG : List Nat := [40, 41, 44, 58]
theorem dig_eq : Str.ofString "0123456789" = st DIG := by decide +kernel
theorem let_eq : Str.ofString "abcdefghijklmnopqrstuvwxyz" = st LET := by decide +kernel
theorem sig_eq : Str.ofString "(),:" = st SIG := by decide +kernel
theorem sp_eq : Str.ofString " " = st [32] := by decide +kernel
theorem mi_eq : Str.ofString "-" = st [45] := by decide +kernel
theorem ze_eq : Str.ofString "0" = st [48] := by decide +kernel
theorem em_eq : Str.ofString "" = st [] := by decide +kernel
def WORD : List Nat := [119, 111, 114, 100]
def INTEGER : List Nat := [105, 110, 116, 101, 103, 101, 114]
def END : List Nat := [101, 110, 100]
theorem wo_eq : Str.ofString "word" = st WORD := by decide +kernel
theorem in_eq : Str.ofString "integer" = st INTEGER := by decide +kernel
theorem en_eq : Str.ofString "end" = st END := by decide +kernel
/-- tokens: a sign, a word, a number -/
inductive Tk where
  | sg (c : Nat) | wd (w : List Nat) | nm (w : List Nat)
def nval (w : List Nat) : Int := (intText? (st w)).getD 0
/-- the minus sign's length -/
def mlen (q : List Nat) : Nat := if q.head? = some 45 then 1 else 0
/-- the length of the number at the head -/
def numP (q : List Nat) : Option Nat :=
  if spn DIG (q.drop (mlen q)) = 0 ∨ ((q.drop (mlen q)).head? = some 48 ∧ 1 < mlen q + spn DIG (q.drop (mlen q))) then none else some (mlen q + spn DIG (q.drop (mlen q)))
def tkAt (q : List Nat) : Option (Tk × Nat) := match q with
  | [] => none
  | c :: r => if c ∈ SIG then some (.sg c, 1) else if c ∈ LET then some (.wd (q.take (spn LET q)), spn LET q) else (numP q).map fun n => (.nm (q.take n), n)
def kindL : Tk → List Nat
  | .sg c => [c]
  | .wd _ => WORD
  | .nm _ => INTEGER
def valD : Tk → D
  | .sg c => .str (st [c])
  | .wd w => .str (st w)
  | .nm w => .int (nval w)
/-- how many digits -/
def cntD (l : List Nat) : Nat := l.countP (decide <| · ∈ DIG)
theorem spn_cnt (l : List Nat) : spn DIG l ≤ cntD l := by
  induction l with
  | nil => exact Nat.le_refl _
  | cons c l ih =>
    rw [spn_cons]
    unfold cntD at ih ⊢
    rw [List.countP_cons]
    by_cases h : c ∈ DIG
    · rw [if_pos h, if_pos (by simpa using h)]
      omega
    · rw [if_neg h]
      omega
theorem cntD_drop (l : List Nat) (n : Nat) : cntD (l.drop n) ≤ cntD l := (List.drop_sublist n l).countP_le
theorem drop_head {l : List Nat} {s : Nat} : (l.drop s).head? = l[s]? := List.head?_drop
theorem dig_mem {c : Nat} : c ∈ DIG ↔ 48 ≤ c ∧ c ≤ 57 := by
  unfold DIG
  simp only [List.mem_cons, List.not_mem_nil, or_false]
  omega
theorem take_spn (cs l : List Nat) : ∀ c ∈ l.take (spn cs l), c ∈ cs := by
  induction l with
  | nil => exact fun c h => by simp at h
  | cons a l ih =>
    intro c h
    rw [spn_cons] at h
    by_cases ha : a ∈ cs
    · rw [if_pos ha, List.take_succ_cons] at h
      rcases List.mem_cons.mp h with rfl | h
      · exact ha
      · exact ih c h
    · rw [if_neg ha, List.take_zero] at h
      cases h
theorem head_cases (q : List Nat) : (mlen q = 1 ∧ ∃ r, q = 45 :: r) ∨ (mlen q = 0 ∧ q.head? ≠ some 45) := by
  unfold mlen
  cases q with
  | nil => exact .inr ⟨rfl, fun h => nomatch h⟩
  | cons c r =>
    by_cases h : c = 45
    · subst h
      exact .inl ⟨rfl, r, rfl⟩
    · refine .inr ⟨if_neg (by simpa using h), by simpa using h⟩
theorem numP_val {q : List Nat} {n : Nat} (h : numP q = some n) (hd : cntD q ≤ 60) : intText? (st (q.take n)) = some (nval (q.take n)) ∧ n ≤ 61 ∧ n ≤ q.length ∧ 0 < n := by
  unfold numP at h
  split at h
  · cases h
  · rename_i hc
    cases h
    have hc' := not_or.mp hc
    have h1 : spn DIG (q.drop (mlen q)) ≤ 60 := Nat.le_trans (spn_cnt _) (Nat.le_trans (cntD_drop _ _) hd)
    have h2 : spn DIG (q.drop (mlen q)) ≤ (q.drop (mlen q)).length := spn_le _ _
    rw [List.length_drop] at h2
    have all : AllDigits ((q.drop (mlen q)).take (spn DIG (q.drop (mlen q)))) := fun c hcc => dig_mem.mp (take_spn DIG _ c hcc)
    rcases head_cases q with ⟨e, r, rfl⟩ | ⟨e, hh⟩
    · rw [e] at hc' h1 h2 all ⊢
      have e1 : ((45 :: r).drop 1) = r := rfl
      rw [e1] at hc' h1 h2 all ⊢
      have e2 : (45 :: r).take (1 + spn DIG r) = 45 :: r.take (spn DIG r) := by
        rw [Nat.add_comm, List.take_succ_cons]
      have hne : r.take (spn DIG r) ≠ [] := fun z => by
        have := congrArg List.length z
        rw [List.length_take] at this
        simp only [List.length_cons, List.length_nil] at h2 this
        omega
      rw [e2]
      have hlen : (st (45 :: r.take (spn DIG r))).length ≤ 4300 := by
        rw [st_len, List.length_cons, List.length_take]
        omega
      have := intText_neg (x := st (45 :: r.take (spn DIG r))) (cs := r.take (spn DIG r)) rfl all hne hlen
      refine ⟨?_, by omega, by simp only [List.length_cons] at h2 ⊢; omega, by omega⟩
      unfold nval
      rw [this]
      rfl
    · rw [e] at hc' h1 h2 all ⊢
      rw [List.drop_zero] at hc' h1 h2 all ⊢
      rw [Nat.zero_add]
      have hne : q.take (spn DIG q) ≠ [] := fun z => by
        have := congrArg List.length z
        rw [List.length_take] at this
        simp only [List.length_nil] at this
        omega
      have hlen : (st (q.take (spn DIG q))).length ≤ 4300 := by
        rw [st_len, List.length_take]
        omega
      have := intText_digits (x := st (q.take (spn DIG q))) all hne hlen
      refine ⟨?_, by omega, by omega, by omega⟩
      unfold nval
      rw [this]
      rfl
theorem int_st {w : List Nat} {i : Int} (h : intText? (st w) = some i) (hl : w.length ≤ 640) : biD .int [.str (st w)] M = some (.int i) := by
  show (if (st w).length ≤ 640 then (PySem.intText? (st w)).map D.int else none) = _
  rw [st_len, if_pos hl, h]
  rfl
theorem sli_st {l : List Nat} {a b : Nat} (h : l.length ≤ 16777216) (hb : b ≤ l.length) : sliD (.str (st l)) (some (a : Int)) (some (b : Int)) M = some (.str (st ((l.drop a).take (b - a)))) := by
  show (if (st l).length ≤ 16777216 then some (D.str (L2.cutS (st l) (some (a : Int)) (some (b : Int)))) else none) = _
  rw [st_len, if_pos h]
  unfold L2.cutS
  rw [st_len, st_cps, HT.sIx_nat, HT.sIx_nat, Nat.min_eq_left hb]
  congr 2
  show (⟨_⟩ : Str) = st _
  unfold st
  congr 2
  by_cases ha : a ≤ l.length
  · rw [Nat.min_eq_left ha]
  · rw [Nat.min_eq_right (by omega), List.drop_eq_nil_of_le (Nat.le_refl _), List.drop_eq_nil_of_le (by omega)]
    simp
theorem okT_cons {c : Nat} {l : List Nat} (h : okT l = true) {j : Nat} (hj : l[j]? = some c) : okT [c] = true := by
  have := List.all_eq_true.mp h c (List.mem_of_getElem? hj)
  show (decide (c < 0x110000) && true) = true
  rw [this]
  rfl
theorem gt_ints {i j : Int} : cmpD .gt (.int i) (.int j) M = some (decide (j < i)) := rfl
local macro_rules | `(tactic| array_mem_dec) => `(tactic| first
  | with_reducible refine vE_c ?_ | with_reducible refine vE_nope ?_ | with_reducible refine vE_var (by with_unfolding_all rfl) ?_ | with_reducible refine vE_bin ?_ | with_reducible refine vE_neg ?_ | with_reducible refine vE_cmp ?_ | with_reducible refine vE_not ?_ | with_reducible refine vE_and ?_ | with_reducible refine vE_or ?_ | with_reducible refine vE_ite ?_
  | with_reducible refine vE_tup ?_ | with_reducible refine vE_lst ?_ | with_reducible refine vE_nil ?_ | with_reducible refine vE_cons ?_ | with_reducible refine vE_idx ?_ | with_reducible refine vE_sli ?_ | with_reducible refine vE_mat ?_ | with_reducible refine vE_call ?_ | with_reducible refine vE_bi (by with_unfolding_all rfl) ?_ | with_reducible refine vE_mth ?_ | with_reducible refine vE_isi ?_ | with_reducible refine vE_att ?_ | with_reducible refine vE_own ?_ | with_reducible refine vE_new (by with_unfolding_all exact Nat.le_of_ble_eq_true rfl) ?_ | with_reducible refine vT_own ?_
  | with_reducible refine vT_nope ?_ | with_reducible refine vT_var (by with_unfolding_all rfl) ?_ | with_reducible refine vT_cmp ?_ | with_reducible refine vT_not ?_ | with_reducible refine vT_and ?_ | with_reducible refine vT_or ?_ | with_reducible refine vT_call ?_ | with_reducible refine vT_bi (by with_unfolding_all rfl) ?_ | with_reducible refine vT_isi ?_ | with_reducible refine vT_idx ?_
  | with_reducible refine vI_seq ?_ | with_reducible refine vI_txt ?_ | with_reducible refine vI_rng ?_
  | with_reducible refine vS_nil ?_ | with_reducible refine vS_skip ?_ | with_reducible refine vS_expr ?_ | with_reducible refine vS_asg ?_ | with_reducible refine vS_asgT ?_ | with_reducible refine vS_sub ?_ | with_reducible refine vS_ret ?_ | with_reducible refine vS_brk ?_ | with_reducible refine vS_cont ?_ | with_reducible refine vS_ife ?_ | with_reducible refine vS_for ?_ | with_reducible refine vS_asgA ?_ | with_reducible refine vS_aug (by with_unfolding_all rfl) ?_ | with_reducible refine vS_augA ?_ | with_reducible refine vS_whl ?_
  | with_reducible refine vaft_nx ?_ | with_reducible refine vaft_rt ?_ | with_reducible refine vaft_bk ?_ | with_reducible refine vaft_ct ?_ | with_reducible refine vturn_nx ?_ | with_reducible refine vturn_ct ?_ | with_reducible refine vturn_bk ?_ | with_reducible refine vturn_rt ?_ | with_reducible refine vfin_rtQ ?_ | with_reducible refine vfin_nxQ ?_ | with_reducible refine vturn_ex ?_ | with_reducible refine vaft_ex ?_ | with_reducible refine vfin_exQ ?_)
local macro_rules | `(tactic| array_get_dec) => `(tactic| repeat (first
  | with_reducible refine vE_c ?_ | with_reducible refine vE_nope ?_ | with_reducible refine vE_var (by with_unfolding_all rfl) ?_ | with_reducible refine vE_bin ?_ | with_reducible refine vE_neg ?_ | with_reducible refine vE_cmp ?_ | with_reducible refine vE_not ?_ | with_reducible refine vE_and ?_ | with_reducible refine vE_or ?_ | with_reducible refine vE_ite ?_
  | with_reducible refine vE_tup ?_ | with_reducible refine vE_lst ?_ | with_reducible refine vE_nil ?_ | with_reducible refine vE_cons ?_ | with_reducible refine vE_idx ?_ | with_reducible refine vE_sli ?_ | with_reducible refine vE_mat ?_ | with_reducible refine vE_call ?_ | with_reducible refine vE_bi (by with_unfolding_all rfl) ?_ | with_reducible refine vE_mth ?_ | with_reducible refine vE_isi ?_ | with_reducible refine vE_att ?_ | with_reducible refine vE_own ?_ | with_reducible refine vE_new (by with_unfolding_all exact Nat.le_of_ble_eq_true rfl) ?_ | with_reducible refine vT_own ?_
  | with_reducible refine vT_nope ?_ | with_reducible refine vT_var (by with_unfolding_all rfl) ?_ | with_reducible refine vT_cmp ?_ | with_reducible refine vT_not ?_ | with_reducible refine vT_and ?_ | with_reducible refine vT_or ?_ | with_reducible refine vT_call ?_ | with_reducible refine vT_bi (by with_unfolding_all rfl) ?_ | with_reducible refine vT_isi ?_ | with_reducible refine vT_idx ?_
  | with_reducible refine vI_seq ?_ | with_reducible refine vI_txt ?_ | with_reducible refine vI_rng ?_
  | with_reducible refine vS_nil ?_ | with_reducible refine vS_skip ?_ | with_reducible refine vS_expr ?_ | with_reducible refine vS_asg ?_ | with_reducible refine vS_asgT ?_ | with_reducible refine vS_sub ?_ | with_reducible refine vS_ret ?_ | with_reducible refine vS_brk ?_ | with_reducible refine vS_cont ?_ | with_reducible refine vS_ife ?_ | with_reducible refine vS_for ?_ | with_reducible refine vS_asgA ?_ | with_reducible refine vS_aug (by with_unfolding_all rfl) ?_ | with_reducible refine vS_augA ?_ | with_reducible refine vS_whl ?_
  | with_reducible refine vaft_nx ?_ | with_reducible refine vaft_rt ?_ | with_reducible refine vaft_bk ?_ | with_reducible refine vaft_ct ?_ | with_reducible refine vturn_nx ?_ | with_reducible refine vturn_ct ?_ | with_reducible refine vturn_bk ?_ | with_reducible refine vturn_rt ?_ | with_reducible refine vfin_rtQ ?_ | with_reducible refine vfin_nxQ ?_ | with_reducible refine vturn_ex ?_ | with_reducible refine vaft_ex ?_ | with_reducible refine vfin_exQ ?_))
theorem m_integer_in {l : List Nat} {s : Nat} (hl : l.length ≤ 16777216) (ho : okT l = true) (hd : cntD l ≤ 60) (hs : s < l.length) {Q : D → Mem → Prop}
    (h : match numP (l.drop s) with
      | none => Q (.tup [.str (st []), .int 0, .int (s : Int)]) M
      | some n => Q (.tup [.str (st INTEGER), .int (nval ((l.drop s).take n)), .int ((s + n : Nat) : Int)]) M) :
    wR (inv (CC (k + 2)) "integer_in" [.str (st l), .int (s : Int)] M) Q X := by
  refine inv_vW rfl ?_
  refine C_w k74_l_integer_in rfl ?_
  show wSs _ k74_b_integer_in [some (.str (st l)), some (.int (s : Int)), none, none] _ _
  unfold k74_b_integer_in
  rw [dig_eq, mi_eq, ze_eq, em_eq, in_eq]
  have hc : l[s]? = some l[s] := List.getElem?_eq_getElem hs
  have hq : l.drop s = l[s] :: l.drop (s + 1) := drop_cons' hc
  array_get_dec
  refine ⟨_, idx_st hl hc, ?_⟩
  array_get_dec
  refine ⟨_, cmpeq_st (M := []) (okT_cons ho hc) (by decide), ?_⟩
  -- the first place of the digits
  have rest : ∀ f : Nat, f = s + mlen (l.drop s) → wSs ⟨CC (k + 1), true, CC (k + 1 - 1), k + 1⟩ (.cons (.asg (.name 3) (.call "run_end" (.cons (.var 0) (.cons (.var 2) (.cons (.c (.str (st DIG))) .nil))))) (.cons (.ife (.or (.cmp .eq (.var 2) (.var 3)) (.and (.cmp .eq (.idx (.var 0) (.var 2)) (.c (.str (st [48])))) (.cmp .gt (.bin .sub (.var 3) (.var 1)) (.c (.int (1)))))) (.cons (.ret (.tup (.cons (.c (.str (st []))) (.cons (.c (.int (0))) (.cons (.var 1) .nil))))) .nil) .nil) (.cons (.ret (.tup (.cons (.c (.str (st INTEGER))) (.cons (.bi .int (.cons (.sli (.var 0) (.var 1) (.var 3)) .nil)) (.cons (.var 3) .nil))))) .nil)))
      [some (.str (st l)), some (.int (s : Int)), some (.int (f : Int)), none] [] (finQ (fun v M1 => ∃ v', outD 0 M1 v = some v' ∧ Q v' M) noE) := by
    rintro f hf
    have hm : mlen (l.drop s) ≤ 1 := by unfold mlen; split <;> omega
    have hfl : f ≤ l.length := by omega
    have hdd : (l.drop s).drop (mlen (l.drop s)) = l.drop f := by rw [List.drop_drop, hf]
    have hh : (l.drop f).head? = l[f]? := drop_head
    unfold numP at h
    rw [hdd, hh] at h
    array_get_dec
    refine ⟨_, rfl, ?_⟩
    refine m_run_end hl hfl ?_
    generalize hsp : spn DIG (l.drop f) = d at h ⊢
    have hdl : d ≤ (l.drop f).length := by rw [← hsp]; exact spn_le _ _
    rw [List.length_drop] at hdl
    refine ⟨_, rfl, ?_⟩
    array_get_dec
    refine ⟨_, eq_intC _ _, ?_⟩
    by_cases hd0 : d = 0
    · rw [if_pos (by simp; omega), if_pos rfl]
      rw [if_pos (.inl hd0)] at h
      array_get_dec
      refine ⟨_, rfl, Nat.le_of_ble_eq_true rfl, ?_⟩
      array_get_dec
      exact ⟨_, rfl, h⟩
    · rw [if_neg (by simp; omega)]
      have hf2 : f < l.length := by omega
      have hcf : l[f]? = some l[f] := List.getElem?_eq_getElem hf2
      array_get_dec
      refine ⟨_, idx_st hl hcf, ?_⟩
      array_get_dec
      refine ⟨_, cmpeq_st (M := []) (okT_cons ho hcf) (by decide), ?_⟩
      have fin : ¬ (d = 0 ∨ (l[f]? = some 48 ∧ 1 < mlen (l.drop s) + d)) → wSs ⟨CC (k + 1), true, CC (k + 1 - 1), k + 1⟩ (.cons (.ret (.tup (.cons (.c (.str (st INTEGER))) (.cons (.bi .int (.cons (.sli (.var 0) (.var 1) (.var 3)) .nil)) (.cons (.var 3) .nil))))) .nil)
          [some (.str (st l)), some (.int (s : Int)), some (.int (f : Int)), some (.int ((f + d : Nat) : Int))] [] (finQ (fun v M1 => ∃ v', outD 0 M1 v = some v' ∧ Q v' M) noE) := fun hn => by
        rw [if_neg hn] at h
        have np : numP (l.drop s) = some (mlen (l.drop s) + d) := by
          unfold numP
          rw [hdd, hh, hsp, if_neg hn]
        obtain ⟨v1, v2, v3, v4⟩ := numP_val np (Nat.le_trans (cntD_drop _ _) hd)
        array_get_dec
        refine ⟨_, rfl, ?_⟩
        array_get_dec
        refine ⟨_, rfl, _, sli_st hl (by omega), ?_⟩
        array_get_dec
        have e1 : f + d - s = mlen (l.drop s) + d := by omega
        rw [e1]
        refine ⟨_, int_st v1 (by rw [List.length_take]; omega), ?_⟩
        array_get_dec
        refine ⟨_, rfl, Nat.le_of_ble_eq_true rfl, ?_⟩
        array_get_dec
        rw [show f + d = s + (mlen (l.drop s) + d) by omega]
        exact ⟨_, rfl, h⟩
      by_cases h0 : l[f] = 48
      · rw [if_pos (by simp [h0])]
        array_get_dec
        refine ⟨_, sub_ints, ?_⟩
        array_get_dec
        refine ⟨_, gt_ints, ?_⟩
        by_cases h1 : 1 < mlen (l.drop s) + d
        · rw [if_pos (by simp; omega)]
          rw [if_pos (.inr ⟨by rw [hcf, h0], h1⟩)] at h
          array_get_dec
          refine ⟨_, rfl, Nat.le_of_ble_eq_true rfl, ?_⟩
          array_get_dec
          exact ⟨_, rfl, h⟩
        · rw [if_neg (by simp; omega)]
          iterate 2 array_mem_dec
          exact fin (by rintro (z | ⟨_, z⟩); exact hd0 z; exact h1 z)
      · rw [if_neg (by simpa using h0), if_neg Bool.false_ne_true]
        iterate 2 array_mem_dec
        exact fin (by
          rintro (z | ⟨z, _⟩)
          · exact hd0 z
          · rw [hcf] at z
            exact h0 (Option.some.inj z))
  have hm : mlen (l.drop s) = if l[s] = 45 then 1 else 0 := by
    unfold mlen
    rw [hq]
    simp only [List.head?_cons, Option.some.injEq]
  by_cases h45 : l[s] = 45
  · rw [if_pos (by simp [h45])]
    array_get_dec
    refine ⟨_, add_ints, ?_⟩
    refine ⟨_, rfl, ?_⟩
    rw [if_pos h45] at hm
    exact rest (s + 1) (by omega)
  · rw [if_neg (by simpa using h45)]
    array_get_dec
    refine ⟨_, rfl, ?_⟩
    rw [if_neg h45] at hm
    exact rest s (by omega)
end Z
end
section
set_option Elab.async false
set_option linter.all false
set_option maxRecDepth 100000
set_option maxHeartbeats 1000000
set_option autoImplicit false
/-! The tokens of a text; the program takes them so. -/
namespace Z
open PySem PySem.NumText
variable {M : Mem} {X : Ex} {k : Nat}
theorem tkAt_len {q : List Nat} {t : Tk} {n : Nat} (h : tkAt q = some (t, n)) (hd : cntD q ≤ 60) : 0 < n ∧ n ≤ q.length := by
  unfold tkAt at h
  split at h
  · cases h
  · rename_i c r
    split at h
    · cases h
      exact ⟨Nat.one_pos, by rw [List.length_cons]; omega⟩
    · split at h
      · rename_i hl
        cases h
        refine ⟨?_, spn_le _ _⟩
        rw [spn_cons, if_pos hl]
        omega
      · cases e : numP (c :: r) with
        | none =>
          rw [e] at h
          cases h
        | some n' =>
          rw [e] at h
          cases h
          obtain ⟨_, _, h3, h4⟩ := numP_val e hd
          exact ⟨h4, h3⟩
/-- the tokens, the end's place, whether it ended well -/
def lex : Nat → Nat → List Nat → List (Nat × Tk) × Nat × Bool
  | 0, pos, _ => ([], pos, true)
  | _ + 1, pos, [] => ([], pos, true)
  | f + 1, pos, c :: r => if c = 32 then lex f (pos + 1) r else match tkAt (c :: r) with
    | none => ([], pos, false)
    | some (t, n) => ((pos, t) :: (lex f (pos + n) ((c :: r).drop n)).1, (lex f (pos + n) ((c :: r).drop n)).2)
theorem lex_cons (f pos c : Nat) (r : List Nat) : lex (f + 1) pos (c :: r) = if c = 32 then lex f (pos + 1) r else match tkAt (c :: r) with
    | none => ([], pos, false)
    | some (t, n) => ((pos, t) :: (lex f (pos + n) ((c :: r).drop n)).1, (lex f (pos + n) ((c :: r).drop n)).2) := rfl
theorem cntD_tail {c : Nat} {r : List Nat} (h : cntD (c :: r) ≤ 60) : cntD r ≤ 60 := by
  unfold cntD at *
  rw [List.countP_cons] at h
  omega
theorem lex_fuel : ∀ (f f' pos : Nat) (q : List Nat), cntD q ≤ 60 → q.length ≤ f → q.length ≤ f' → lex f pos q = lex f' pos q
  | 0, f', pos, q, hd, h, h' => by
    have : q = [] := List.length_eq_zero_iff.mp (by omega)
    subst this
    cases f' <;> rfl
  | f + 1, 0, pos, q, hd, h, h' => by
    have : q = [] := List.length_eq_zero_iff.mp (by omega)
    subst this
    rfl
  | f + 1, f' + 1, pos, [], hd, h, h' => rfl
  | f + 1, f' + 1, pos, c :: r, hd, h, h' => by
    rw [List.length_cons] at h h'
    unfold lex
    by_cases hc : c = 32
    · rw [if_pos hc, if_pos hc]
      exact lex_fuel f f' _ r (cntD_tail hd) (by omega) (by omega)
    · rw [if_neg hc, if_neg hc]
      cases e : tkAt (c :: r) with
      | none => rfl
      | some p =>
        obtain ⟨t, n⟩ := p
        obtain ⟨h1, h2⟩ := tkAt_len e hd
        dsimp only
        have e2 := lex_fuel f f' (pos + n) ((c :: r).drop n) (Nat.le_trans (cntD_drop _ _) hd) (by rw [List.length_drop, List.length_cons]; omega) (by rw [List.length_drop, List.length_cons]; omega)
        rw [e2]
/-- from a place on -/
def lexF (l : List Nat) (s : Nat) : List (Nat × Tk) × Nat × Bool := lex l.length s (l.drop s)
theorem lexF_end {l : List Nat} {s : Nat} (h : l.length ≤ s) : lexF l s = ([], s, true) := by
  unfold lexF
  rw [List.drop_eq_nil_of_le h]
  cases l.length <;> rfl
theorem lexF_sp {l : List Nat} {s : Nat} (hd : cntD l ≤ 60) (h : l[s]? = some 32) : lexF l s = lexF l (s + 1) := by
  have hs := (List.getElem?_eq_some_iff.mp h).1
  unfold lexF
  rw [drop_cons' h]
  have e : l.length = (l.length - 1) + 1 := by omega
  rw [e, lex_cons, if_pos rfl]
  have hq : (l.drop (s + 1)).length ≤ l.length - 1 := by
    rw [List.length_drop]
    omega
  have := lex_fuel (l.length - 1) (l.length - 1 + 1) (s + 1) (l.drop (s + 1)) (Nat.le_trans (cntD_drop _ _) hd) hq (by omega)
  exact this
theorem lexF_bad {l : List Nat} {s c : Nat} (h : l[s]? = some c) (hc : c ≠ 32) (ht : tkAt (l.drop s) = none) : lexF l s = ([], s, false) := by
  have hs := (List.getElem?_eq_some_iff.mp h).1
  unfold lexF
  rw [drop_cons' h] at ht ⊢
  have e : l.length = (l.length - 1) + 1 := by omega
  rw [e, lex_cons, if_neg hc, ht]
theorem lexF_tok {l : List Nat} {s c n : Nat} {t : Tk} (hd : cntD l ≤ 60) (h : l[s]? = some c) (hc : c ≠ 32) (ht : tkAt (l.drop s) = some (t, n)) : lexF l s = ((s, t) :: (lexF l (s + n)).1, (lexF l (s + n)).2) := by
  have hs := (List.getElem?_eq_some_iff.mp h).1
  obtain ⟨h1, h2⟩ := tkAt_len ht (Nat.le_trans (cntD_drop _ _) hd)
  have e : l.length = (l.length - 1) + 1 := by omega
  have e3 : (l[s] :: l.drop (s + 1)).drop n = l.drop (s + n) := by
    rw [← drop_cons' (List.getElem?_eq_getElem hs), List.drop_drop]
  have hcc : c = l[s] := by
    rw [List.getElem?_eq_getElem hs] at h
    exact (Option.some.inj h).symm
  subst hcc
  have hq : (l.drop (s + n)).length ≤ l.length - 1 := by
    rw [List.length_drop]
    omega
  have e4 := lex_fuel (l.length - 1) l.length (s + n) (l.drop (s + n)) (Nat.le_trans (cntD_drop _ _) hd) hq (by rw [List.length_drop]; omega)
  show lex l.length s (l.drop s) = ((s, t) :: (lex l.length (s + n) (l.drop (s + n))).1, (lex l.length (s + n) (l.drop (s + n))).2)
  rw [← e4, drop_cons' h]
  rw [drop_cons' h] at ht
  rw [show lex l.length s (l[s] :: l.drop (s + 1)) = lex ((l.length - 1) + 1) s (l[s] :: l.drop (s + 1)) by rw [← e]]
  rw [lex_cons, if_neg hc, ht]
  dsimp only
  rw [e3]
theorem lexF_run {l : List Nat} (hd : cntD l ≤ 60) : ∀ (n s : Nat), n = spn [32] (l.drop s) → lexF l s = lexF l (s + n)
  | 0, s, _ => rfl
  | n + 1, s, h => by
    cases e : l[s]? with
    | none =>
      rw [List.drop_eq_nil_of_le (List.getElem?_eq_none_iff.mp e)] at h
      cases h
    | some c =>
      rw [drop_cons' e, spn_cons] at h
      by_cases hc : c ∈ [32]
      · rw [if_pos hc] at h
        have : c = 32 := by simpa using hc
        subst this
        rw [lexF_sp hd e, lexF_run hd n (s + 1) (by omega), show s + 1 + n = s + (n + 1) by omega]
      · rw [if_neg hc] at h
        cases h
theorem spn_stop (cs l : List Nat) : ∀ c, l[spn cs l]? = some c → c ∉ cs := by
  induction l with
  | nil => exact fun c h => by simp at h
  | cons a l ih =>
    intro c h
    rw [spn_cons] at h
    by_cases ha : a ∈ cs
    · rw [if_pos ha, List.getElem?_cons_succ] at h
      exact ih c h
    · rw [if_neg ha, List.getElem?_cons_zero] at h
      cases h
      exact ha
theorem run_stop {cs l : List Nat} {s c : Nat} (h : l[s + spn cs (l.drop s)]? = some c) : c ∉ cs := by
  refine spn_stop cs (l.drop s) c ?_
  rw [List.getElem?_drop]
  exact h
/-! ### as the program tells them -/
def tokD (p : Nat × Tk) : D := .tup [.int (p.1 : Int), .str (st (kindL p.2)), valD p.2]
def endD (e : Nat × Bool) : D := .tup [.int (e.1 : Int), .str (st (if e.2 then END else [])), .int 0]
theorem kind_ok {q : List Nat} {t : Tk} {n : Nat} (h : tkAt q = some (t, n)) : okT (kindL t) = true ∧ kindL t ≠ [] := by
  cases t with
  | sg c =>
    refine ⟨?_, by simp [kindL]⟩
    unfold tkAt at h
    split at h
    · cases h
    · rename_i c' r
      split at h
      · rename_i hc
        cases h
        have : c ∈ SIG := hc
        unfold SIG at this
        simp only [List.mem_cons, List.not_mem_nil, or_false] at this
        show (decide (c < 0x110000) && true) = true
        rw [decide_eq_true (by omega)]
        rfl
      · split at h
        · cases h
        · cases e : numP (c' :: r) <;> rw [e] at h <;> cases h
  | wd w => exact ⟨show okT WORD = true by decide, show WORD ≠ [] by decide⟩
  | nm w => exact ⟨show okT INTEGER = true by decide, show INTEGER ≠ [] by decide⟩
theorem valD_val (t : Tk) : (valD t).val = true := by cases t <;> rfl
theorem tokD_val (p : Nat × Tk) : (tokD p).val = true := by
  show (true && (true && ((valD p.2).val && true))) = true
  rw [valD_val]
  rfl
theorem toks_vals : ∀ ts : List (Nat × Tk), D.vals (ts.map tokD) = true
  | [] => rfl
  | a :: l => by
    show ((tokD a).val && D.vals (l.map tokD)) = true
    rw [tokD_val, toks_vals l]
    rfl
theorem vals_app {l l' : List D} (h : D.vals l = true) (h' : D.vals l' = true) : D.vals (l ++ l') = true := by
  induction l with
  | nil => exact h'
  | cons a l ih =>
    have h2 := band (show (a.val && D.vals l) = true from h)
    show (a.val && D.vals (l ++ l')) = true
    rw [h2.1, ih h2.2]
    rfl
local macro_rules | `(tactic| array_mem_dec) => `(tactic| first
  | with_reducible refine vE_c ?_ | with_reducible refine vE_nope ?_ | with_reducible refine vE_var (by with_unfolding_all rfl) ?_ | with_reducible refine vE_bin ?_ | with_reducible refine vE_neg ?_ | with_reducible refine vE_cmp ?_ | with_reducible refine vE_not ?_ | with_reducible refine vE_and ?_ | with_reducible refine vE_or ?_ | with_reducible refine vE_ite ?_
  | with_reducible refine vE_tup ?_ | with_reducible refine vE_lst ?_ | with_reducible refine vE_nil ?_ | with_reducible refine vE_cons ?_ | with_reducible refine vE_idx ?_ | with_reducible refine vE_sli ?_ | with_reducible refine vE_mat ?_ | with_reducible refine vE_call ?_ | with_reducible refine vE_bi (by with_unfolding_all rfl) ?_ | with_reducible refine vE_mth ?_ | with_reducible refine vE_isi ?_ | with_reducible refine vE_att ?_ | with_reducible refine vE_own ?_ | with_reducible refine vE_new (by with_unfolding_all exact Nat.le_of_ble_eq_true rfl) ?_ | with_reducible refine vT_own ?_
  | with_reducible refine vT_nope ?_ | with_reducible refine vT_var (by with_unfolding_all rfl) ?_ | with_reducible refine vT_cmp ?_ | with_reducible refine vT_not ?_ | with_reducible refine vT_and ?_ | with_reducible refine vT_or ?_ | with_reducible refine vT_call ?_ | with_reducible refine vT_bi (by with_unfolding_all rfl) ?_ | with_reducible refine vT_isi ?_ | with_reducible refine vT_idx ?_
  | with_reducible refine vI_seq ?_ | with_reducible refine vI_txt ?_ | with_reducible refine vI_rng ?_
  | with_reducible refine vS_nil ?_ | with_reducible refine vS_skip ?_ | with_reducible refine vS_expr ?_ | with_reducible refine vS_asg ?_ | with_reducible refine vS_asgT ?_ | with_reducible refine vS_sub ?_ | with_reducible refine vS_ret ?_ | with_reducible refine vS_brk ?_ | with_reducible refine vS_cont ?_ | with_reducible refine vS_ife ?_ | with_reducible refine vS_for ?_ | with_reducible refine vS_asgA ?_ | with_reducible refine vS_aug (by with_unfolding_all rfl) ?_ | with_reducible refine vS_augA ?_ | with_reducible refine vS_whl ?_
  | with_reducible refine vaft_nx ?_ | with_reducible refine vaft_rt ?_ | with_reducible refine vaft_bk ?_ | with_reducible refine vaft_ct ?_ | with_reducible refine vturn_nx ?_ | with_reducible refine vturn_ct ?_ | with_reducible refine vturn_bk ?_ | with_reducible refine vturn_rt ?_ | with_reducible refine vfin_rtQ ?_ | with_reducible refine vfin_nxQ ?_ | with_reducible refine vturn_ex ?_ | with_reducible refine vaft_ex ?_ | with_reducible refine vfin_exQ ?_)
local macro_rules | `(tactic| array_get_dec) => `(tactic| repeat (first
  | with_reducible refine vE_c ?_ | with_reducible refine vE_nope ?_ | with_reducible refine vE_var (by with_unfolding_all rfl) ?_ | with_reducible refine vE_bin ?_ | with_reducible refine vE_neg ?_ | with_reducible refine vE_cmp ?_ | with_reducible refine vE_not ?_ | with_reducible refine vE_and ?_ | with_reducible refine vE_or ?_ | with_reducible refine vE_ite ?_
  | with_reducible refine vE_tup ?_ | with_reducible refine vE_lst ?_ | with_reducible refine vE_nil ?_ | with_reducible refine vE_cons ?_ | with_reducible refine vE_idx ?_ | with_reducible refine vE_sli ?_ | with_reducible refine vE_mat ?_ | with_reducible refine vE_call ?_ | with_reducible refine vE_bi (by with_unfolding_all rfl) ?_ | with_reducible refine vE_mth ?_ | with_reducible refine vE_isi ?_ | with_reducible refine vE_att ?_ | with_reducible refine vE_own ?_ | with_reducible refine vE_new (by with_unfolding_all exact Nat.le_of_ble_eq_true rfl) ?_ | with_reducible refine vT_own ?_
  | with_reducible refine vT_nope ?_ | with_reducible refine vT_var (by with_unfolding_all rfl) ?_ | with_reducible refine vT_cmp ?_ | with_reducible refine vT_not ?_ | with_reducible refine vT_and ?_ | with_reducible refine vT_or ?_ | with_reducible refine vT_call ?_ | with_reducible refine vT_bi (by with_unfolding_all rfl) ?_ | with_reducible refine vT_isi ?_ | with_reducible refine vT_idx ?_
  | with_reducible refine vI_seq ?_ | with_reducible refine vI_txt ?_ | with_reducible refine vI_rng ?_
  | with_reducible refine vS_nil ?_ | with_reducible refine vS_skip ?_ | with_reducible refine vS_expr ?_ | with_reducible refine vS_asg ?_ | with_reducible refine vS_asgT ?_ | with_reducible refine vS_sub ?_ | with_reducible refine vS_ret ?_ | with_reducible refine vS_brk ?_ | with_reducible refine vS_cont ?_ | with_reducible refine vS_ife ?_ | with_reducible refine vS_for ?_ | with_reducible refine vS_asgA ?_ | with_reducible refine vS_aug (by with_unfolding_all rfl) ?_ | with_reducible refine vS_augA ?_ | with_reducible refine vS_whl ?_
  | with_reducible refine vaft_nx ?_ | with_reducible refine vaft_rt ?_ | with_reducible refine vaft_bk ?_ | with_reducible refine vaft_ct ?_ | with_reducible refine vturn_nx ?_ | with_reducible refine vturn_ct ?_ | with_reducible refine vturn_bk ?_ | with_reducible refine vturn_rt ?_ | with_reducible refine vfin_rtQ ?_ | with_reducible refine vfin_nxQ ?_ | with_reducible refine vturn_ex ?_ | with_reducible refine vaft_ex ?_ | with_reducible refine vfin_exQ ?_))
theorem m_token_in {l : List Nat} {s : Nat} (hl : l.length ≤ 16777216) (ho : okT l = true) (hd : cntD l ≤ 60) (hs : s < l.length) {Q : D → Mem → Prop}
    (h : match tkAt (l.drop s) with
      | none => Q (.tup [.str (st []), .int 0, .int (s : Int)]) M
      | some (t, n) => Q (.tup [.str (st (kindL t)), valD t, .int ((s + n : Nat) : Int)]) M) :
    wR (inv (CC (k + 3)) "token_in" [.str (st l), .int (s : Int)] M) Q X := by
  refine inv_vW rfl ?_
  refine C_w k74_l_token_in rfl ?_
  show wSs _ k74_b_token_in [some (.str (st l)), some (.int (s : Int)), none, none] _ _
  unfold k74_b_token_in
  rw [sig_eq, let_eq, wo_eq]
  have hc : l[s]? = some l[s] := List.getElem?_eq_getElem hs
  have hq : l.drop s = l[s] :: l.drop (s + 1) := drop_cons' hc
  have ht : tkAt (l.drop s) = if l[s] ∈ SIG then some (.sg l[s], 1) else if l[s] ∈ LET then some (.wd ((l.drop s).take (spn LET (l.drop s))), spn LET (l.drop s)) else (numP (l.drop s)).map fun n => (.nm ((l.drop s).take n), n) := by
    rw [hq]
    rfl
  rw [ht] at h
  array_get_dec
  refine ⟨_, idx_st hl hc, ?_⟩
  refine ⟨_, rfl, ?_⟩
  array_get_dec
  refine ⟨_, mem_st (M := []), ?_⟩
  by_cases h1 : l[s] ∈ SIG
  · rw [if_pos (by simpa using h1)]
    rw [if_pos h1] at h
    array_get_dec
    refine ⟨_, add_ints, ?_⟩
    array_get_dec
    refine ⟨_, rfl, Nat.le_of_ble_eq_true rfl, ?_⟩
    array_get_dec
    exact ⟨_, rfl, h⟩
  · rw [if_neg (by simpa using h1)]
    rw [if_neg h1] at h
    array_get_dec
    refine ⟨_, mem_st (M := []), ?_⟩
    by_cases h2 : l[s] ∈ LET
    · rw [if_pos (by simpa using h2)]
      rw [if_pos h2] at h
      array_get_dec
      refine ⟨_, rfl, ?_⟩
      refine m_run_end hl (by omega) ?_
      refine ⟨_, rfl, ?_⟩
      array_get_dec
      refine ⟨_, rfl, ?_⟩
      array_get_dec
      have hsp := spn_le LET (l.drop s)
      rw [List.length_drop] at hsp
      refine ⟨_, rfl, _, sli_st hl (by omega), ?_⟩
      array_get_dec
      refine ⟨_, rfl, Nat.le_of_ble_eq_true rfl, ?_⟩
      array_get_dec
      rw [show s + spn LET (l.drop s) - s = spn LET (l.drop s) by omega]
      exact ⟨_, rfl, h⟩
    · rw [if_neg (by simpa using h2)]
      rw [if_neg h2] at h
      array_get_dec
      refine ⟨_, rfl, ?_⟩
      refine m_integer_in hl ho hd hs ?_
      cases e : numP (l.drop s) with
      | none =>
        rw [e] at h
        dsimp only
        array_get_dec
        exact ⟨_, rfl, h⟩
      | some n =>
        rw [e] at h
        dsimp only
        array_get_dec
        exact ⟨_, rfl, h⟩
theorem m_tokens_of {l : List Nat} (hl : l.length ≤ 1000000) (ho : okT l = true) (hd : cntD l ≤ 60) {Q : D → Mem → Prop}
    (h : Q (.fl ((lexF l 0).1.map tokD ++ [endD (lexF l 0).2])) M) : wR (inv (CC (k + 4)) "tokens_of" [.str (st l)] M) Q X := by
  have hl2 : l.length ≤ 16777216 := by omega
  refine inv_vW rfl ?_
  refine C_w k74_l_tokens_of rfl ?_
  show wSs _ k74_b_tokens_of [some (.str (st l)), none, none, none, none, none] _ _
  unfold k74_b_tokens_of
  rw [sp_eq, em_eq, en_eq]
  array_get_dec
  refine ⟨_, rfl, Nat.zero_le _, ?_⟩
  refine ⟨_, rfl, ?_⟩
  refine ⟨_, rfl, ?_⟩
  array_get_dec
  refine ⟨_, rfl, ?_⟩
  refine m_run_end (s := 0) hl2 (Nat.zero_le _) ?_
  refine ⟨_, rfl, ?_⟩
  array_get_dec
  refine ⟨fun n env M => ∃ (s : Nat) (acc : List (Nat × Tk)) (z3 z4 z5 : Option D), env = [some (.str (st l)), some (.ref 0), some (.int (s : Int)), z3, z4, z5] ∧ M = [.lst (acc.map tokD)] ∧ n = l.length - s ∧ s ≤ l.length ∧ acc.length ≤ s ∧
    (∀ c, l[s]? = some c → c ≠ 32) ∧ acc ++ (lexF l s).1 = (lexF l 0).1 ∧ (lexF l s).2 = (lexF l 0).2, ?_, ?_⟩
  · have e0 := lexF_run hd _ 0 rfl
    have hsp := spn_le [32] (l.drop 0)
    rw [List.length_drop] at hsp
    exact ⟨_, 0 + spn [32] (l.drop 0), [], none, none, none, rfl, rfl, rfl, by omega, by simp, fun c hc z => run_stop hc (by simp [z]), by rw [e0]; rfl, by rw [e0]⟩
  rintro n env M' ⟨s, acc, z3, z4, z5, rfl, rfl, rfl, hs, hac, hsp, e1, e2⟩
  array_get_dec
  refine ⟨_, len_st hl2, ?_⟩
  array_get_dec
  refine ⟨_, lt_ints, ?_⟩
  by_cases hlt : s < l.length
  · rw [if_pos (by simp; omega)]
    have hc : l[s]? = some l[s] := List.getElem?_eq_getElem hlt
    array_get_dec
    refine ⟨_, rfl, ?_⟩
    refine m_token_in hl2 ho hd hlt ?_
    cases e : tkAt (l.drop s) with
    | none =>
      have eb := lexF_bad hc (hsp _ hc) e
      rw [eb] at e1 e2
      dsimp only
      refine ⟨_, rfl, _, rfl, ?_⟩
      array_get_dec
      refine ⟨rfl, ?_⟩
      array_get_dec
      refine ⟨_, rfl, Nat.le_of_ble_eq_true rfl, ?_⟩
      array_get_dec
      refine ⟨_, rfl, rfl, .non, _, app_end rfl (by rw [List.length_map]; omega), ?_⟩
      array_get_dec
      refine ⟨_, cmpeq_st (by decide) (by decide), ?_⟩
      rw [if_pos (by simp)]
      array_get_dec
      rw [List.append_nil] at e1
      rw [← e1, ← e2] at h
      have hv : D.vals (acc.map tokD ++ [D.tup [.int (s : Int), .str (st []), .int 0]]) = true := vals_app (toks_vals acc) rfl
      exact ⟨_, out_ref (by omega) rfl hv, h⟩
    | some p =>
      obtain ⟨t, n⟩ := p
      obtain ⟨hn1, hn2⟩ := tkAt_len e (Nat.le_trans (cntD_drop _ _) hd)
      rw [List.length_drop] at hn2
      have et := lexF_tok hd hc (hsp _ hc) e
      rw [et] at e1 e2
      dsimp only
      obtain ⟨ko, kn⟩ := kind_ok e
      refine ⟨_, rfl, _, rfl, ?_⟩
      array_get_dec
      refine ⟨rfl, ?_⟩
      array_get_dec
      refine ⟨_, frzs_vals (by show (true && (true && ((valD t).val && true))) = true; rw [valD_val]; rfl), Nat.le_of_ble_eq_true rfl, ?_⟩
      array_get_dec
      refine ⟨_, rfl, by show ((tokD (s, t)).val && true) = true; rw [tokD_val]; rfl, .non, _, app_end rfl (by rw [List.length_map]; omega), ?_⟩
      array_get_dec
      refine ⟨_, cmpeq_st (l' := []) ko (by decide), ?_⟩
      rw [if_neg (by simpa using kn)]
      array_get_dec
      refine ⟨_, rfl, ?_⟩
      refine m_run_end hl2 (by omega) ?_
      refine ⟨_, rfl, ?_⟩
      array_get_dec
      have er := lexF_run hd _ (s + n) rfl
      have hsp2 := spn_le [32] (l.drop (s + n))
      rw [List.length_drop] at hsp2
      refine ⟨l.length - (s + n + spn [32] (l.drop (s + n))), by omega, s + n + spn [32] (l.drop (s + n)), acc ++ [(s, t)], _, _, _, rfl, ?_, rfl, by omega, by rw [List.length_append]; simp; omega, fun c hc z => run_stop hc (by simp [z]), ?_, ?_⟩
      · rw [List.map_append]
        rfl
      · rw [← er, ← e1, List.append_assoc]
        rfl
      · rw [← er, ← e2]
  · rw [if_neg (by simp; omega)]
    have hs2 : s = l.length := by omega
    subst hs2
    rw [lexF_end (Nat.le_refl _)] at e1 e2
    array_get_dec
    refine ⟨rfl, ?_⟩
    array_get_dec
    refine ⟨_, len_st hl2, ?_⟩
    array_get_dec
    refine ⟨_, rfl, Nat.le_of_ble_eq_true rfl, ?_⟩
    array_get_dec
    refine ⟨_, rfl, rfl, .non, _, app_end rfl (by rw [List.length_map]; omega), ?_⟩
    array_get_dec
    rw [List.append_nil] at e1
    rw [← e1, ← e2] at h
    exact ⟨_, out_ref (by omega) rfl (vals_app (toks_vals acc) rfl), h⟩
end Z
end
section
set_option Elab.async false
set_option linter.all false
set_option maxRecDepth 100000
set_option maxHeartbeats 1000000
set_option autoImplicit false
/-! The class Line: its methods. -/
namespace Z
open PySem
variable {M : Mem} {X : Ex} {k : Nat} {F : Fn} {f : Str} {ds : List D} {r : Nat} {Q : D → Mem → Prop}
theorem inv_vX (hv : D.vals ds = true) (h : wR (F f ds []) (fun v M1 => ∃ v', outD 0 M1 v = some v' ∧ Q v' M) (fun c p M1 => p.all (fun q => q.2.val) = true ∧ X c p M)) : wR (inv F f ds M) Q X := by
  obtain ⟨h1, h2, h3⟩ := refs_vals hv
  have hr : refsOf ds = [] := by
    unfold refsOf
    rw [h1]
    exact List.eraseDups_nil
  simp only [wR_eq] at h ⊢
  have e : inv F f ds M = backR [] M (F f ds []) := by
    unfold inv
    rw [if_pos h2, hr]
    show backR [] M (F f (ds.map (ren [])) []) = _
    rw [h3]
  rw [e]
  match q : F f ds [], h with
  | some (.ok v M1), ⟨v', e2, h⟩ =>
    show W0.wR (if flats [] then (match outD 0 M1 v with
      | some d' => some (Rs.ok d' (putBack [] [] M))
      | none => none) else none) Q X
    rw [e2]
    exact h
  | some (.exc c p M1), ⟨e2, h⟩ =>
    show W0.wR (if (flats [] && p.all (fun q => q.2.val)) = true then some (Rs.exc c p (putBack [] [] M)) else none) Q X
    rw [e2]
    exact h
theorem inv_ob {o : MO} (hf : flat o = true) (hv : D.vals ds = true) (hM : M[r]? = some o) (h : wR (F f (.ref 0 :: ds) [o]) (fun v M1 => ∃ o' Mx v', M1 = o' :: Mx ∧ flat o' = true ∧ outD 1 M1 v = some v' ∧ Q v' (M.set r o'))
    (fun c p M1 => ∃ o' Mx, M1 = o' :: Mx ∧ flat o' = true ∧ p.all (fun q => q.2.val) = true ∧ X c p (M.set r o'))) : wR (inv F f (.ref r :: ds) M) Q X := by
  obtain ⟨a1, a2, a3⟩ := refs_vals hv
  have hr : refsOf (.ref r :: ds) = [r] := by
    unfold refsOf
    rw [List.flatMap_cons, a1]
    rfl
  have ho : objs M [r] = some [o] := by
    rw [objs, hM]
    rfl
  have fl : flats [o] = true := by
    show (flat o && true) = true
    rw [hf]
    rfl
  have er : ren [r] (.ref r) = .ref 0 := by
    show D.ref ([r].idxOf r) = _
    simp
  have e : inv F f (.ref r :: ds) M = backR [r] M (F f (.ref 0 :: ds) [o]) := by
    unfold inv
    rw [if_pos (by rw [List.all_cons, a2]; rfl), hr, ho]
    dsimp only
    rw [if_pos fl, List.map_cons, er, a3]
  simp only [wR_eq] at h ⊢
  rw [e]
  match q : F f (.ref 0 :: ds) [o], h with
  | some (.ok v M1), ⟨o', Mx, v', e1, f1, e2, h⟩ =>
    subst e1
    have f2 : flats ((o' :: Mx).take [r].length) = true := by
      show (flat o' && true) = true
      rw [f1]
      rfl
    unfold backR
    dsimp only
    rw [if_pos f2]
    have e3 : outD [r].length (o' :: Mx) v = some v' := e2
    rw [e3]
    exact h
  | some (.exc c p M1), ⟨o', Mx, e1, f1, e2, h⟩ =>
    subst e1
    have f2 : (flats ((o' :: Mx).take [r].length) && p.all (fun q => q.2.val)) = true := by
      show ((flat o' && true) && _) = true
      rw [f1, e2]
      rfl
    unfold backR
    dsimp only
    rw [if_pos f2]
    exact h
/-- a Line: its tokens, how many are taken -/
def LN (T : List D) (t : Nat) : MO := .ins "Line" [("tokens", .tl T), ("taken", .int (t : Int))]
theorem LN_flat {T : List D} {t : Nat} (h : D.vals T = true) : flat (LN T t) = true := by
  show (D.vals T && (true && true)) = true
  rw [h]
  rfl
theorem set_self {o : MO} (h : M[r]? = some o) : M.set r o = M := by
  obtain ⟨h1, h2⟩ := List.getElem?_eq_some_iff.mp h
  rw [← h2]
  exact List.set_getElem_self h1
theorem ins_LN {T : List D} {t : Nat} (h : M[r]? = some (LN T t)) : insOf "Line" (.ref r) M = some (r, [(Str.ofString "tokens", D.tl T), (Str.ofString "taken", D.int (t : Int))]) := by
  unfold insOf
  dsimp only
  rw [h]
  unfold LN
  dsimp only
  rw [if_pos ⟨rfl, by show 2 < 1000; omega⟩]
theorem q_kind : qual (Str.ofString "Line") (Str.ofString "kind") = Str.ofString "Line.kind" := by decide +kernel
theorem q_value : qual (Str.ofString "Line") (Str.ofString "value") = Str.ofString "Line.value" := by decide +kernel
theorem q_spot : qual (Str.ofString "Line") (Str.ofString "spot_at_hand") = Str.ofString "Line.spot_at_hand" := by decide +kernel
theorem q_refuse : qual (Str.ofString "Line") (Str.ofString "refuse") = Str.ofString "Line.refuse" := by decide +kernel
theorem q_take : qual (Str.ofString "Line") (Str.ofString "take") = Str.ofString "Line.take" := by decide +kernel
theorem q_one : qual (Str.ofString "Line") (Str.ofString "take_one_of") = Str.ofString "Line.take_one_of" := by decide +kernel
theorem q_init : qual (Str.ofString "Line") (Str.ofString "__init__") = Str.ofString "Line.__init__" := by decide +kernel
/-- the token at hand -/
def tkD (s : Nat) (κ : List Nat) (v : D) : D := .tup [.int (s : Int), .str (st κ), v]
theorem lk_tokens {a b : D} : List.lookup (Str.ofString "tokens") [((Str.ofString "tokens", a) : Str × D), (Str.ofString "taken", b)] = some a := by
  rw [List.lookup_cons, beq_self_eq_true]
theorem lk_taken {a b : D} : List.lookup (Str.ofString "taken") [((Str.ofString "tokens", a) : Str × D), (Str.ofString "taken", b)] = some b := by
  rw [List.lookup_cons, show (Str.ofString "taken" == Str.ofString "tokens") = false by decide +kernel, List.lookup_cons, beq_self_eq_true]
theorem lk_none {m : Str} {a b : D} (h1 : (m == Str.ofString "tokens") = false) (h2 : (m == Str.ofString "taken") = false) : List.lookup m [((Str.ofString "tokens", a) : Str × D), (Str.ofString "taken", b)] = none := by
  rw [List.lookup_cons, h1, List.lookup_cons, h2]
  rfl
theorem put_taken {a b d : D} : putA (Str.ofString "taken") d [((Str.ofString "tokens", a) : Str × D), (Str.ofString "taken", b)] = [(Str.ofString "tokens", a), (Str.ofString "taken", d)] := by
  unfold putA
  rw [if_neg (by decide +kernel)]
  unfold putA
  rw [if_pos rfl]
local macro_rules | `(tactic| array_mem_dec) => `(tactic| first
  | with_reducible refine vE_c ?_ | with_reducible refine vE_nope ?_ | with_reducible refine vE_var (by with_unfolding_all rfl) ?_ | with_reducible refine vE_bin ?_ | with_reducible refine vE_neg ?_ | with_reducible refine vE_cmp ?_ | with_reducible refine vE_not ?_ | with_reducible refine vE_and ?_ | with_reducible refine vE_or ?_ | with_reducible refine vE_ite ?_
  | with_reducible refine vE_tup ?_ | with_reducible refine vE_lst ?_ | with_reducible refine vE_nil ?_ | with_reducible refine vE_cons ?_ | with_reducible refine vE_idx ?_ | with_reducible refine vE_sli ?_ | with_reducible refine vE_mat ?_ | with_reducible refine vE_call ?_ | with_reducible refine vE_bi (by with_unfolding_all rfl) ?_ | with_reducible refine vE_mth ?_ | with_reducible refine vE_isi ?_ | with_reducible refine vE_att ?_ | with_reducible refine vE_own ?_ | with_reducible refine vE_new (by with_unfolding_all exact Nat.le_of_ble_eq_true rfl) ?_ | with_reducible refine vT_own ?_
  | with_reducible refine vT_nope ?_ | with_reducible refine vT_var (by with_unfolding_all rfl) ?_ | with_reducible refine vT_cmp ?_ | with_reducible refine vT_not ?_ | with_reducible refine vT_and ?_ | with_reducible refine vT_or ?_ | with_reducible refine vT_call ?_ | with_reducible refine vT_bi (by with_unfolding_all rfl) ?_ | with_reducible refine vT_isi ?_ | with_reducible refine vT_idx ?_
  | with_reducible refine vI_seq ?_ | with_reducible refine vI_txt ?_ | with_reducible refine vI_rng ?_
  | with_reducible refine vS_nil ?_ | with_reducible refine vS_skip ?_ | with_reducible refine vS_expr ?_ | with_reducible refine vS_asg ?_ | with_reducible refine vS_asgT ?_ | with_reducible refine vS_sub ?_ | with_reducible refine vS_ret ?_ | with_reducible refine vS_brk ?_ | with_reducible refine vS_cont ?_ | with_reducible refine vS_ife ?_ | with_reducible refine vS_for ?_ | with_reducible refine vS_asgA ?_ | with_reducible refine vS_aug (by with_unfolding_all rfl) ?_ | with_reducible refine vS_augA ?_ | with_reducible refine vS_whl ?_
  | with_reducible refine vaft_nx ?_ | with_reducible refine vaft_rt ?_ | with_reducible refine vaft_bk ?_ | with_reducible refine vaft_ct ?_ | with_reducible refine vturn_nx ?_ | with_reducible refine vturn_ct ?_ | with_reducible refine vturn_bk ?_ | with_reducible refine vturn_rt ?_ | with_reducible refine vfin_rtQ ?_ | with_reducible refine vfin_nxQ ?_ | with_reducible refine vturn_ex ?_ | with_reducible refine vaft_ex ?_ | with_reducible refine vfin_exQ ?_)
local macro_rules | `(tactic| array_get_dec) => `(tactic| repeat (first
  | with_reducible refine vE_c ?_ | with_reducible refine vE_nope ?_ | with_reducible refine vE_var (by with_unfolding_all rfl) ?_ | with_reducible refine vE_bin ?_ | with_reducible refine vE_neg ?_ | with_reducible refine vE_cmp ?_ | with_reducible refine vE_not ?_ | with_reducible refine vE_and ?_ | with_reducible refine vE_or ?_ | with_reducible refine vE_ite ?_
  | with_reducible refine vE_tup ?_ | with_reducible refine vE_lst ?_ | with_reducible refine vE_nil ?_ | with_reducible refine vE_cons ?_ | with_reducible refine vE_idx ?_ | with_reducible refine vE_sli ?_ | with_reducible refine vE_mat ?_ | with_reducible refine vE_call ?_ | with_reducible refine vE_bi (by with_unfolding_all rfl) ?_ | with_reducible refine vE_mth ?_ | with_reducible refine vE_isi ?_ | with_reducible refine vE_att ?_ | with_reducible refine vE_own ?_ | with_reducible refine vE_new (by with_unfolding_all exact Nat.le_of_ble_eq_true rfl) ?_ | with_reducible refine vT_own ?_
  | with_reducible refine vT_nope ?_ | with_reducible refine vT_var (by with_unfolding_all rfl) ?_ | with_reducible refine vT_cmp ?_ | with_reducible refine vT_not ?_ | with_reducible refine vT_and ?_ | with_reducible refine vT_or ?_ | with_reducible refine vT_call ?_ | with_reducible refine vT_bi (by with_unfolding_all rfl) ?_ | with_reducible refine vT_isi ?_ | with_reducible refine vT_idx ?_
  | with_reducible refine vI_seq ?_ | with_reducible refine vI_txt ?_ | with_reducible refine vI_rng ?_
  | with_reducible refine vS_nil ?_ | with_reducible refine vS_skip ?_ | with_reducible refine vS_expr ?_ | with_reducible refine vS_asg ?_ | with_reducible refine vS_asgT ?_ | with_reducible refine vS_sub ?_ | with_reducible refine vS_ret ?_ | with_reducible refine vS_brk ?_ | with_reducible refine vS_cont ?_ | with_reducible refine vS_ife ?_ | with_reducible refine vS_for ?_ | with_reducible refine vS_asgA ?_ | with_reducible refine vS_aug (by with_unfolding_all rfl) ?_ | with_reducible refine vS_augA ?_ | with_reducible refine vS_whl ?_
  | with_reducible refine vaft_nx ?_ | with_reducible refine vaft_rt ?_ | with_reducible refine vaft_bk ?_ | with_reducible refine vaft_ct ?_ | with_reducible refine vturn_nx ?_ | with_reducible refine vturn_ct ?_ | with_reducible refine vturn_bk ?_ | with_reducible refine vturn_rt ?_ | with_reducible refine vfin_rtQ ?_ | with_reducible refine vfin_nxQ ?_ | with_reducible refine vturn_ex ?_ | with_reducible refine vaft_ex ?_ | with_reducible refine vfin_exQ ?_))
section
variable {T : List D} {t s : Nat} {κ : List Nat} {v : D}
/-- the part j of the token at hand -/
theorem part_at {j : Nat} {x : D} {b : Ss} {Q : D → Mem → Prop} (hb : b = (.cons (.ret (.idx (.idx (.att "Line" (.var 0) "tokens") (.att "Line" (.var 0) "taken")) (.c (.int (j : Int))))) .nil)) (hT : T[t]? = some (tkD s κ v)) (hl : T.length < 100000000) (hx : [D.int (s : Int), .str (st κ), v][j]? = some x) (hj : j < 3) (h : Q x [LN T t]) :
    wSs ⟨CC k, true, CC (k - 1), k⟩ b [some (.ref 0)] [LN T t] (finQ Q X) := by
  subst hb
  have htl := (List.getElem?_eq_some_iff.mp hT).1
  array_get_dec
  refine ⟨0, _, _, ins_LN rfl, lk_tokens, ?_⟩
  array_get_dec
  refine ⟨0, _, _, ins_LN rfl, lk_taken, ?_⟩
  refine ⟨_, idx_of (.inl rfl) hT (by omega), ?_⟩
  array_get_dec
  refine ⟨_, idx_of (.inr (.inl rfl)) hx (by omega), ?_⟩
  array_get_dec
  exact h
theorem m_kind (hT : T[t]? = some (tkD s κ v)) (hl : T.length < 100000000) (hv : D.vals T = true) (hM : M[r]? = some (LN T t)) {Q : D → Mem → Prop} (h : Q (.str (st κ)) M) : wR (inv (CC (k + 1)) (qual (Str.ofString "Line") (Str.ofString "kind")) [.ref r] M) Q X := by
  refine inv_ob (LN_flat hv) rfl hM ?_
  rw [q_kind]
  refine C_w k74_l_Line_kind rfl ?_
  exact part_at (j := 1) rfl hT hl rfl (by decide) ⟨_, [], _, rfl, LN_flat hv, rfl, by rw [set_self hM]; exact h⟩
theorem m_value (hT : T[t]? = some (tkD s κ v)) (hl : T.length < 100000000) (hv : D.vals T = true) (hvv : v.val = true) (hM : M[r]? = some (LN T t)) {Q : D → Mem → Prop} (h : Q v M) : wR (inv (CC (k + 1)) (qual (Str.ofString "Line") (Str.ofString "value")) [.ref r] M) Q X := by
  refine inv_ob (LN_flat hv) rfl hM ?_
  rw [q_value]
  refine C_w k74_l_Line_value rfl ?_
  exact part_at (j := 2) rfl hT hl rfl (by decide) ⟨_, [], _, rfl, LN_flat hv, out_val hvv, by rw [set_self hM]; exact h⟩
theorem m_spot (hT : T[t]? = some (tkD s κ v)) (hl : T.length < 100000000) (hv : D.vals T = true) (hM : M[r]? = some (LN T t)) {Q : D → Mem → Prop} (h : Q (.int (s : Int)) M) : wR (inv (CC (k + 1)) (qual (Str.ofString "Line") (Str.ofString "spot_at_hand")) [.ref r] M) Q X := by
  refine inv_ob (LN_flat hv) rfl hM ?_
  rw [q_spot]
  refine C_w k74_l_Line_spot_at_hand rfl ?_
  exact part_at (j := 0) rfl hT hl rfl (by decide) ⟨_, [], _, rfl, LN_flat hv, rfl, by rw [set_self hM]; exact h⟩
theorem m_refuse (hT : T[t]? = some (tkD s κ v)) (hl : T.length < 100000000) (hv : D.vals T = true) (hM : M[r]? = some (LN T t)) {Q : D → Mem → Prop} (h : X "BadText" [("spot", .int (s : Int))] M) : wR (inv (CC (k + 4)) (qual (Str.ofString "Line") (Str.ofString "refuse")) [.ref r] M) Q X := by
  refine inv_ob (LN_flat hv) rfl hM ?_
  rw [q_refuse]
  refine C_w k74_l_Line_refuse rfl ?_
  show wSs _ k74_b_Line_refuse [some (.ref 0)] _ _
  unfold k74_b_Line_refuse
  with_reducible refine vS_raise (by omega) ?_
  array_get_dec
  refine ⟨0, _, ins_LN rfl, lk_none (by decide +kernel) (by decide +kernel), ?_⟩
  array_get_dec
  refine ⟨_, rfl, ?_⟩
  refine m_spot hT hl hv rfl ?_
  refine ⟨_, rfl, ?_⟩
  array_get_dec
  exact ⟨_, [], rfl, LN_flat hv, rfl, by rw [set_self hM]; exact h⟩
theorem m_Ltake {κ' : List Nat} (hT : T[t]? = some (tkD s κ v)) (hl : T.length < 100000000) (hv : D.vals T = true) (hvv : v.val = true) (ho : okT κ = true) (ho' : okT κ' = true) (hM : M[r]? = some (LN T t)) {Q : D → Mem → Prop}
    (h : if κ = κ' then Q v (M.set r (LN T (t + 1))) else X "BadText" [("spot", .int (s : Int))] M) : wR (inv (CC (k + 5)) (qual (Str.ofString "Line") (Str.ofString "take")) [.ref r, .str (st κ')] M) Q X := by
  refine inv_ob (LN_flat hv) rfl hM ?_
  rw [q_take]
  refine C_w k74_l_Line_take rfl ?_
  show wSs _ k74_b_Line_take [some (.ref 0), some (.str (st κ')), none] _ _
  unfold k74_b_Line_take
  array_get_dec
  refine ⟨0, _, ins_LN rfl, lk_none (by decide +kernel) (by decide +kernel), ?_⟩
  array_get_dec
  refine ⟨_, rfl, ?_⟩
  refine m_kind hT hl hv rfl ?_
  array_get_dec
  refine ⟨_, cmpne_st ho ho', ?_⟩
  by_cases he : κ = κ'
  · rw [if_neg (by simp [he])]
    rw [if_pos he] at h
    array_get_dec
    refine ⟨0, _, ins_LN rfl, lk_none (by decide +kernel) (by decide +kernel), ?_⟩
    array_get_dec
    refine ⟨_, rfl, ?_⟩
    refine m_value hT hl hv hvv rfl ?_
    refine ⟨_, frz_val hvv, ?_⟩
    array_get_dec
    refine ⟨0, _, _, ins_LN rfl, lk_taken, ?_⟩
    array_get_dec
    refine ⟨1, _, 0, _, rfl, rfl, ins_LN rfl, ?_⟩
    array_get_dec
    rw [put_taken]
    exact ⟨LN T (t + 1), [], v, rfl, LN_flat hv, out_val hvv, h⟩
  · rw [if_pos (by simpa using he)]
    rw [if_neg he] at h
    array_get_dec
    refine ⟨0, _, ins_LN rfl, lk_none (by decide +kernel) (by decide +kernel), ?_⟩
    array_get_dec
    refine ⟨_, rfl, ?_⟩
    refine m_refuse hT hl hv rfl ?_
    array_get_dec
    exact ⟨_, [], rfl, LN_flat hv, rfl, by rw [set_self hM]; exact h⟩
theorem eqv_sts {κ : List Nat} : ∀ ws : List (List Nat), (D.pys (ws.map fun w => D.str (st w))).any (fun z => PyData.eqv z (.str (st κ))) = decide (κ ∈ ws)
  | [] => rfl
  | w :: ws => by
    show (PyData.eqv (.str (st w)) (.str (st κ)) || (D.pys (ws.map fun w => D.str (st w))).any (fun z => PyData.eqv z (.str (st κ)))) = _
    rw [eqv_sts ws]
    simp only [PyData.eqv]
    by_cases h : w = κ
    · subst h
      simp
    · have h1 : (st w == st κ) = false := beq_eq_false_iff_ne.mpr fun z => h (st_inj z)
      rw [h1, Bool.false_or]
      by_cases h2 : κ ∈ ws
      · rw [decide_eq_true h2, decide_eq_true (List.mem_cons_of_mem _ h2)]
      · rw [decide_eq_false h2, decide_eq_false]
        intro z
        rcases List.mem_cons.mp z with e | e
        · exact h e.symm
        · exact h2 e
theorem shaped_sts : ∀ ws : List (List Nat), ws.all okT = true → SeqAt.shaped (.list (D.pys (ws.map fun w => D.str (st w)))) = true ∧ D.plains (ws.map fun w => D.str (st w)) = true := by
  intro ws h
  have key : ∀ ws : List (List Nat), ws.all okT = true → PyData.canLayAll0 (D.pys (ws.map fun w => D.str (st w))) = true ∧ PyData.depthAll (D.pys (ws.map fun w => D.str (st w))) ≤ 1 ∧ D.plains (ws.map fun w => D.str (st w)) = true := fun ws => by
    induction ws with
    | nil => exact fun _ => ⟨rfl, Nat.zero_le _, rfl⟩
    | cons w ws ih =>
      intro h
      have h2 := band (show (okT w && ws.all okT) = true from h)
      obtain ⟨i1, i2, i3⟩ := ih h2.2
      have s1 := (band (show (PyData.canLay0 (.str (st w)) && decide (PyData.depth (.str (st w)) ≤ 64)) = true from shaped_st h2.1)).1
      refine ⟨?_, ?_, ?_⟩
      · show (PyData.canLay0 (.str (st w)) && PyData.canLayAll0 (D.pys (ws.map fun w => D.str (st w)))) = true
        rw [s1, i1]
        rfl
      · show PyData.depthAll (.str (st w) :: D.pys (ws.map fun w => D.str (st w))) ≤ 1
        simp only [PyData.depthAll, PyData.depth]
        omega
      · show (true && D.plains (ws.map fun w => D.str (st w))) = true
        rw [i3]
        rfl
  obtain ⟨h1, h2, h3⟩ := key ws h
  refine ⟨?_, h3⟩
  unfold SeqAt.shaped
  rw [Bool.and_eq_true]
  refine ⟨h1, decide_eq_true ?_⟩
  simp only [PyData.depth]
  omega
theorem mem_sts {κ : List Nat} {ws : List (List Nat)} {b : D} (hb : b = .tup (ws.map fun w => D.str (st w)) ∨ b = .fl (ws.map fun w => D.str (st w)) ∨ b = .tl (ws.map fun w => D.str (st w))) (h : okT κ = true) (hw : ws.all okT = true) : memD (.str (st κ)) b M = some (decide (κ ∈ ws)) := by
  obtain ⟨h1, h2⟩ := shaped_sts ws hw
  have v : viewS (.str (st κ)) M = some (.str (st κ)) := by
    unfold viewS
    rw [show view (.str (st κ)) M = some (.str (st κ)) from rfl]
    dsimp only
    rw [if_pos (shaped_st h)]
  have e : memD (.str (st κ)) b M = match seqOf b M with
    | some ds => if D.plains ds then match viewS (.str (st κ)) M with
        | some x => if SeqAt.shaped (.list (D.pys ds)) then some ((D.pys ds).any fun z => PyData.eqv z x) else none
        | none => none
      else none
    | none => none := by
    rcases hb with rfl | rfl | rfl <;> rfl
  have e2 : seqOf b M = some (ws.map fun w => D.str (st w)) := by rcases hb with rfl | rfl | rfl <;> rfl
  rw [e, e2]
  dsimp only
  rw [if_pos h2, v]
  dsimp only
  rw [if_pos h1, eqv_sts]
theorem m_one {ws : List (List Nat)} {b : D} (hb : b = .tup (ws.map fun w => D.str (st w))) (hw : ws.all okT = true) (hT : T[t]? = some (tkD s κ v)) (hl : T.length < 100000000) (hv : D.vals T = true) (hvv : v.val = true) (ho : okT κ = true) (hM : M[r]? = some (LN T t)) {Q : D → Mem → Prop}
    (h : if κ ∈ ws then Q v (M.set r (LN T (t + 1))) else X "BadText" [("spot", .int (s : Int))] M) : wR (inv (CC (k + 6)) (qual (Str.ofString "Line") (Str.ofString "take_one_of")) [.ref r, b] M) Q X := by
  have hbv : D.vals [b] = true := by
    rw [hb]
    have : ∀ ws : List (List Nat), D.vals (ws.map fun w => D.str (st w)) = true := fun ws => by
      induction ws with
      | nil => rfl
      | cons w ws ih => exact ih
    show (D.vals (ws.map fun w => D.str (st w)) && true) = true
    rw [this]
    rfl
  refine inv_ob (LN_flat hv) hbv hM ?_
  rw [q_one]
  refine C_w k74_l_Line_take_one_of rfl ?_
  show wSs _ k74_b_Line_take_one_of [some (.ref 0), some b] _ _
  unfold k74_b_Line_take_one_of
  array_get_dec
  refine ⟨0, _, ins_LN rfl, lk_none (by decide +kernel) (by decide +kernel), ?_⟩
  array_get_dec
  refine ⟨_, rfl, ?_⟩
  refine m_kind hT hl hv rfl ?_
  array_get_dec
  refine ⟨!decide (κ ∈ ws), by show (memD _ _ _).map not = _; rw [mem_sts (.inl hb) ho hw]; rfl, ?_⟩
  by_cases he : κ ∈ ws
  · rw [if_neg (by simp [he])]
    rw [if_pos he] at h
    array_get_dec
    refine ⟨0, _, ins_LN rfl, lk_none (by decide +kernel) (by decide +kernel), ?_⟩
    array_get_dec
    refine ⟨0, _, ins_LN rfl, lk_none (by decide +kernel) (by decide +kernel), ?_⟩
    array_get_dec
    refine ⟨_, rfl, ?_⟩
    refine m_kind hT hl hv rfl ?_
    array_get_dec
    refine ⟨_, rfl, ?_⟩
    refine m_Ltake hT hl hv hvv ho ho rfl ?_
    rw [if_pos rfl]
    array_get_dec
    exact ⟨LN T (t + 1), [], v, rfl, LN_flat hv, out_val hvv, h⟩
  · rw [if_pos (by simp [he])]
    rw [if_neg he] at h
    array_get_dec
    refine ⟨0, _, ins_LN rfl, lk_none (by decide +kernel) (by decide +kernel), ?_⟩
    array_get_dec
    refine ⟨_, rfl, ?_⟩
    refine m_refuse hT hl hv rfl ?_
    array_get_dec
    exact ⟨_, [], rfl, LN_flat hv, rfl, by rw [set_self hM]; exact h⟩
end
end Z
end
section
set_option Elab.async false
set_option linter.all false
set_option maxRecDepth 100000
set_option maxHeartbeats 1000000
set_option autoImplicit false
/-! Trees of tokens; take_tree, read_tree. -/
namespace Z
open PySem
variable {M : Mem} {X : Ex} {k : Nat} {r : Nat}
/-- one token; rows: the innermost one first; s: 0 behind an opening sign or at the start, 1 behind a tree, 2 behind a comma -/
def bst (rows : List (List D)) (s : Nat) : Tk → Option (List (List D) × Nat)
  | .sg c => if c = 40 then (if s = 1 then none else some ([] :: rows, 0))
      else if c = 41 then (if s = 2 then none else match rows with
        | r1 :: r2 :: rs => some ((r2 ++ [.tup r1]) :: rs, 1)
        | _ => none)
      else if c = 44 then (if s = 1 ∧ 1 < rows.length then some (rows, 2) else none) else none
  | .wd w => if s = 1 then none else match rows with
    | r1 :: rs => some ((r1 ++ [.str (st w)]) :: rs, 1)
    | [] => none
  | .nm w => if s = 1 then none else match rows with
    | r1 :: rs => some ((r1 ++ [.int (nval w)]) :: rs, 1)
    | [] => none
inductive Out where
  | ok (d : D) | bad (n : Nat)
def brn (rows : List (List D)) (s : Nat) : List (Nat × Tk) → Nat × Bool → Out
  | [], e => if e.2 = true ∧ s = 1 then (match rows with
      | [[d]] => .ok d
      | _ => .bad e.1) else .bad e.1
  | (p, t) :: ts, e => match bst rows s t with
    | none => .bad p
    | some (rows', s') => brn rows' s' ts e
/-- what a call that reads a tree gives -/
def outW (R : Out) (Q : D → Prop) (E : Nat → Prop) : Prop := match R with
  | .ok d => Q d
  | .bad n => E n
theorem toks_get {ts : List (Nat × Tk)} {e : Nat × Bool} {t : Nat} (h : t ≤ ts.length) : ∃ s κ v, (ts.map tokD ++ [endD e])[t]? = some (tkD s κ v) ∧ v.val = true ∧ okT κ = true ∧
    ((t = ts.length ∧ ts.drop t = [] ∧ s = e.1 ∧ κ = if e.2 then END else []) ∨ ∃ tk, ts.drop t = (s, tk) :: ts.drop (t + 1) ∧ t < ts.length ∧ κ = kindL tk ∧ v = valD tk) ∨ ∃ (p : Nat) (tk : Tk), ts[t]? = some (p, tk) ∧ okT (kindL tk) = false := by
  by_cases hl : t < ts.length
  · cases ho : okT (kindL ts[t].2) with
    | false => exact ⟨0, [], .non, .inr ⟨ts[t].1, ts[t].2, List.getElem?_eq_getElem hl, ho⟩⟩
    | true =>
      refine ⟨ts[t].1, kindL ts[t].2, valD ts[t].2, .inl ⟨?_, valD_val _, ho, .inr ⟨ts[t].2, List.drop_eq_getElem_cons hl, hl, rfl, rfl⟩⟩⟩
      rw [List.getElem?_append_left (by rw [List.length_map]; exact hl), List.getElem?_map, List.getElem?_eq_getElem hl]
      rfl
  · have e1 : t = ts.length := by omega
    subst e1
    refine ⟨e.1, _, .int 0, .inl ⟨?_, rfl, ?_, .inl ⟨rfl, List.drop_length, rfl, rfl⟩⟩⟩
    · rw [List.getElem?_append_right (by rw [List.length_map]; exact Nat.le_refl _), List.length_map, Nat.sub_self]
      rfl
    · cases e.2 <;> decide
/-- the rows that wait, as they lie: the innermost one first -/
structure Wait (M : Mem) (refs : List Nat) (rows : List (List D)) : Prop where
  len : refs.length = rows.length
  at_ : ∀ (j i : Nat) (row : List D), refs[j]? = some i → rows[j]? = some row → M[i]? = some (.lst row)
  nd : refs.Nodup
  ge : ∀ i ∈ refs, 2 ≤ i ∧ i < M.length
  vals : ∀ row ∈ rows, D.vals row = true
theorem Wait.set {refs : List Nat} {rows : List (List D)} {j : Nat} {o : MO} (h : Wait M refs rows) (hj : j < 2) : Wait (M.set j o) refs rows :=
  ⟨h.len, fun a i row h1 h2 => by
    have := h.ge i (List.mem_of_getElem? h1)
    rw [List.getElem?_set_ne (by omega)]
    exact h.at_ a i row h1 h2, h.nd, fun i hi => by rw [List.length_set]; exact h.ge i hi, h.vals⟩
theorem Wait.tail {i : Nat} {refs : List Nat} {row : List D} {rows : List (List D)} (h : Wait M (i :: refs) (row :: rows)) : Wait M refs rows :=
  ⟨by have := h.len; simpa using this, fun a i' row' h1 h2 => h.at_ (a + 1) i' row' (by simpa using h1) (by simpa using h2), (List.nodup_cons.mp h.nd).2, fun i' hi => h.ge i' (List.mem_cons_of_mem _ hi), fun r hr => h.vals r (List.mem_cons_of_mem _ hr)⟩
theorem Wait.top {i : Nat} {refs : List Nat} {row row' : List D} {rows : List (List D)} (h : Wait M (i :: refs) (row :: rows)) (hv : D.vals row' = true) : Wait (M.set i (.lst row')) (i :: refs) (row' :: rows) := by
  have hi := h.ge i List.mem_cons_self
  refine ⟨h.len, fun a i' r' h1 h2 => ?_, h.nd, fun i' hi' => by rw [List.length_set]; exact h.ge i' hi', fun r hr => ?_⟩
  · cases a with
    | zero =>
      simp at h1 h2
      subst h1 h2
      exact List.getElem?_set_self hi.2
    | succ a =>
      have hne : i ≠ i' := fun z => (List.nodup_cons.mp h.nd).1 (by rw [z]; exact List.mem_of_getElem? (by simpa using h1))
      rw [List.getElem?_set_ne hne]
      exact h.at_ (a + 1) i' r' h1 h2
  · rcases List.mem_cons.mp hr with rfl | hr
    · exact hv
    · exact h.vals r (List.mem_cons_of_mem _ hr)
theorem Wait.push {refs : List Nat} {rows : List (List D)} (h : Wait M refs rows) (hm : 2 ≤ M.length) : Wait (M ++ [.lst []]) (M.length :: refs) ([] :: rows) := by
  refine ⟨by simp [h.len], fun a i r h1 h2 => ?_, List.nodup_cons.mpr ⟨fun z => by have := (h.ge _ z).2; omega, h.nd⟩, fun i hi => ?_, fun r hr => ?_⟩
  · cases a with
    | zero =>
      simp at h1 h2
      subst h1 h2
      rw [List.getElem?_append_right (Nat.le_refl _), Nat.sub_self]
      rfl
    | succ a =>
      have h3 := h.at_ a i r (by simpa using h1) (by simpa using h2)
      rw [List.getElem?_append_left (List.getElem?_eq_some_iff.mp h3).1]
      exact h3
  · rw [List.length_append]
    rcases List.mem_cons.mp hi with rfl | hi
    · simp
      exact hm
    · have := h.ge i hi
      simp
      omega
  · rcases List.mem_cons.mp hr with rfl | hr
    · rfl
    · exact h.vals r hr
/-- a tree that was read is put in -/
def putR (d : D) : List (List D) → List (List D)
  | [] => [[d]]
  | r :: rs => (r ++ [d]) :: (rs ++ [[]])
theorem kind_in {ts : List (List Nat)} {tk : Tk} (h : ∀ w ∈ ts, w.length = 1) : kindL tk ∈ ts → ∃ c, tk = .sg c := by
  intro hm
  cases tk with
  | sg c => exact ⟨c, rfl⟩
  | wd w => exact absurd (h _ hm) (by show ¬ WORD.length = 1; decide)
  | nm w => exact absurd (h _ hm) (by show ¬ INTEGER.length = 1; decide)
theorem op_eq : Str.ofString "(" = st [40] := by decide +kernel
theorem cl_eq : Str.ofString ")" = st [41] := by decide +kernel
theorem co_eq : Str.ofString "," = st [44] := by decide +kernel
local macro_rules | `(tactic| array_mem_dec) => `(tactic| first
  | with_reducible refine vE_c ?_ | with_reducible refine vE_nope ?_ | with_reducible refine vE_var (by with_unfolding_all rfl) ?_ | with_reducible refine vE_bin ?_ | with_reducible refine vE_neg ?_ | with_reducible refine vE_cmp ?_ | with_reducible refine vE_not ?_ | with_reducible refine vE_and ?_ | with_reducible refine vE_or ?_ | with_reducible refine vE_ite ?_
  | with_reducible refine vE_tup ?_ | with_reducible refine vE_lst ?_ | with_reducible refine vE_nil ?_ | with_reducible refine vE_cons ?_ | with_reducible refine vE_idx ?_ | with_reducible refine vE_sli ?_ | with_reducible refine vE_mat ?_ | with_reducible refine vE_call ?_ | with_reducible refine vE_bi (by with_unfolding_all rfl) ?_ | with_reducible refine vE_mth ?_ | with_reducible refine vE_isi ?_ | with_reducible refine vE_att ?_ | with_reducible refine vE_own ?_ | with_reducible refine vE_new (by with_unfolding_all exact Nat.le_of_ble_eq_true rfl) ?_ | with_reducible refine vT_own ?_
  | with_reducible refine vT_nope ?_ | with_reducible refine vT_var (by with_unfolding_all rfl) ?_ | with_reducible refine vT_cmp ?_ | with_reducible refine vT_not ?_ | with_reducible refine vT_and ?_ | with_reducible refine vT_or ?_ | with_reducible refine vT_call ?_ | with_reducible refine vT_bi (by with_unfolding_all rfl) ?_ | with_reducible refine vT_isi ?_ | with_reducible refine vT_idx ?_
  | with_reducible refine vI_seq ?_ | with_reducible refine vI_txt ?_ | with_reducible refine vI_rng ?_
  | with_reducible refine vS_nil ?_ | with_reducible refine vS_skip ?_ | with_reducible refine vS_expr ?_ | with_reducible refine vS_asg ?_ | with_reducible refine vS_asgT ?_ | with_reducible refine vS_sub ?_ | with_reducible refine vS_ret ?_ | with_reducible refine vS_brk ?_ | with_reducible refine vS_cont ?_ | with_reducible refine vS_ife ?_ | with_reducible refine vS_for ?_ | with_reducible refine vS_asgA ?_ | with_reducible refine vS_aug (by with_unfolding_all rfl) ?_ | with_reducible refine vS_augA ?_ | with_reducible refine vS_whl ?_
  | with_reducible refine vaft_nx ?_ | with_reducible refine vaft_rt ?_ | with_reducible refine vaft_bk ?_ | with_reducible refine vaft_ct ?_ | with_reducible refine vturn_nx ?_ | with_reducible refine vturn_ct ?_ | with_reducible refine vturn_bk ?_ | with_reducible refine vturn_rt ?_ | with_reducible refine vfin_rtQ ?_ | with_reducible refine vfin_nxQ ?_ | with_reducible refine vturn_ex ?_ | with_reducible refine vaft_ex ?_ | with_reducible refine vfin_exQ ?_)
local macro_rules | `(tactic| array_get_dec) => `(tactic| repeat (first
  | with_reducible refine vE_c ?_ | with_reducible refine vE_nope ?_ | with_reducible refine vE_var (by with_unfolding_all rfl) ?_ | with_reducible refine vE_bin ?_ | with_reducible refine vE_neg ?_ | with_reducible refine vE_cmp ?_ | with_reducible refine vE_not ?_ | with_reducible refine vE_and ?_ | with_reducible refine vE_or ?_ | with_reducible refine vE_ite ?_
  | with_reducible refine vE_tup ?_ | with_reducible refine vE_lst ?_ | with_reducible refine vE_nil ?_ | with_reducible refine vE_cons ?_ | with_reducible refine vE_idx ?_ | with_reducible refine vE_sli ?_ | with_reducible refine vE_mat ?_ | with_reducible refine vE_call ?_ | with_reducible refine vE_bi (by with_unfolding_all rfl) ?_ | with_reducible refine vE_mth ?_ | with_reducible refine vE_isi ?_ | with_reducible refine vE_att ?_ | with_reducible refine vE_own ?_ | with_reducible refine vE_new (by with_unfolding_all exact Nat.le_of_ble_eq_true rfl) ?_ | with_reducible refine vT_own ?_
  | with_reducible refine vT_nope ?_ | with_reducible refine vT_var (by with_unfolding_all rfl) ?_ | with_reducible refine vT_cmp ?_ | with_reducible refine vT_not ?_ | with_reducible refine vT_and ?_ | with_reducible refine vT_or ?_ | with_reducible refine vT_call ?_ | with_reducible refine vT_bi (by with_unfolding_all rfl) ?_ | with_reducible refine vT_isi ?_ | with_reducible refine vT_idx ?_
  | with_reducible refine vI_seq ?_ | with_reducible refine vI_txt ?_ | with_reducible refine vI_rng ?_
  | with_reducible refine vS_nil ?_ | with_reducible refine vS_skip ?_ | with_reducible refine vS_expr ?_ | with_reducible refine vS_asg ?_ | with_reducible refine vS_asgT ?_ | with_reducible refine vS_sub ?_ | with_reducible refine vS_ret ?_ | with_reducible refine vS_brk ?_ | with_reducible refine vS_cont ?_ | with_reducible refine vS_ife ?_ | with_reducible refine vS_for ?_ | with_reducible refine vS_asgA ?_ | with_reducible refine vS_aug (by with_unfolding_all rfl) ?_ | with_reducible refine vS_augA ?_ | with_reducible refine vS_whl ?_
  | with_reducible refine vaft_nx ?_ | with_reducible refine vaft_rt ?_ | with_reducible refine vaft_bk ?_ | with_reducible refine vaft_ct ?_ | with_reducible refine vturn_nx ?_ | with_reducible refine vturn_ct ?_ | with_reducible refine vturn_bk ?_ | with_reducible refine vturn_rt ?_ | with_reducible refine vfin_rtQ ?_ | with_reducible refine vfin_nxQ ?_ | with_reducible refine vturn_ex ?_ | with_reducible refine vaft_ex ?_ | with_reducible refine vfin_exQ ?_))
theorem m_init {l : List Nat} (hl : l.length ≤ 1000000) (ho : okT l = true) (hd : cntD l ≤ 60) (hM : M[r]? = some (.ins "Line" [])) {Q : D → Mem → Prop}
    (h : Q .non (M.set r (LN ((lexF l 0).1.map tokD ++ [endD (lexF l 0).2]) 0))) : wR (inv (CC (k + 5)) (qual (Str.ofString "Line") (Str.ofString "__init__")) [.ref r, .str (st l)] M) Q X := by
  have hT : D.vals ((lexF l 0).1.map tokD ++ [endD (lexF l 0).2]) = true := vals_app (toks_vals _) rfl
  refine inv_ob rfl rfl hM ?_
  rw [q_init]
  refine C_w k74_l_Line___init__ rfl ?_
  show wSs _ k74_b_Line___init__ [some (.ref 0), some (.str (st l))] _ _
  unfold k74_b_Line___init__
  array_get_dec
  refine ⟨_, rfl, ?_⟩
  refine m_tokens_of hl ho hd ?_
  generalize (lexF l 0).1.map tokD ++ [endD (lexF l 0).2] = T at hT h
  refine ⟨_, rfl, ?_⟩
  array_get_dec
  refine ⟨0, [], by unfold insOf; exact if_pos ⟨rfl, by show 0 < 1000; omega⟩, ?_⟩
  array_get_dec
  refine ⟨_, rfl, ?_⟩
  array_get_dec
  refine ⟨0, [(Str.ofString "tokens", .tl T)], by unfold insOf; exact if_pos ⟨rfl, by show 1 < 1000; omega⟩, ?_⟩
  array_get_dec
  have e : putA (Str.ofString "taken") (D.int 0) [(Str.ofString "tokens", D.tl T)] = [(Str.ofString "tokens", D.tl T), (Str.ofString "taken", D.int ((0 : Nat) : Int))] := by
    unfold putA
    rw [if_neg (by decide +kernel)]
    rfl
  rw [e]
  exact ⟨LN T 0, [], .non, rfl, LN_flat hT, rfl, h⟩
end Z
end
section
set_option Elab.async false
set_option linter.all false
set_option maxRecDepth 100000
set_option maxHeartbeats 1000000
set_option autoImplicit false
/-! take_tree, read_tree. -/
namespace Z
open PySem
variable {M : Mem} {X : Ex} {k : Nat} {r : Nat}
def toksOk (ts : List (Nat × Tk)) : Prop := ∀ p ∈ ts, okT (kindL p.2) = true
theorem lex_ok : ∀ (f pos : Nat) (q : List Nat), toksOk (lex f pos q).1
  | 0, _, _ => fun p hp => by cases hp
  | _ + 1, _, [] => fun p hp => by cases hp
  | f + 1, pos, c :: r => by
    rw [lex_cons]
    split
    · exact lex_ok f _ r
    · split
      · exact fun p hp => by cases hp
      · rename_i t n e
        intro p hp
        rcases List.mem_cons.mp hp with rfl | hp
        · exact (kind_ok e).1
        · exact lex_ok f _ _ p hp
theorem toks_at {ts : List (Nat × Tk)} {e : Nat × Bool} {t : Nat} (hk : toksOk ts) (h : t ≤ ts.length) : ∃ s κ v, (ts.map tokD ++ [endD e])[t]? = some (tkD s κ v) ∧ v.val = true ∧ okT κ = true ∧
    ((t = ts.length ∧ ts.drop t = [] ∧ s = e.1 ∧ κ = if e.2 then END else []) ∨ ∃ tk, ts.drop t = (s, tk) :: ts.drop (t + 1) ∧ t < ts.length ∧ κ = kindL tk ∧ v = valD tk) := by
  obtain ⟨s, κ, v, h1 | ⟨p, tk, h1, h2⟩⟩ := toks_get (e := e) h
  · exact ⟨s, κ, v, h1⟩
  · rw [hk _ (List.mem_of_getElem? h1)] at h2
    cases h2
theorem lst_ok {i : Nat} {row : List D} (h : M[i]? = some (.lst row)) : isLst M i = true := by
  unfold isLst
  rw [h]
theorem last_ix {i : Nat} {es : List D} {x : D} (h : M[i]? = some (.lst (es ++ [x]))) : idxD (.ref i) (.int (-1)) M = some x := by
  have e : seqIndex? (-1) (es ++ [x]).length = some es.length := by
    unfold seqIndex?
    rw [List.length_append]
    simp
    omega
  simp only [idxD, seqOf, h, e]
  rw [if_pos (by decide)]
  rw [List.getElem?_append_right (Nat.le_refl _), Nat.sub_self]
  rfl
theorem tup_ref {i : Nat} {row : List D} (h : M[i]? = some (.lst row)) : biD .tuple [.ref i] M = some (.tup row) := by
  show (seqOf (.ref i) M).map D.tup = _
  unfold seqOf
  dsimp only
  rw [h]
  rfl
theorem arg_val {d : D} (h : d.val = true) : [d].all argOk = true := (refs_vals (ds := [d]) (by show (d.val && true) = true; rw [h]; rfl)).2.1
structure Tst (ts : List (Nat × Tk)) (e : Nat × Bool) (R : Out) (n : Nat) (env : Env) (M : Mem) (t : Nat) (refs : List Nat) (rows : List (List D)) (found : D) : Prop where
  env : env = [some (.ref 0), some (.ref 1), some found]
  ln : M[0]? = some (LN (ts.map tokD ++ [endD e]) t)
  wl : M[1]? = some (MO.lst (refs.reverse.map D.ref))
  w : Wait M refs rows
  n : n = ts.length + 1 - t
  tl : t ≤ ts.length
  few : refs.length ≤ t ∧ ∀ row ∈ rows, row.length ≤ t
  st : (found = .non ∧ ∃ s, (s = 0 ∨ s = 2) ∧ brn (rows ++ [[]]) s (ts.drop t) e = R ∧ (s = 0 → refs ≠ [] → ∀ p rest, ts.drop t ≠ (p, .sg 41) :: rest)) ∨ (found.val = true ∧ found ≠ .non ∧ brn (putR found rows) 1 (ts.drop t) e = R)
theorem non_isD {d : D} (h : d ≠ .non) : isNon d = false := by
  cases d <;> first
    | rfl
    | exact absurd rfl h
theorem brn_some {rows rows' : List (List D)} {s s' p : Nat} {t : Tk} {ts : List (Nat × Tk)} {e : Nat × Bool} (h : bst rows s t = some (rows', s')) : brn rows s ((p, t) :: ts) e = brn rows' s' ts e := by
  show (match bst rows s t with
    | none => Out.bad p
    | some (rows', s') => brn rows' s' ts e) = _
  rw [h]
theorem brn_none {rows : List (List D)} {s p : Nat} {t : Tk} {ts : List (Nat × Tk)} {e : Nat × Bool} (h : bst rows s t = none) : brn rows s ((p, t) :: ts) e = .bad p := by
  show (match bst rows s t with
    | none => Out.bad p
    | some (rows', s') => brn rows' s' ts e) = _
  rw [h]
theorem bst_sg (rows : List (List D)) (s c : Nat) : bst rows s (.sg c) = (if c = 40 then (if s = 1 then none else some ([] :: rows, 0))
      else if c = 41 then (if s = 2 then none else match rows with
        | r1 :: r2 :: rs => some ((r2 ++ [.tup r1]) :: rs, 1)
        | _ => none)
      else if c = 44 then (if s = 1 ∧ 1 < rows.length then some (rows, 2) else none) else none) := rfl
theorem bst_op {rows : List (List D)} {s : Nat} (h : s ≠ 1) : bst rows s (.sg 40) = some ([] :: rows, 0) := by
  rw [bst_sg, if_pos rfl, if_neg h]
theorem bst_cl {rows : List (List D)} {s : Nat} (h : s ≠ 2) : bst rows s (.sg 41) = (match rows with
        | r1 :: r2 :: rs => some ((r2 ++ [.tup r1]) :: rs, 1)
        | _ => none) := by
  rw [bst_sg, if_neg (by decide), if_pos rfl, if_neg h]
theorem bst_co {rows : List (List D)} {s : Nat} (h : s = 1 ∧ 1 < rows.length) : bst rows s (.sg 44) = some (rows, 2) := by
  rw [bst_sg, if_neg (by decide), if_neg (by decide), if_pos rfl, if_pos h]
theorem is_val {d : D} (h : d ≠ .non) : cmpD .is_ d .non M = some false := by
  cases d <;> first
    | rfl
    | exact absurd rfl h
theorem isn_val {d : D} (h : d ≠ .non) : cmpD .isn d .non M = some true := by
  cases d <;> first
    | rfl
    | exact absurd rfl h
local macro_rules | `(tactic| array_mem_dec) => `(tactic| first
  | with_reducible refine vE_c ?_ | with_reducible refine vE_nope ?_ | with_reducible refine vE_var (by with_unfolding_all rfl) ?_ | with_reducible refine vE_bin ?_ | with_reducible refine vE_neg ?_ | with_reducible refine vE_cmp ?_ | with_reducible refine vE_not ?_ | with_reducible refine vE_and ?_ | with_reducible refine vE_or ?_ | with_reducible refine vE_ite ?_
  | with_reducible refine vE_tup ?_ | with_reducible refine vE_lst ?_ | with_reducible refine vE_nil ?_ | with_reducible refine vE_cons ?_ | with_reducible refine vE_idx ?_ | with_reducible refine vE_sli ?_ | with_reducible refine vE_mat ?_ | with_reducible refine vE_call ?_ | with_reducible refine vE_bi (by with_unfolding_all rfl) ?_ | with_reducible refine vE_mth ?_ | with_reducible refine vE_isi ?_ | with_reducible refine vE_att ?_ | with_reducible refine vE_own ?_ | with_reducible refine vE_new (by with_unfolding_all exact Nat.le_of_ble_eq_true rfl) ?_ | with_reducible refine vT_own ?_
  | with_reducible refine vT_nope ?_ | with_reducible refine vT_var (by with_unfolding_all rfl) ?_ | with_reducible refine vT_cmp ?_ | with_reducible refine vT_not ?_ | with_reducible refine vT_and ?_ | with_reducible refine vT_or ?_ | with_reducible refine vT_call ?_ | with_reducible refine vT_bi (by with_unfolding_all rfl) ?_ | with_reducible refine vT_isi ?_ | with_reducible refine vT_idx ?_
  | with_reducible refine vI_seq ?_ | with_reducible refine vI_txt ?_ | with_reducible refine vI_rng ?_
  | with_reducible refine vS_nil ?_ | with_reducible refine vS_skip ?_ | with_reducible refine vS_expr ?_ | with_reducible refine vS_asg ?_ | with_reducible refine vS_asgT ?_ | with_reducible refine vS_sub ?_ | with_reducible refine vS_ret ?_ | with_reducible refine vS_brk ?_ | with_reducible refine vS_cont ?_ | with_reducible refine vS_ife ?_ | with_reducible refine vS_for ?_ | with_reducible refine vS_asgA ?_ | with_reducible refine vS_aug (by with_unfolding_all rfl) ?_ | with_reducible refine vS_augA ?_ | with_reducible refine vS_whl ?_
  | with_reducible refine vaft_nx ?_ | with_reducible refine vaft_rt ?_ | with_reducible refine vaft_bk ?_ | with_reducible refine vaft_ct ?_ | with_reducible refine vturn_nx ?_ | with_reducible refine vturn_ct ?_ | with_reducible refine vturn_bk ?_ | with_reducible refine vturn_rt ?_ | with_reducible refine vfin_rtQ ?_ | with_reducible refine vfin_nxQ ?_ | with_reducible refine vturn_ex ?_ | with_reducible refine vaft_ex ?_ | with_reducible refine vfin_exQ ?_)
local macro_rules | `(tactic| array_get_dec) => `(tactic| repeat (first
  | with_reducible refine vE_c ?_ | with_reducible refine vE_nope ?_ | with_reducible refine vE_var (by with_unfolding_all rfl) ?_ | with_reducible refine vE_bin ?_ | with_reducible refine vE_neg ?_ | with_reducible refine vE_cmp ?_ | with_reducible refine vE_not ?_ | with_reducible refine vE_and ?_ | with_reducible refine vE_or ?_ | with_reducible refine vE_ite ?_
  | with_reducible refine vE_tup ?_ | with_reducible refine vE_lst ?_ | with_reducible refine vE_nil ?_ | with_reducible refine vE_cons ?_ | with_reducible refine vE_idx ?_ | with_reducible refine vE_sli ?_ | with_reducible refine vE_mat ?_ | with_reducible refine vE_call ?_ | with_reducible refine vE_bi (by with_unfolding_all rfl) ?_ | with_reducible refine vE_mth ?_ | with_reducible refine vE_isi ?_ | with_reducible refine vE_att ?_ | with_reducible refine vE_own ?_ | with_reducible refine vE_new (by with_unfolding_all exact Nat.le_of_ble_eq_true rfl) ?_ | with_reducible refine vT_own ?_
  | with_reducible refine vT_nope ?_ | with_reducible refine vT_var (by with_unfolding_all rfl) ?_ | with_reducible refine vT_cmp ?_ | with_reducible refine vT_not ?_ | with_reducible refine vT_and ?_ | with_reducible refine vT_or ?_ | with_reducible refine vT_call ?_ | with_reducible refine vT_bi (by with_unfolding_all rfl) ?_ | with_reducible refine vT_isi ?_ | with_reducible refine vT_idx ?_
  | with_reducible refine vI_seq ?_ | with_reducible refine vI_txt ?_ | with_reducible refine vI_rng ?_
  | with_reducible refine vS_nil ?_ | with_reducible refine vS_skip ?_ | with_reducible refine vS_expr ?_ | with_reducible refine vS_asg ?_ | with_reducible refine vS_asgT ?_ | with_reducible refine vS_sub ?_ | with_reducible refine vS_ret ?_ | with_reducible refine vS_brk ?_ | with_reducible refine vS_cont ?_ | with_reducible refine vS_ife ?_ | with_reducible refine vS_for ?_ | with_reducible refine vS_asgA ?_ | with_reducible refine vS_aug (by with_unfolding_all rfl) ?_ | with_reducible refine vS_augA ?_ | with_reducible refine vS_whl ?_
  | with_reducible refine vaft_nx ?_ | with_reducible refine vaft_rt ?_ | with_reducible refine vaft_bk ?_ | with_reducible refine vaft_ct ?_ | with_reducible refine vturn_nx ?_ | with_reducible refine vturn_ct ?_ | with_reducible refine vturn_bk ?_ | with_reducible refine vturn_rt ?_ | with_reducible refine vfin_rtQ ?_ | with_reducible refine vfin_nxQ ?_ | with_reducible refine vturn_ex ?_ | with_reducible refine vaft_ex ?_ | with_reducible refine vfin_exQ ?_))
theorem m_take_tree {ts : List (Nat × Tk)} {e : Nat × Bool} (hk : toksOk ts) (hl : ts.length ≤ 1000000) (hM : M[r]? = some (LN (ts.map tokD ++ [endD e]) 0)) {Q : D → Mem → Prop}
    (h : ∀ d t, d.val = true → t ≤ ts.length → brn [[d]] 1 (ts.drop t) e = brn [[]] 0 ts e → Q d (M.set r (LN (ts.map tokD ++ [endD e]) t)))
    (hx : ∀ n t, brn [[]] 0 ts e = .bad n → X "BadText" [("spot", .int (n : Int))] (M.set r (LN (ts.map tokD ++ [endD e]) t))) : wR (inv (CC (k + 7)) "take_tree" [.ref r] M) Q X := by
  have hT : D.vals (ts.map tokD ++ [endD e]) = true := vals_app (toks_vals _) rfl
  have hTl : (ts.map tokD ++ [endD e]).length < 100000000 := by
    rw [List.length_append, List.length_map]
    show ts.length + 1 < _
    omega
  refine inv_ob (LN_flat hT) rfl hM ?_
  refine C_w k74_l_take_tree rfl ?_
  show wSs _ k74_b_take_tree [some (.ref 0), none, none] _ _
  unfold k74_b_take_tree
  rw [op_eq, cl_eq, co_eq, wo_eq, in_eq]
  generalize hR : brn [[]] 0 ts e = R at h hx
  -- a token refused
  have bad : ∀ {M2 : Mem} {t n : Nat}, M2[0]? = some (LN (ts.map tokD ++ [endD e]) t) → R = .bad n → ∃ o' Mx, M2 = o' :: Mx ∧ flat o' = true ∧ ([("spot", .int (n : Int))] : List (Str × D)).all (fun q => q.2.val) = true ∧ X "BadText" [("spot", .int (n : Int))] (M.set r o') := fun {M2 t n} h1 h2 => by
    cases M2 with
    | nil => cases h1
    | cons a Mx =>
      cases h1
      exact ⟨_, Mx, rfl, LN_flat hT, rfl, hx n t h2⟩
  array_get_dec
  refine ⟨_, rfl, Nat.zero_le _, ?_⟩
  refine ⟨_, rfl, ?_⟩
  refine ⟨_, rfl, ?_⟩
  array_get_dec
  refine ⟨_, rfl, ?_⟩
  array_get_dec
  refine ⟨fun n env M => ∃ t refs rows found, Tst ts e R n env M t refs rows found, ⟨_, 0, [], [], .non, rfl, rfl, rfl, ⟨rfl, fun j i row h1 => (by simp at h1), List.nodup_nil, fun i hi => (by cases hi), fun r hr => (by cases hr)⟩, rfl, Nat.zero_le _, ⟨Nat.zero_le _, fun r hr => (by cases hr)⟩, .inl ⟨rfl, 0, .inl rfl, hR, fun _ z => absurd rfl z⟩⟩, ?_⟩
  rintro n env M2 ⟨t, refs, rows, found, rfl, hln, hwl, hw, rfl, ht, hfew, hst⟩
  obtain ⟨sp, κ, v, hTt, hvv, hok, htok⟩ := toks_at (e := e) hk ht
  array_get_dec
  rcases hst with ⟨rfl, s, hs, hb, hc⟩ | ⟨hfv, hfn, hb⟩
  · -- nothing found as yet
    refine ⟨true, rfl, ?_⟩
    rw [if_pos rfl, if_pos rfl]
    array_get_dec
    refine ⟨false, rfl, ?_⟩
    rw [if_neg Bool.false_ne_true]
    array_get_dec
    refine ⟨0, _, ins_LN hln, lk_none (by decide +kernel) (by decide +kernel), ?_⟩
    array_get_dec
    refine ⟨_, rfl, ?_⟩
    refine m_kind hTt hTl hT hln ?_
    array_get_dec
    refine ⟨_, cmpeq_st hok (by decide), ?_⟩
    by_cases h40 : κ = [40]
    · rw [if_pos (by simpa using h40)]
      -- an opening sign
      rcases htok with ⟨he, _, _, hκ⟩ | ⟨tk, hd, hlt, hκ, hv⟩
      · exfalso
        rw [hκ] at h40
        revert h40
        cases e.2 <;> decide
      obtain ⟨c, rfl⟩ : ∃ c, tk = .sg c := by
        cases tk with
        | sg c => exact ⟨c, rfl⟩
        | wd w => exact absurd (hκ.symm.trans h40) (by show ¬ WORD = [40]; decide)
        | nm w => exact absurd (hκ.symm.trans h40) (by show ¬ INTEGER = [40]; decide)
      have hc40 : c = 40 := by
        have : [c] = [40] := hκ.symm.trans h40
        exact (List.cons.inj this).1
      subst hc40
      subst h40
      array_get_dec
      refine ⟨0, _, ins_LN hln, lk_none (by decide +kernel) (by decide +kernel), ?_⟩
      array_get_dec
      refine ⟨_, rfl, ?_⟩
      refine m_Ltake hTt hTl hT hvv hok (by decide) hln ?_
      rw [if_pos rfl]
      array_get_dec
      have h0 := (List.getElem?_eq_some_iff.mp hln).1
      have hm2 : 2 ≤ M2.length := (List.getElem?_eq_some_iff.mp hwl).1
      -- behind the sign
      have hln1 : (M2.set 0 (LN (ts.map tokD ++ [endD e]) (t + 1)))[0]? = some (LN (ts.map tokD ++ [endD e]) (t + 1)) := List.getElem?_set_self h0
      have hwl1 : (M2.set 0 (LN (ts.map tokD ++ [endD e]) (t + 1)))[1]? = some (MO.lst (refs.reverse.map D.ref)) := by
        rw [List.getElem?_set_ne (by decide)]
        exact hwl
      have hw1 := hw.set (o := LN (ts.map tokD ++ [endD e]) (t + 1)) (j := 0) (by decide)
      have hl1 : (M2.set 0 (LN (ts.map tokD ++ [endD e]) (t + 1))).length = M2.length := List.length_set
      generalize M2.set 0 (LN (ts.map tokD ++ [endD e]) (t + 1)) = M3 at hln1 hwl1 hw1 hl1 ⊢
      have hw2 := hw1.push (by omega)
      have hln2 : (M3 ++ [MO.lst []])[0]? = some (LN (ts.map tokD ++ [endD e]) (t + 1)) := by
        rw [List.getElem?_append_left (by omega)]
        exact hln1
      have hwl2 : (M3 ++ [MO.lst []])[1]? = some (MO.lst (refs.reverse.map D.ref)) := by
        rw [List.getElem?_append_left (by omega)]
        exact hwl1
      refine ⟨lst_ok hwl1, ?_⟩
      array_get_dec
      refine ⟨_, rfl, Nat.zero_le _, ?_⟩
      refine ⟨_, rfl, ?_⟩
      array_get_dec
      refine ⟨_, rfl, rfl, .non, _, app_end hwl2 (by rw [List.length_map, List.length_reverse]; omega), ?_⟩
      have hln3 : ((M3 ++ [MO.lst []]).set 1 (MO.lst (refs.reverse.map D.ref ++ [D.ref M3.length])))[0]? = some (LN (ts.map tokD ++ [endD e]) (t + 1)) := by
        rw [List.getElem?_set_ne (by decide)]
        exact hln2
      have hwl3 : ((M3 ++ [MO.lst []]).set 1 (MO.lst (refs.reverse.map D.ref ++ [D.ref M3.length])))[1]? = some (MO.lst (refs.reverse.map D.ref ++ [D.ref M3.length])) := List.getElem?_set_self (List.getElem?_eq_some_iff.mp hwl2).1
      have hw3 := hw2.set (o := .lst (refs.reverse.map .ref ++ [.ref M3.length])) (j := 1) (by decide)
      generalize (M3 ++ [MO.lst []]).set 1 (MO.lst (refs.reverse.map D.ref ++ [D.ref M3.length])) = M4 at hln3 hwl3 hw3 ⊢
      have hb1 : brn ([] :: (rows ++ [[]])) 0 (ts.drop (t + 1)) e = R := by
        rw [← hb, hd, brn_some (bst_op (by omega))]
      obtain ⟨sp2, κ2, v2, hTt2, hvv2, hok2, htok2⟩ := toks_at (e := e) (t := t + 1) hk (by omega)
      array_get_dec
      refine ⟨0, _, ins_LN hln3, lk_none (by decide +kernel) (by decide +kernel), ?_⟩
      array_get_dec
      refine ⟨_, rfl, ?_⟩
      refine m_kind hTt2 hTl hT hln3 ?_
      array_get_dec
      refine ⟨_, cmpeq_st hok2 (by decide), ?_⟩
      by_cases h41 : κ2 = [41]
      · rw [if_pos (by simpa using h41)]
        rcases htok2 with ⟨he2, _, _, hκ2⟩ | ⟨tk2, hd2, hlt2, hκ2, hv2⟩
        · exfalso
          rw [hκ2] at h41
          revert h41
          cases e.2 <;> decide
        obtain ⟨c2, rfl⟩ : ∃ c, tk2 = .sg c := by
          cases tk2 with
          | sg c => exact ⟨c, rfl⟩
          | wd w => exact absurd (hκ2.symm.trans h41) (by show ¬ WORD = [41]; decide)
          | nm w => exact absurd (hκ2.symm.trans h41) (by show ¬ INTEGER = [41]; decide)
        have hc41 : c2 = 41 := by
          have : [c2] = [41] := hκ2.symm.trans h41
          exact (List.cons.inj this).1
        subst hc41
        subst h41
        array_get_dec
        refine ⟨0, _, ins_LN hln3, lk_none (by decide +kernel) (by decide +kernel), ?_⟩
        array_get_dec
        refine ⟨_, rfl, ?_⟩
        refine m_Ltake hTt2 hTl hT hvv2 hok2 (by decide) hln3 ?_
        rw [if_pos rfl]
        array_get_dec
        have hl4 := (List.getElem?_eq_some_iff.mp hln3).1
        have hln5 : (M4.set 0 (LN (ts.map tokD ++ [endD e]) (t + 1 + 1)))[0]? = some (LN (ts.map tokD ++ [endD e]) (t + 1 + 1)) := List.getElem?_set_self hl4
        have hwl5 : (M4.set 0 (LN (ts.map tokD ++ [endD e]) (t + 1 + 1)))[1]? = some (MO.lst (refs.reverse.map D.ref ++ [D.ref M3.length])) := by
          rw [List.getElem?_set_ne (by decide)]
          exact hwl3
        have hw5 := hw3.set (o := LN (ts.map tokD ++ [endD e]) (t + 1 + 1)) (j := 0) (by decide)
        generalize M4.set 0 (LN (ts.map tokD ++ [endD e]) (t + 1 + 1)) = M5 at hln5 hwl5 hw5 ⊢
        refine ⟨lst_ok hwl5, ?_⟩
        array_get_dec
        refine ⟨_, rfl, rfl, _, _, pop_last hwl5, ?_⟩
        have hln6 : (M5.set 1 (MO.lst (refs.reverse.map D.ref)))[0]? = some (LN (ts.map tokD ++ [endD e]) (t + 1 + 1)) := by
          rw [List.getElem?_set_ne (by decide)]
          exact hln5
        have hwl6 : (M5.set 1 (MO.lst (refs.reverse.map D.ref)))[1]? = some (MO.lst (refs.reverse.map D.ref)) := List.getElem?_set_self (List.getElem?_eq_some_iff.mp hwl5).1
        have hw6 := hw5.set (o := MO.lst (refs.reverse.map D.ref)) (j := 1) (by decide)
        have htop := hw6.at_ 0 M3.length [] rfl rfl
        generalize M5.set 1 (MO.lst (refs.reverse.map D.ref)) = M6 at hln6 hwl6 hw6 htop ⊢
        array_get_dec
        refine ⟨_, tup_ref htop, ?_⟩
        array_get_dec
        refine ⟨_, rfl, ?_⟩
        array_get_dec
        have hb2 : brn (putR (.tup []) rows) 1 (ts.drop (t + 1 + 1)) e = R := by
          rw [← hb1, hd2]
          refine (brn_some ((bst_cl (by decide)).trans ?_)).symm
          cases rows <;> rfl
        exact ⟨ts.length + 1 - (t + 1 + 1), by omega, t + 1 + 1, refs, rows, .tup [], rfl, hln6, hwl6, hw6.tail, rfl, by omega, ⟨by omega, fun row hr => by have := hfew.2 row hr; omega⟩, .inr ⟨rfl, fun z => (nomatch z), hb2⟩⟩
      · rw [if_neg (by simpa using h41)]
        array_get_dec
        refine ⟨ts.length + 1 - (t + 1), by omega, t + 1, M3.length :: refs, [] :: rows, .non, rfl, hln3, ?_, hw3, rfl, by omega, ⟨by rw [List.length_cons]; omega, fun row hr => ?_⟩, .inl ⟨rfl, 0, .inl rfl, hb1, fun _ _ p rest z => ?_⟩⟩
        · rw [List.reverse_cons, List.map_append]
          exact hwl3
        · rcases List.mem_cons.mp hr with rfl | hr
          · exact Nat.zero_le _
          · have := hfew.2 row hr
            omega
        · rcases htok2 with ⟨_, hd2, _, _⟩ | ⟨tk2, hd2, _, hκ2, _⟩
          · rw [hd2] at z
            cases z
          · rw [hd2] at z
            cases z
            exact h41 hκ2
    · rw [if_neg (by simpa using h40)]
      array_get_dec
      refine ⟨0, _, ins_LN hln, lk_none (by decide +kernel) (by decide +kernel), ?_⟩
      array_get_dec
      refine ⟨_, rfl, Nat.le_of_ble_eq_true rfl, ?_⟩
      array_get_dec
      refine ⟨_, rfl, ?_⟩
      refine m_one (ws := [INTEGER, WORD]) rfl (by decide) hTt hTl hT hvv hok hln ?_
      by_cases hin : κ ∈ [INTEGER, WORD]
      · rw [if_pos hin]
        refine ⟨_, frz_val hvv, ?_⟩
        array_get_dec
        rcases htok with ⟨he, _, _, hκ⟩ | ⟨tk, hd, hlt, hκ, hv⟩
        · exfalso
          rw [hκ] at hin
          revert hin
          cases e.2 <;> decide
        · have hvn : v ≠ .non := by
            rw [hv]
            cases tk <;> exact fun z => nomatch z
          have hbst : bst (rows ++ [[]]) s tk = some (putR v rows, 1) := by
            have s1 : s ≠ 1 := by omega
            have key : ∀ d : D, (match rows ++ [[]] with
                | r1 :: rs => some ((r1 ++ [d]) :: rs, 1)
                | [] => none) = some (putR d rows, 1) := fun d => by
              cases rows <;> rfl
            cases tk with
            | sg c =>
              exfalso
              rw [hκ] at hin
              simp only [List.mem_cons, List.not_mem_nil, or_false] at hin
              rcases hin with z | z
              · exact absurd (congrArg List.length z) (by show ¬ 1 = INTEGER.length; decide)
              · exact absurd (congrArg List.length z) (by show ¬ 1 = WORD.length; decide)
            | wd w =>
              show (if s = 1 then none else _) = _
              rw [if_neg s1, hv]
              exact key _
            | nm w =>
              show (if s = 1 then none else _) = _
              rw [if_neg s1, hv]
              exact key _
          rw [hd] at hb
          have hb2 : brn (putR v rows) 1 (ts.drop (t + 1)) e = R := by
            rw [← hb]
            exact (brn_some hbst).symm
          refine ⟨ts.length + 1 - (t + 1), by omega, t + 1, refs, rows, v, rfl, ?_, ?_, hw.set (by decide), rfl, by omega, ⟨by omega, fun row hr => by have := hfew.2 row hr; omega⟩, .inr ⟨hvv, hvn, hb2⟩⟩
          · exact List.getElem?_set_self (List.getElem?_eq_some_iff.mp hln).1
          · rw [List.getElem?_set_ne (by decide)]
            exact hwl
      · rw [if_neg hin]
        array_get_dec
        refine bad hln ?_
        rw [← hb]
        rcases htok with ⟨he, hd, hs1, hκ⟩ | ⟨tk, hd, hlt, hκ, hv⟩
        · rw [hd, hs1]
          show (if e.2 = true ∧ s = 1 then _ else Out.bad e.1) = _
          rw [if_neg (by omega)]
        · rw [hd]
          show (match bst (rows ++ [[]]) s tk with
            | none => Out.bad sp
            | some (rows', s') => brn rows' s' (ts.drop (t + 1)) e) = _
          have hn : bst (rows ++ [[]]) s tk = none := by
            cases tk with
            | sg c =>
              have c40 : c ≠ 40 := fun z => h40 (by rw [hκ, z]; rfl)
              show (if c = 40 then _ else if c = 41 then _ else if c = 44 then _ else none) = none
              rw [if_neg c40]
              by_cases c41 : c = 41
              · rw [if_pos c41]
                by_cases s2 : s = 2
                · rw [if_pos s2]
                · rw [if_neg s2]
                  have s0 : s = 0 := by omega
                  cases rows with
                  | nil => rfl
                  | cons row rows =>
                    have hne : refs ≠ [] := fun z => by
                      have := hw.len
                      rw [z] at this
                      cases this
                    exact absurd hd (by rw [c41]; exact hc s0 hne _ _)
              · rw [if_neg c41]
                by_cases c44 : c = 44
                · rw [if_pos c44, if_neg (by omega)]
                · rw [if_neg c44]
            | wd w => exact absurd (by rw [hκ]; simp [kindL]) hin
            | nm w => exact absurd (by rw [hκ]; simp [kindL]) hin
          rw [hn]
  · -- a tree is found
    array_get_dec
    refine ⟨false, is_val hfn, ?_⟩
    rw [if_neg Bool.false_ne_true]
    array_get_dec
    refine ⟨_, len_ref hwl, ?_⟩
    array_get_dec
    refine ⟨_, rfl, ?_⟩
    cases refs with
    | nil =>
      have hr0 : rows = [] := List.length_eq_zero_iff.mp hw.len.symm
      subst hr0
      rw [if_neg (by decide)]
      array_get_dec
      obtain ⟨a, Mx, rfl⟩ : ∃ a Mx, M2 = a :: Mx := by
        cases M2 with
        | nil => cases hln
        | cons a Mx => exact ⟨a, Mx, rfl⟩
      cases hln
      exact ⟨_, Mx, found, rfl, LN_flat hT, out_val hfv, h found t hfv ht hb⟩
    | cons i refs =>
      cases rows with
      | nil => exact absurd hw.len (by simp)
      | cons row rows =>
        rw [if_pos (by simp)]
        array_get_dec
        refine ⟨_, isn_val hfn, ?_⟩
        rw [if_pos rfl]
        array_get_dec
        have hi := hw.at_ 0 i row rfl rfl
        have hge := hw.ge i List.mem_cons_self
        have hrv : D.vals (row ++ [found]) = true := vals_app (hw.vals row List.mem_cons_self) (by show (found.val && true) = true; rw [hfv]; rfl)
        have hwl' : M2[1]? = some (MO.lst (refs.reverse.map D.ref ++ [D.ref i])) := by
          rw [hwl, List.reverse_cons, List.map_append]
          rfl
        refine ⟨1, rfl, D.ref i, last_ix hwl', lst_ok hi, ?_⟩
        array_get_dec
        refine ⟨_, frzs_vals (ds := [found]) (by show (found.val && true) = true; rw [hfv]; rfl), arg_val hfv, .non, _, app_end hi (by have := hfew.2 row List.mem_cons_self; omega), ?_⟩
        have hw1 := hw.top (row' := row ++ [found]) hrv
        have hln1 : (M2.set i (.lst (row ++ [found])))[0]? = some (LN (ts.map tokD ++ [endD e]) t) := by
          rw [List.getElem?_set_ne (by omega)]
          exact hln
        have hwl1 : (M2.set i (.lst (row ++ [found])))[1]? = some (MO.lst (refs.reverse.map D.ref ++ [D.ref i])) := by
          rw [List.getElem?_set_ne (by omega)]
          exact hwl'
        generalize M2.set i (.lst (row ++ [found])) = M3 at hw1 hln1 hwl1 ⊢
        array_get_dec
        refine ⟨_, rfl, ?_⟩
        array_get_dec
        refine ⟨0, _, ins_LN hln1, lk_none (by decide +kernel) (by decide +kernel), ?_⟩
        array_get_dec
        refine ⟨_, rfl, Nat.le_of_ble_eq_true rfl, ?_⟩
        array_get_dec
        refine ⟨_, rfl, ?_⟩
        refine m_one (ws := [[44], [41]]) rfl (by decide) hTt hTl hT hvv hok hln1 ?_
        by_cases hin : κ ∈ [[44], [41]]
        · rw [if_pos hin]
          rcases htok with ⟨he, _, _, hκ⟩ | ⟨tk, hd, hlt, hκ, hv⟩
          · exfalso
            rw [hκ] at hin
            revert hin
            cases e.2 <;> decide
          obtain ⟨c, rfl⟩ := kind_in (ts := [[44], [41]]) (by decide) (hκ ▸ hin)
          have hκc : κ = [c] := hκ
          have hvc : v = .str (st [c]) := hv
          subst hκc hvc
          have h0 := (List.getElem?_eq_some_iff.mp hln1).1
          have hln2 : (M3.set 0 (LN (ts.map tokD ++ [endD e]) (t + 1)))[0]? = some (LN (ts.map tokD ++ [endD e]) (t + 1)) := List.getElem?_set_self h0
          have hwl2 : (M3.set 0 (LN (ts.map tokD ++ [endD e]) (t + 1)))[1]? = some (MO.lst (refs.reverse.map D.ref ++ [D.ref i])) := by
            rw [List.getElem?_set_ne (by decide)]
            exact hwl1
          have hw2 := hw1.set (o := LN (ts.map tokD ++ [endD e]) (t + 1)) (j := 0) (by decide)
          generalize M3.set 0 (LN (ts.map tokD ++ [endD e]) (t + 1)) = M4 at hln2 hwl2 hw2 ⊢
          rw [hd] at hb
          array_get_dec
          refine ⟨_, cmpeq_st hok (by decide), ?_⟩
          by_cases h41 : c = 41
          · subst h41
            rw [if_pos (by decide)]
            array_get_dec
            refine ⟨lst_ok hwl2, ?_⟩
            array_get_dec
            refine ⟨_, rfl, rfl, _, _, pop_last hwl2, ?_⟩
            have hln3 : (M4.set 1 (MO.lst (refs.reverse.map D.ref)))[0]? = some (LN (ts.map tokD ++ [endD e]) (t + 1)) := by
              rw [List.getElem?_set_ne (by decide)]
              exact hln2
            have hwl3 : (M4.set 1 (MO.lst (refs.reverse.map D.ref)))[1]? = some (MO.lst (refs.reverse.map D.ref)) := List.getElem?_set_self (List.getElem?_eq_some_iff.mp hwl2).1
            have hw3 := hw2.set (o := MO.lst (refs.reverse.map D.ref)) (j := 1) (by decide)
            have htop := hw3.at_ 0 i (row ++ [found]) rfl rfl
            generalize M4.set 1 (MO.lst (refs.reverse.map D.ref)) = M5 at hln3 hwl3 hw3 htop ⊢
            array_get_dec
            refine ⟨_, tup_ref htop, ?_⟩
            array_get_dec
            refine ⟨_, frz_val (show (D.tup (row ++ [found])).val = true from hrv), ?_⟩
            array_get_dec
            have hb2 : brn (putR (.tup (row ++ [found])) rows) 1 (ts.drop (t + 1)) e = R := by
              rw [← hb]
              refine (brn_some ((bst_cl (by decide)).trans ?_)).symm
              cases rows <;> rfl
            exact ⟨ts.length + 1 - (t + 1), by omega, t + 1, refs, rows, .tup (row ++ [found]), rfl, hln3, hwl3, hw3.tail, rfl, by omega, ⟨by have := hfew.1; simp at this; omega, fun row' hr => by have := hfew.2 row' (List.mem_cons_of_mem _ hr); omega⟩, .inr ⟨hrv, fun z => (nomatch z), hb2⟩⟩
          · have h44 : c = 44 := by
              simp only [List.mem_cons, List.not_mem_nil, or_false] at hin
              rcases hin with z | z
              · exact (List.cons.inj z).1
              · exact absurd (List.cons.inj z).1 h41
            subst h44
            rw [if_neg (by decide)]
            array_get_dec
            rw [show putR found (row :: rows) = (row ++ [found]) :: (rows ++ [[]]) from rfl, brn_some (bst_co ⟨rfl, by simp⟩)] at hb
            refine ⟨ts.length + 1 - (t + 1), by omega, t + 1, i :: refs, (row ++ [found]) :: rows, .non, rfl, hln2, ?_, hw2, rfl, by omega, ⟨by have := hfew.1; omega, fun row' hr => ?_⟩, .inl ⟨rfl, 2, .inr rfl, hb, fun z => absurd z (by decide)⟩⟩
            · rw [List.reverse_cons, List.map_append]
              exact hwl2
            · rcases List.mem_cons.mp hr with rfl | hr
              · have := hfew.2 row List.mem_cons_self
                simp
                omega
              · have := hfew.2 row' (List.mem_cons_of_mem _ hr)
                omega
        · rw [if_neg hin]
          array_get_dec
          refine bad hln1 ?_
          rw [← hb]
          rcases htok with ⟨he, hd, hs1, hκ⟩ | ⟨tk, hd, hlt, hκ, hv⟩
          · rw [hd, hs1]
            show (if e.2 = true ∧ 1 = 1 then (match putR found (row :: rows) with
              | [[d]] => Out.ok d
              | _ => Out.bad e.1) else Out.bad e.1) = _
            split
            · rcases row with _ | ⟨a, _ | ⟨b, row⟩⟩ <;> cases rows <;> rfl
            · rfl
          · rw [hd]
            refine brn_none ?_
            cases tk with
            | sg c =>
              have c41 : c ≠ 41 := fun z => hin (by rw [hκ, z]; simp [kindL])
              have c44 : c ≠ 44 := fun z => hin (by rw [hκ, z]; simp [kindL])
              rw [bst_sg, if_neg c41, if_neg c44]
              split <;> rfl
            | wd w => rfl
            | nm w => rfl
theorem lex_len : ∀ (f pos : Nat) (q : List Nat), (lex f pos q).1.length ≤ f
  | 0, _, _ => Nat.le_refl _
  | _ + 1, _, [] => Nat.zero_le _
  | f + 1, pos, c :: r => by
    rw [lex_cons]
    split
    · exact Nat.le_succ_of_le (lex_len f _ r)
    · split
      · exact Nat.zero_le _
      · exact Nat.succ_le_succ (lex_len f _ _)
theorem m_read_tree {l : List Nat} (hl : l.length ≤ 1000000) (ho : okT l = true) (hd : cntD l ≤ 60) {Q : D → Mem → Prop}
    (h : ∀ d, d.val = true → brn [[]] 0 (lexF l 0).1 (lexF l 0).2 = .ok d → Q d M)
    (hx : ∀ n, brn [[]] 0 (lexF l 0).1 (lexF l 0).2 = .bad n → X "BadText" [("spot", .int (n : Int))] M) : wR (inv (CC (k + 9)) "read_tree" [.str (st l)] M) Q X := by
  refine inv_vX rfl ?_
  refine C_w k74_l_read_tree rfl ?_
  show wSs _ k74_b_read_tree [some (.str (st l)), none, none] _ _
  unfold k74_b_read_tree
  array_get_dec
  refine ⟨_, rfl, ?_⟩
  refine m_init (k := k + 2) hl ho hd rfl ?_
  generalize hlx : lexF l 0 = L at h hx ⊢
  obtain ⟨ts, e⟩ := L
  dsimp only at h hx ⊢
  have hk : toksOk ts := by
    have := lex_ok l.length 0 (l.drop 0)
    have e1 : lex l.length 0 (l.drop 0) = (ts, e) := hlx
    rw [e1] at this
    exact this
  have hln : ts.length ≤ 1000000 := by
    have := lex_len l.length 0 (l.drop 0)
    have e1 : lex l.length 0 (l.drop 0) = (ts, e) := hlx
    rw [e1] at this
    exact Nat.le_trans this hl
  have hT : D.vals (ts.map tokD ++ [endD e]) = true := vals_app (toks_vals _) rfl
  have hTl : (ts.map tokD ++ [endD e]).length < 100000000 := by
    rw [List.length_append, List.length_map]
    show ts.length + 1 < _
    omega
  refine ⟨rfl, ?_⟩
  refine ⟨_, rfl, ?_⟩
  array_get_dec
  refine ⟨_, rfl, ?_⟩
  refine m_take_tree (k := k + 1) hk hln (r := 0) rfl ?_ ?_
  · intro d t hdv ht hb
    refine ⟨_, frz_val hdv, ?_⟩
    array_get_dec
    refine ⟨0, _, ins_LN rfl, lk_none (by decide +kernel) (by decide +kernel), ?_⟩
    array_get_dec
    refine ⟨_, rfl, ?_⟩
    rw [show Str.ofString "end" = st END from by decide +kernel]
    obtain ⟨sp, κ, v, hTt, hvv, hok, htok⟩ := toks_at (e := e) hk ht
    refine m_Ltake (k := k + 3) hTt hTl hT hvv hok (by decide) (r := 0) rfl ?_
    rw [← hb] at h hx
    rcases htok with ⟨he, hd0, hs1, hκ⟩ | ⟨tk, hd0, hlt, hκ, hv⟩
    · rw [hd0] at h hx
      cases h2 : e.2 with
      | true =>
        rw [hκ, h2, if_pos rfl, if_pos rfl]
        array_get_dec
        refine ⟨d, out_val hdv, h d hdv ?_⟩
        show (if e.2 = true ∧ 1 = 1 then Out.ok d else Out.bad e.1) = _
        rw [if_pos ⟨h2, rfl⟩]
      | false =>
        rw [hκ, h2, if_neg Bool.false_ne_true, if_neg (by decide)]
        array_get_dec
        refine ⟨rfl, ?_⟩
        rw [hs1]
        refine hx _ ?_
        show (if e.2 = true ∧ 1 = 1 then Out.ok d else Out.bad e.1) = _
        rw [if_neg (by rw [h2]; simp)]
    · rw [hd0] at h hx
      have hne : κ ≠ END := by
        rw [hκ]
        cases tk with
        | sg c => exact fun z => absurd (congrArg List.length z) (by show ¬ 1 = END.length; decide)
        | wd w => show ¬ WORD = END; decide
        | nm w => show ¬ INTEGER = END; decide
      rw [if_neg hne]
      array_get_dec
      refine ⟨rfl, hx _ (brn_none ?_)⟩
      cases tk with
      | sg c =>
        rw [bst_sg]
        split
        · rfl
        · split
          · rfl
          · split <;> rfl
      | wd w => rfl
      | nm w => rfl
  · intro n t hb
    array_get_dec
    exact ⟨rfl, hx n hb⟩
end Z
end
section
set_option Elab.async false
set_option linter.all false
set_option maxRecDepth 100000
set_option maxHeartbeats 1000000
set_option autoImplicit false
/-! the law's reader: _law_run, _law_tokens. -/
namespace Z
open PySem
variable {M : Mem} {X : Ex} {k : Nat} {r : Nat}
theorem nmem_st {c : Nat} {w : List Nat} : cmpD .nmem (.str (st [c])) (.str (st w)) M = some (!decide (c ∈ w)) := by
  show (memD (.str (st [c])) (.str (st w)) M).map not = _
  rw [mem_st]
  rfl
theorem rng_ok {n : Nat} (h : n ≤ 16777216) : rngOk 0 (n : Int) = true := by
  unfold rngOk
  simp
  omega
local macro_rules | `(tactic| array_mem_dec) => `(tactic| first
  | with_reducible refine vE_c ?_ | with_reducible refine vE_nope ?_ | with_reducible refine vE_var (by with_unfolding_all rfl) ?_ | with_reducible refine vE_bin ?_ | with_reducible refine vE_neg ?_ | with_reducible refine vE_cmp ?_ | with_reducible refine vE_not ?_ | with_reducible refine vE_and ?_ | with_reducible refine vE_or ?_ | with_reducible refine vE_ite ?_
  | with_reducible refine vE_tup ?_ | with_reducible refine vE_lst ?_ | with_reducible refine vE_nil ?_ | with_reducible refine vE_cons ?_ | with_reducible refine vE_idx ?_ | with_reducible refine vE_sli ?_ | with_reducible refine vE_mat ?_ | with_reducible refine vE_call ?_ | with_reducible refine vE_bi (by with_unfolding_all rfl) ?_ | with_reducible refine vE_mth ?_ | with_reducible refine vE_isi ?_ | with_reducible refine vE_att ?_ | with_reducible refine vE_own ?_ | with_reducible refine vE_new (by with_unfolding_all exact Nat.le_of_ble_eq_true rfl) ?_ | with_reducible refine vT_own ?_
  | with_reducible refine vT_nope ?_ | with_reducible refine vT_var (by with_unfolding_all rfl) ?_ | with_reducible refine vT_cmp ?_ | with_reducible refine vT_not ?_ | with_reducible refine vT_and ?_ | with_reducible refine vT_or ?_ | with_reducible refine vT_call ?_ | with_reducible refine vT_bi (by with_unfolding_all rfl) ?_ | with_reducible refine vT_isi ?_ | with_reducible refine vT_idx ?_
  | with_reducible refine vI_seq ?_ | with_reducible refine vI_txt ?_ | with_reducible refine vI_rng ?_
  | with_reducible refine vS_nil ?_ | with_reducible refine vS_skip ?_ | with_reducible refine vS_expr ?_ | with_reducible refine vS_asg ?_ | with_reducible refine vS_asgT ?_ | with_reducible refine vS_sub ?_ | with_reducible refine vS_ret ?_ | with_reducible refine vS_brk ?_ | with_reducible refine vS_cont ?_ | with_reducible refine vS_ife ?_ | with_reducible refine vS_for ?_ | with_reducible refine vS_asgA ?_ | with_reducible refine vS_aug (by with_unfolding_all rfl) ?_ | with_reducible refine vS_augA ?_ | with_reducible refine vS_whl ?_
  | with_reducible refine vaft_nx ?_ | with_reducible refine vaft_rt ?_ | with_reducible refine vaft_bk ?_ | with_reducible refine vaft_ct ?_ | with_reducible refine vturn_nx ?_ | with_reducible refine vturn_ct ?_ | with_reducible refine vturn_bk ?_ | with_reducible refine vturn_rt ?_ | with_reducible refine vfin_rtQ ?_ | with_reducible refine vfin_nxQ ?_ | with_reducible refine vturn_ex ?_ | with_reducible refine vaft_ex ?_ | with_reducible refine vfin_exQ ?_)
local macro_rules | `(tactic| array_get_dec) => `(tactic| repeat (first
  | with_reducible refine vE_c ?_ | with_reducible refine vE_nope ?_ | with_reducible refine vE_var (by with_unfolding_all rfl) ?_ | with_reducible refine vE_bin ?_ | with_reducible refine vE_neg ?_ | with_reducible refine vE_cmp ?_ | with_reducible refine vE_not ?_ | with_reducible refine vE_and ?_ | with_reducible refine vE_or ?_ | with_reducible refine vE_ite ?_
  | with_reducible refine vE_tup ?_ | with_reducible refine vE_lst ?_ | with_reducible refine vE_nil ?_ | with_reducible refine vE_cons ?_ | with_reducible refine vE_idx ?_ | with_reducible refine vE_sli ?_ | with_reducible refine vE_mat ?_ | with_reducible refine vE_call ?_ | with_reducible refine vE_bi (by with_unfolding_all rfl) ?_ | with_reducible refine vE_mth ?_ | with_reducible refine vE_isi ?_ | with_reducible refine vE_att ?_ | with_reducible refine vE_own ?_ | with_reducible refine vE_new (by with_unfolding_all exact Nat.le_of_ble_eq_true rfl) ?_ | with_reducible refine vT_own ?_
  | with_reducible refine vT_nope ?_ | with_reducible refine vT_var (by with_unfolding_all rfl) ?_ | with_reducible refine vT_cmp ?_ | with_reducible refine vT_not ?_ | with_reducible refine vT_and ?_ | with_reducible refine vT_or ?_ | with_reducible refine vT_call ?_ | with_reducible refine vT_bi (by with_unfolding_all rfl) ?_ | with_reducible refine vT_isi ?_ | with_reducible refine vT_idx ?_
  | with_reducible refine vI_seq ?_ | with_reducible refine vI_txt ?_ | with_reducible refine vI_rng ?_
  | with_reducible refine vS_nil ?_ | with_reducible refine vS_skip ?_ | with_reducible refine vS_expr ?_ | with_reducible refine vS_asg ?_ | with_reducible refine vS_asgT ?_ | with_reducible refine vS_sub ?_ | with_reducible refine vS_ret ?_ | with_reducible refine vS_brk ?_ | with_reducible refine vS_cont ?_ | with_reducible refine vS_ife ?_ | with_reducible refine vS_for ?_ | with_reducible refine vS_asgA ?_ | with_reducible refine vS_aug (by with_unfolding_all rfl) ?_ | with_reducible refine vS_augA ?_ | with_reducible refine vS_whl ?_
  | with_reducible refine vaft_nx ?_ | with_reducible refine vaft_rt ?_ | with_reducible refine vaft_bk ?_ | with_reducible refine vaft_ct ?_ | with_reducible refine vturn_nx ?_ | with_reducible refine vturn_ct ?_ | with_reducible refine vturn_bk ?_ | with_reducible refine vturn_rt ?_ | with_reducible refine vfin_rtQ ?_ | with_reducible refine vfin_nxQ ?_ | with_reducible refine vturn_ex ?_ | with_reducible refine vaft_ex ?_ | with_reducible refine vfin_exQ ?_))
theorem m_lrun {l cs : List Nat} {s : Nat} (hl : l.length ≤ 16777216) (hs : s ≤ l.length) {Q : D → Mem → Prop} (h : Q (.int ((s + spn cs (l.drop s) : Nat) : Int)) M) :
    wR (inv (CC (k + 1)) "_law_run" [.str (st l), .int (s : Int), .str (st cs)] M) Q X := by
  refine inv_vW rfl ?_
  refine C_w k74_l__law_run rfl ?_
  show wSs _ k74_b__law_run [some (.str (st l)), some (.int (s : Int)), some (.str (st cs)), none, none] _ _
  unfold k74_b__law_run
  array_get_dec
  refine ⟨_, rfl, ?_⟩
  array_get_dec
  refine ⟨_, len_st hl, ?_⟩
  refine ⟨0, (l.length : Int), rfl, rfl, rng_ok hl, ?_⟩
  refine ⟨fun L env M => ∃ (j : Nat) (z4 : Option D), env = [some (.str (st l)), some (.int (s : Int)), some (.str (st cs)), some (.int ((s + j : Nat) : Int)), z4] ∧ M = [] ∧ j ≤ l.length ∧ L = rangeL (j : Int) (l.length - j) ∧ s + j ≤ l.length ∧ s + j + spn cs (l.drop (s + j)) = s + spn cs (l.drop s), fun _ _ _ _ => rfl, ⟨0, _, rfl, rfl, by omega, by simp, by omega, rfl⟩, ?_, ?_⟩
  · rintro x L env M ⟨j, z4, rfl, rfl, hj, el, hsj, hq⟩
    cases hm : l.length - j with
    | zero =>
      rw [hm] at el
      cases el
    | succ m =>
      rw [hm] at el
      obtain ⟨e1, e2⟩ := List.cons.inj el
      subst e1
      refine ⟨_, rfl, ?_⟩
      array_get_dec
      refine ⟨_, len_st hl, ?_⟩
      array_get_dec
      refine ⟨_, rfl, ?_⟩
      by_cases hge : l.length ≤ s + j
      · rw [if_pos (by simp; omega), if_pos rfl]
        array_get_dec
        refine ⟨_, rfl, ?_⟩
        rw [List.drop_eq_nil_of_le hge, spn_nil] at hq
        rw [show s + j = s + spn cs (l.drop s) by omega]
        exact h
      · rw [if_neg (by simp; omega)]
        have hc : l[s + j]? = some l[s + j] := List.getElem?_eq_getElem (by omega)
        array_get_dec
        refine ⟨_, idx_st hl hc, ?_⟩
        array_get_dec
        refine ⟨_, nmem_st (M := []), ?_⟩
        rw [drop_cons' hc, spn_cons] at hq
        by_cases hm : l[s + j] ∈ cs
        · rw [if_neg (by simpa using hm)]
          rw [if_pos hm] at hq
          array_get_dec
          refine ⟨_, add_ints, ?_⟩
          array_get_dec
          refine ⟨_, rfl, ?_⟩
          array_get_dec
          refine ⟨j + 1, some (.int (j : Int)), by simp; omega, rfl, by omega, ?_, by omega, ?_⟩
          · rw [e2, show l.length - (j + 1) = m by omega, Int.natCast_add]
            rfl
          · rw [← hq, show s + (j + 1) = s + j + 1 by omega]
            omega
        · rw [if_pos (by simpa using hm)]
          rw [if_neg hm] at hq
          array_get_dec
          refine ⟨_, rfl, ?_⟩
          rw [show s + j = s + spn cs (l.drop s) by omega]
          exact h
  · rintro env M ⟨j, z4, rfl, rfl, hj, el, hsj, hq⟩
    have hj2 : j = l.length := by
      cases hm : l.length - j with
      | zero => omega
      | succ m =>
        rw [hm] at el
        cases el
    subst hj2
    rw [List.drop_eq_nil_of_le (by omega), spn_nil] at hq
    array_get_dec
    refine ⟨_, rfl, ?_⟩
    rw [show s + l.length = s + spn cs (l.drop s) by omega]
    exact h
def rawL : Tk → List Nat
  | .sg c => [c]
  | .wd w => w
  | .nm w => w
def rawD (p : Nat × Tk) : D := .tup [.str (st (rawL p.2)), .int (p.1 : Int)]
def badI (e : Nat × Bool) : Int := if e.2 then -1 else (e.1 : Int)
theorem raws_vals : ∀ ts : List (Nat × Tk), D.vals (ts.map rawD) = true
  | [] => rfl
  | a :: l => by
    show (true && D.vals (l.map rawD)) = true
    rw [raws_vals l]
    rfl
theorem deeps_vals {m av : Nat} : ∀ {n : Nat} {ds : List D}, D.vals ds = true → ds.length < n → deeps m av M n ds = some ds
  | 0, _, _, h => absurd h (Nat.not_lt_zero _)
  | n + 1, [], _, _ => rfl
  | n + 1, d :: ds, h, hl => by
    have h' := band (show (d.val && D.vals ds) = true from h)
    rw [List.length_cons] at hl
    obtain ⟨n', rfl⟩ : ∃ n', n = n' + 1 := ⟨n - 1, by omega⟩
    rw [deeps, deep_val h'.1, deeps_vals h'.2 (by omega)]
theorem deep_pair {ds : List D} {b : Int} {n : Nat} (hv : D.vals ds = true) (hl : ds.length < n) : deep 0 1 [.lst ds] (n + 4) (.tup [.ref 0, .int b]) = some (.tup [.tl ds, .int b]) := by
  have e1 : deep 0 1 [.lst ds] (n + 2) (.ref 0) = some (.tl ds) := by
    show (deeps 0 1 [.lst ds] (n + 1) ds).map D.tl = _
    rw [deeps_vals hv (by omega)]
    rfl
  have e2 : deeps 0 1 [.lst ds] (n + 2) [.int b] = some [.int b] := deeps_vals rfl (by simp)
  have e3 : deeps 0 1 [.lst ds] (n + 3) [.ref 0, .int b] = some [.tl ds, .int b] := by
    rw [deeps, e1, e2]
  show (deeps 0 1 [.lst ds] (n + 3) [.ref 0, .int b]).map D.tup = _
  rw [e3]
  rfl
theorem out_pair {ds : List D} {b : Int} (hv : D.vals ds = true) (hl : ds.length < 99996) : outD 0 [.lst ds] (.tup [.ref 0, .int b]) = some (.tup [.tl ds, .int b]) := deep_pair (n := 99996) hv hl
theorem sd_eq : Str.ofString "-0123456789" = st (45 :: DIG) := by decide +kernel
theorem numP_none {q : List Nat} {c : Nat} (h : q.head? = some c) (hc : c ∉ 45 :: DIG) : numP q = none := by
  cases q with
  | nil => cases h
  | cons a q =>
    cases h
    have h1 : c ≠ 45 := fun z => hc (by rw [z]; exact List.mem_cons_self)
    have h2 : c ∉ DIG := fun z => hc (List.mem_cons_of_mem _ z)
    have m : mlen (c :: q) = 0 := by
      unfold mlen
      rw [if_neg (by simp [h1])]
    unfold numP
    rw [m, List.drop_zero, spn_cons, if_neg h2, if_pos (.inl rfl)]
local macro_rules | `(tactic| array_mem_dec) => `(tactic| first
  | with_reducible refine vE_c ?_ | with_reducible refine vE_nope ?_ | with_reducible refine vE_var (by with_unfolding_all rfl) ?_ | with_reducible refine vE_bin ?_ | with_reducible refine vE_neg ?_ | with_reducible refine vE_cmp ?_ | with_reducible refine vE_not ?_ | with_reducible refine vE_and ?_ | with_reducible refine vE_or ?_ | with_reducible refine vE_ite ?_
  | with_reducible refine vE_tup ?_ | with_reducible refine vE_lst ?_ | with_reducible refine vE_nil ?_ | with_reducible refine vE_cons ?_ | with_reducible refine vE_idx ?_ | with_reducible refine vE_sli ?_ | with_reducible refine vE_mat ?_ | with_reducible refine vE_call ?_ | with_reducible refine vE_bi (by with_unfolding_all rfl) ?_ | with_reducible refine vE_mth ?_ | with_reducible refine vE_isi ?_ | with_reducible refine vE_att ?_ | with_reducible refine vE_own ?_ | with_reducible refine vE_new (by with_unfolding_all exact Nat.le_of_ble_eq_true rfl) ?_ | with_reducible refine vT_own ?_
  | with_reducible refine vT_nope ?_ | with_reducible refine vT_var (by with_unfolding_all rfl) ?_ | with_reducible refine vT_cmp ?_ | with_reducible refine vT_not ?_ | with_reducible refine vT_and ?_ | with_reducible refine vT_or ?_ | with_reducible refine vT_call ?_ | with_reducible refine vT_bi (by with_unfolding_all rfl) ?_ | with_reducible refine vT_isi ?_ | with_reducible refine vT_idx ?_
  | with_reducible refine vI_seq ?_ | with_reducible refine vI_txt ?_ | with_reducible refine vI_rng ?_
  | with_reducible refine vS_nil ?_ | with_reducible refine vS_skip ?_ | with_reducible refine vS_expr ?_ | with_reducible refine vS_asg ?_ | with_reducible refine vS_asgT ?_ | with_reducible refine vS_sub ?_ | with_reducible refine vS_ret ?_ | with_reducible refine vS_brk ?_ | with_reducible refine vS_cont ?_ | with_reducible refine vS_ife ?_ | with_reducible refine vS_for ?_ | with_reducible refine vS_asgA ?_ | with_reducible refine vS_aug (by with_unfolding_all rfl) ?_ | with_reducible refine vS_augA ?_ | with_reducible refine vS_whl ?_
  | with_reducible refine vaft_nx ?_ | with_reducible refine vaft_rt ?_ | with_reducible refine vaft_bk ?_ | with_reducible refine vaft_ct ?_ | with_reducible refine vturn_nx ?_ | with_reducible refine vturn_ct ?_ | with_reducible refine vturn_bk ?_ | with_reducible refine vturn_rt ?_ | with_reducible refine vfin_rtQ ?_ | with_reducible refine vfin_nxQ ?_ | with_reducible refine vturn_ex ?_ | with_reducible refine vaft_ex ?_ | with_reducible refine vfin_exQ ?_)
local macro_rules | `(tactic| array_get_dec) => `(tactic| repeat (first
  | with_reducible refine vE_c ?_ | with_reducible refine vE_nope ?_ | with_reducible refine vE_var (by with_unfolding_all rfl) ?_ | with_reducible refine vE_bin ?_ | with_reducible refine vE_neg ?_ | with_reducible refine vE_cmp ?_ | with_reducible refine vE_not ?_ | with_reducible refine vE_and ?_ | with_reducible refine vE_or ?_ | with_reducible refine vE_ite ?_
  | with_reducible refine vE_tup ?_ | with_reducible refine vE_lst ?_ | with_reducible refine vE_nil ?_ | with_reducible refine vE_cons ?_ | with_reducible refine vE_idx ?_ | with_reducible refine vE_sli ?_ | with_reducible refine vE_mat ?_ | with_reducible refine vE_call ?_ | with_reducible refine vE_bi (by with_unfolding_all rfl) ?_ | with_reducible refine vE_mth ?_ | with_reducible refine vE_isi ?_ | with_reducible refine vE_att ?_ | with_reducible refine vE_own ?_ | with_reducible refine vE_new (by with_unfolding_all exact Nat.le_of_ble_eq_true rfl) ?_ | with_reducible refine vT_own ?_
  | with_reducible refine vT_nope ?_ | with_reducible refine vT_var (by with_unfolding_all rfl) ?_ | with_reducible refine vT_cmp ?_ | with_reducible refine vT_not ?_ | with_reducible refine vT_and ?_ | with_reducible refine vT_or ?_ | with_reducible refine vT_call ?_ | with_reducible refine vT_bi (by with_unfolding_all rfl) ?_ | with_reducible refine vT_isi ?_ | with_reducible refine vT_idx ?_
  | with_reducible refine vI_seq ?_ | with_reducible refine vI_txt ?_ | with_reducible refine vI_rng ?_
  | with_reducible refine vS_nil ?_ | with_reducible refine vS_skip ?_ | with_reducible refine vS_expr ?_ | with_reducible refine vS_asg ?_ | with_reducible refine vS_asgT ?_ | with_reducible refine vS_sub ?_ | with_reducible refine vS_ret ?_ | with_reducible refine vS_brk ?_ | with_reducible refine vS_cont ?_ | with_reducible refine vS_ife ?_ | with_reducible refine vS_for ?_ | with_reducible refine vS_asgA ?_ | with_reducible refine vS_aug (by with_unfolding_all rfl) ?_ | with_reducible refine vS_augA ?_ | with_reducible refine vS_whl ?_
  | with_reducible refine vaft_nx ?_ | with_reducible refine vaft_rt ?_ | with_reducible refine vaft_bk ?_ | with_reducible refine vaft_ct ?_ | with_reducible refine vturn_nx ?_ | with_reducible refine vturn_ct ?_ | with_reducible refine vturn_bk ?_ | with_reducible refine vturn_rt ?_ | with_reducible refine vfin_rtQ ?_ | with_reducible refine vfin_nxQ ?_ | with_reducible refine vturn_ex ?_ | with_reducible refine vaft_ex ?_ | with_reducible refine vfin_exQ ?_))
theorem m_ltokens {l : List Nat} (hl : l.length ≤ 90000) (ho : okT l = true) (hd : cntD l ≤ 60) {Q : D → Mem → Prop}
    (h : Q (.tup [.tl ((lexF l 0).1.map rawD), .int (badI (lexF l 0).2)]) M) : wR (inv (CC (k + 2)) "_law_tokens" [.str (st l)] M) Q X := by
  have hl2 : l.length ≤ 16777216 := by omega
  refine inv_vW rfl ?_
  refine C_w k74_l__law_tokens rfl ?_
  show wSs _ k74_b__law_tokens [some (.str (st l)), none, none, none, none, none, none] _ _
  unfold k74_b__law_tokens
  rw [sig_eq, let_eq, sd_eq, dig_eq, mi_eq, ze_eq, sp_eq]
  array_get_dec
  refine ⟨_, rfl, Nat.zero_le _, ?_⟩
  refine ⟨_, rfl, ?_⟩
  array_get_dec
  refine ⟨_, rfl, Nat.le_of_ble_eq_true rfl, ?_⟩
  refine ⟨_, rfl, ?_⟩
  refine ⟨_, rfl, ?_⟩
  array_get_dec
  refine ⟨_, len_st hl2, ?_⟩
  refine ⟨0, (l.length : Int), rfl, rfl, rng_ok hl2, ?_⟩
  refine ⟨fun L env M => ∃ (s j : Nat) (acc : List (Nat × Tk)) (z1 z4 z5 z6 : Option D), env = [some (.str (st l)), z1, some (.ref 0), some (.int (s : Int)), z4, z5, z6] ∧ M = [.lst (acc.map rawD)] ∧ L = rangeL (j : Int) (l.length - j) ∧ j ≤ s ∧ s ≤ l.length ∧ acc.length ≤ s ∧
    acc ++ (lexF l s).1 = (lexF l 0).1 ∧ (lexF l s).2 = (lexF l 0).2, fun _ _ _ _ => rfl, ⟨0, 0, [], _, _, _, _, rfl, rfl, rfl, Nat.le_refl _, Nat.zero_le _, Nat.zero_le _, rfl, rfl⟩, ?_, ?_⟩
  · rintro x L env M' ⟨s, j, acc, z1, z4, z5, z6, rfl, rfl, el, hjs, hs, hac, e1, e2⟩
    cases hm : l.length - j with
    | zero =>
      rw [hm] at el
      cases el
    | succ m =>
      rw [hm] at el
      obtain ⟨x1, x2⟩ := List.cons.inj el
      subst x1
      refine ⟨_, rfl, ?_⟩
      array_get_dec
      refine ⟨_, len_st hl2, ?_⟩
      array_get_dec
      refine ⟨_, rfl, ?_⟩
      by_cases hge : l.length ≤ s
      · rw [if_pos (by simp; omega)]
        array_get_dec
        rw [lexF_end hge] at e1 e2
        rw [List.append_nil] at e1
        rw [← e1, ← e2] at h
        refine ⟨_, rfl, ?_⟩
        array_get_dec
        refine ⟨_, rfl, Nat.le_of_ble_eq_true rfl, ?_⟩
        array_get_dec
        exact ⟨_, out_pair (raws_vals acc) (by rw [List.length_map]; omega), h⟩
      · rw [if_neg (by simp; omega)]
        have hlt : s < l.length := by omega
        have hc : l[s]? = some l[s] := List.getElem?_eq_getElem hlt
        have hq : l.drop s = l[s] :: l.drop (s + 1) := drop_cons' hc
        have ht : tkAt (l.drop s) = if l[s] ∈ SIG then some (.sg l[s], 1) else if l[s] ∈ LET then some (.wd ((l.drop s).take (spn LET (l.drop s))), spn LET (l.drop s)) else (numP (l.drop s)).map fun n => (.nm ((l.drop s).take n), n) := by
          rw [hq]
          rfl
        have hm' : l.length - (j + 1) = m := by omega
        have hL : L = rangeL ((j + 1 : Nat) : Int) (l.length - (j + 1)) := by
          rw [x2, hm', Int.natCast_add]
          rfl
        -- a token is found
        have tok : ∀ {t : Tk} {n : Nat}, l[s] ≠ 32 → tkAt (l.drop s) = some (t, n) → ∀ z1 z4 z5 z6 : Option D, ∃ (s' j' : Nat) (acc' : List (Nat × Tk)) (y1 y4 y5 y6 : Option D), ([some (.str (st l)), z1, some (.ref 0), some (.int ((s + n : Nat) : Int)), z4, z5, z6] : Env) = [some (.str (st l)), y1, some (.ref 0), some (.int (s' : Int)), y4, y5, y6] ∧ ([MO.lst (acc.map rawD ++ [rawD (s, t)])] : Mem) = [.lst (acc'.map rawD)] ∧ L = rangeL (j' : Int) (l.length - j') ∧ j' ≤ s' ∧ s' ≤ l.length ∧ acc'.length ≤ s' ∧
            acc' ++ (lexF l s').1 = (lexF l 0).1 ∧ (lexF l s').2 = (lexF l 0).2 := fun {t n} h1 h2 z1 z4 z5 z6 => by
          have et := lexF_tok hd hc h1 h2
          obtain ⟨hn1, hn2⟩ := tkAt_len h2 (Nat.le_trans (cntD_drop _ _) hd)
          rw [List.length_drop] at hn2
          rw [et] at e1 e2
          refine ⟨s + n, j + 1, acc ++ [(s, t)], _, _, _, _, rfl, by rw [List.map_append]; rfl, hL, by omega, by omega, by rw [List.length_append]; simp; omega, ?_, e2⟩
          rw [← e1, List.append_assoc]
          rfl
        array_get_dec
        refine ⟨_, idx_st hl2 hc, ?_⟩
        array_get_dec
        refine ⟨_, rfl, ?_⟩
        array_get_dec
        refine ⟨_, add_ints, ?_⟩
        array_get_dec
        refine ⟨_, rfl, ?_⟩
        array_get_dec
        refine ⟨_, mem_st (M := []), ?_⟩
        by_cases h1 : l[s] ∈ SIG
        · rw [if_pos (by simpa using h1)]
          rw [if_pos h1] at ht
          array_get_dec
          refine ⟨rfl, ?_⟩
          array_get_dec
          refine ⟨_, rfl, Nat.le_of_ble_eq_true rfl, ?_⟩
          array_get_dec
          refine ⟨_, rfl, rfl, .non, _, app_end rfl (by rw [List.length_map]; omega), ?_⟩
          array_get_dec
          refine ⟨_, rfl, ?_⟩
          array_get_dec
          exact tok (fun z => by rw [z] at h1; exact absurd h1 (by decide)) ht _ _ _ _
        · rw [if_neg (by simpa using h1)]
          rw [if_neg h1] at ht
          array_get_dec
          refine ⟨_, mem_st (M := []), ?_⟩
          by_cases h2 : l[s] ∈ LET
          · rw [if_pos (by simpa using h2)]
            rw [if_pos h2] at ht
            array_get_dec
            refine ⟨_, rfl, ?_⟩
            refine m_lrun hl2 (by omega) ?_
            refine ⟨_, rfl, ?_⟩
            array_get_dec
            have hsp := spn_le LET (l.drop s)
            rw [List.length_drop] at hsp
            refine ⟨rfl, ?_⟩
            array_get_dec
            refine ⟨_, rfl, ?_⟩
            array_get_dec
            refine ⟨_, rfl, _, sli_st hl2 (by omega), ?_⟩
            array_get_dec
            refine ⟨_, rfl, Nat.le_of_ble_eq_true rfl, ?_⟩
            array_get_dec
            refine ⟨_, rfl, rfl, .non, _, app_end rfl (by rw [List.length_map]; omega), ?_⟩
            array_get_dec
            refine ⟨_, rfl, ?_⟩
            array_get_dec
            rw [show s + spn LET (l.drop s) - s = spn LET (l.drop s) by omega]
            exact tok (fun z => by rw [z] at h2; exact absurd h2 (by decide)) ht _ _ _ _
          · rw [if_neg (by simpa using h2)]
            rw [if_neg h2] at ht
            array_get_dec
            refine ⟨_, mem_st (M := []), ?_⟩
            by_cases h3 : l[s] ∈ 45 :: DIG
            · rw [if_pos (by simpa using h3)]
              array_get_dec
              refine ⟨_, cmpeq_st (okT_cons ho hc) (by decide), ?_⟩
              array_get_dec
              refine ⟨_, rfl, ?_⟩
              have hml : (if decide ([l[s]] = [45]) = true then (1 : Int) else 0) = ((mlen (l.drop s) : Nat) : Int) := by
                unfold mlen
                rw [hq, List.head?_cons]
                by_cases h5 : l[s] = 45
                · rw [h5]
                  rfl
                · rw [if_neg (by simp [h5]), if_neg (by simp [h5])]
                  rfl
              refine ⟨_, add_ints, ?_⟩
              array_get_dec
              rw [hml, ← Int.natCast_add]
              have hml1 : mlen (l.drop s) ≤ 1 := by unfold mlen; split <;> omega
              have hdd : (l.drop s).drop (mlen (l.drop s)) = l.drop (s + mlen (l.drop s)) := by rw [List.drop_drop]
              have hh : (l.drop (s + mlen (l.drop s))).head? = l[s + mlen (l.drop s)]? := drop_head
              have hne : l[s] ≠ 32 := fun z => by rw [z] at h3; exact absurd h3 (by decide)
              have hnp : numP (l.drop s) = if spn DIG (l.drop (s + mlen (l.drop s))) = 0 ∨ (l[s + mlen (l.drop s)]? = some 48 ∧ 1 < mlen (l.drop s) + spn DIG (l.drop (s + mlen (l.drop s)))) then none else some (mlen (l.drop s) + spn DIG (l.drop (s + mlen (l.drop s)))) := by
                unfold numP
                rw [hdd, hh]
              rw [hnp] at ht
              have hd60 : spn DIG (l.drop (s + mlen (l.drop s))) ≤ 60 := Nat.le_trans (spn_cnt _) (Nat.le_trans (cntD_drop _ _) hd)
              have hdl := spn_le DIG (l.drop (s + mlen (l.drop s)))
              rw [List.length_drop] at hdl
              generalize hf : s + mlen (l.drop s) = f at ht hd60 hdl ⊢
              refine ⟨_, rfl, ?_⟩
              array_get_dec
              refine ⟨_, rfl, ?_⟩
              refine m_lrun hl2 (by omega) ?_
              generalize spn DIG (l.drop f) = d at ht hd60 hdl ⊢
              have bad : tkAt (l.drop s) = none → ∃ v', outD 0 [MO.lst (acc.map rawD)] (.tup [.ref 0, .int (s : Int)]) = some v' ∧ Q v' M := fun h9 => by
                rw [lexF_bad hc hne h9] at e1 e2
                rw [List.append_nil] at e1
                rw [← e1, ← e2] at h
                exact ⟨_, out_pair (raws_vals acc) (by rw [List.length_map]; omega), h⟩
              refine ⟨_, rfl, ?_⟩
              array_get_dec
              refine ⟨_, eq_intC _ _, ?_⟩
              by_cases hd0 : d = 0
              · rw [if_pos (by simp; omega), if_pos rfl]
                rw [if_pos (.inl hd0)] at ht
                array_get_dec
                refine ⟨_, rfl, Nat.le_of_ble_eq_true rfl, ?_⟩
                array_get_dec
                exact bad ht
              · rw [if_neg (by simp; omega)]
                have hf2 : f < l.length := by omega
                have hcf : l[f]? = some l[f] := List.getElem?_eq_getElem hf2
                array_get_dec
                refine ⟨_, sub_ints, ?_⟩
                array_get_dec
                refine ⟨_, gt_ints, ?_⟩
                rw [if_neg (by simp; omega)]
                array_get_dec
                refine ⟨_, idx_st hl2 hcf, ?_⟩
                array_get_dec
                refine ⟨_, cmpeq_st (M := []) (okT_cons ho hcf) (by decide), ?_⟩
                by_cases h0 : l[f] = 48
                · rw [if_pos (by simp [h0])]
                  array_get_dec
                  refine ⟨_, sub_ints, ?_⟩
                  array_get_dec
                  refine ⟨_, gt_ints, ?_⟩
                  by_cases h1' : 1 < mlen (l.drop s) + d
                  · rw [if_pos (by simp; omega)]
                    rw [if_pos (.inr ⟨by rw [hcf, h0], h1'⟩)] at ht
                    array_get_dec
                    refine ⟨_, rfl, Nat.le_of_ble_eq_true rfl, ?_⟩
                    array_get_dec
                    exact bad ht
                  · rw [if_neg (by simp; omega)]
                    rw [if_neg (fun z => z.elim hd0 fun z => h1' z.2)] at ht
                    array_get_dec
                    refine ⟨rfl, ?_⟩
                    array_get_dec
                    refine ⟨_, rfl, ?_⟩
                    array_get_dec
                    refine ⟨_, rfl, _, sli_st hl2 (by omega), ?_⟩
                    array_get_dec
                    refine ⟨_, rfl, Nat.le_of_ble_eq_true rfl, ?_⟩
                    array_get_dec
                    refine ⟨_, rfl, rfl, .non, _, app_end rfl (by rw [List.length_map]; omega), ?_⟩
                    array_get_dec
                    refine ⟨_, rfl, ?_⟩
                    array_get_dec
                    rw [show f + d - s = mlen (l.drop s) + d by omega, show f + d = s + (mlen (l.drop s) + d) by omega]
                    exact tok hne ht _ _ _ _
                · rw [if_neg (by simp [h0]), if_neg Bool.false_ne_true]
                  rw [if_neg (fun z => z.elim hd0 fun z => h0 (by have := z.1; rw [hcf] at this; exact Option.some.inj this))] at ht
                  array_get_dec
                  refine ⟨rfl, ?_⟩
                  array_get_dec
                  refine ⟨_, rfl, ?_⟩
                  array_get_dec
                  refine ⟨_, rfl, _, sli_st hl2 (by omega), ?_⟩
                  array_get_dec
                  refine ⟨_, rfl, Nat.le_of_ble_eq_true rfl, ?_⟩
                  array_get_dec
                  refine ⟨_, rfl, rfl, .non, _, app_end rfl (by rw [List.length_map]; omega), ?_⟩
                  array_get_dec
                  refine ⟨_, rfl, ?_⟩
                  array_get_dec
                  rw [show f + d - s = mlen (l.drop s) + d by omega, show f + d = s + (mlen (l.drop s) + d) by omega]
                  exact tok hne ht _ _ _ _
            · rw [if_neg (by simpa using h3)]
              rw [numP_none (by rw [hq]; rfl) h3] at ht
              array_get_dec
              refine ⟨_, cmpne_st (okT_cons ho hc) (by decide), ?_⟩
              by_cases h4 : l[s] = 32
              · rw [if_neg (by simp [h4])]
                array_get_dec
                refine ⟨_, rfl, ?_⟩
                array_get_dec
                rw [lexF_sp hd (by rw [hc, h4])] at e1 e2
                exact ⟨s + 1, j + 1, acc, _, _, _, _, rfl, rfl, hL, by omega, by omega, by omega, e1, e2⟩
              · rw [if_pos (by simp [h4])]
                array_get_dec
                refine ⟨_, rfl, Nat.le_of_ble_eq_true rfl, ?_⟩
                rw [lexF_bad hc h4 ht] at e1 e2
                rw [List.append_nil] at e1
                rw [← e1, ← e2] at h
                array_get_dec
                exact ⟨_, out_pair (raws_vals acc) (by rw [List.length_map]; omega), h⟩
  · rintro env M' ⟨s, j, acc, z1, z4, z5, z6, rfl, rfl, el, hjs, hs, hac, e1, e2⟩
    have hs2 : s = l.length := by
      cases hm : l.length - j with
      | zero => omega
      | succ m =>
        rw [hm] at el
        cases el
    rw [lexF_end (by omega)] at e1 e2
    rw [List.append_nil] at e1
    rw [← e1, ← e2] at h
    array_get_dec
    refine ⟨_, rfl, ?_⟩
    array_get_dec
    refine ⟨_, rfl, Nat.le_of_ble_eq_true rfl, ?_⟩
    array_get_dec
    exact ⟨_, out_pair (raws_vals acc) (by rw [List.length_map]; omega), h⟩
end Z
end
section
set_option Elab.async false
set_option linter.all false
set_option maxRecDepth 100000
set_option maxHeartbeats 1000000
set_option autoImplicit false
/-! the law's reader: _law_read. -/
namespace Z
open PySem PySem.NumText
variable {M : Mem} {X : Ex} {k : Nat} {r : Nat}
/-- what a token's own text is made of -/
def rOk : Tk → Prop
  | .sg c => c ∈ SIG
  | .wd w => w ≠ [] ∧ ∀ c ∈ w, c ∈ LET
  | .nm w => (∃ a c, w = a ++ [c] ∧ c ∈ DIG) ∧ (∀ c ∈ w, c ∈ 45 :: DIG) ∧ intText? (st w) = some (nval w) ∧ w.length ≤ 640
theorem num_ok {q : List Nat} {n : Nat} (h : numP q = some n) (hd : cntD q ≤ 60) : rOk (.nm (q.take n)) := by
  obtain ⟨v1, v2, v3, v4⟩ := numP_val h hd
  have hlen : (q.take n).length ≤ 640 := by
    rw [List.length_take]
    omega
  unfold numP at h
  split at h
  · cases h
  · rename_i hc
    cases h
    have hc' := not_or.mp hc
    have e : q.take (mlen q + spn DIG (q.drop (mlen q))) = q.take (mlen q) ++ (q.drop (mlen q)).take (spn DIG (q.drop (mlen q))) := List.take_add
    have h2 : spn DIG (q.drop (mlen q)) ≤ (q.drop (mlen q)).length := spn_le _ _
    have hne : (q.drop (mlen q)).take (spn DIG (q.drop (mlen q))) ≠ [] := fun z => by
      have := congrArg List.length z
      rw [List.length_take] at this
      simp only [List.length_nil] at this
      omega
    have all := take_spn DIG (q.drop (mlen q))
    refine ⟨⟨q.take (mlen q) ++ ((q.drop (mlen q)).take (spn DIG (q.drop (mlen q)))).dropLast, ((q.drop (mlen q)).take (spn DIG (q.drop (mlen q)))).getLast hne, ?_, all _ (List.getLast_mem hne)⟩, ?_, v1, hlen⟩
    · rw [e, List.append_assoc, List.dropLast_concat_getLast]
    · intro c hcc
      rw [e] at hcc
      rcases List.mem_append.mp hcc with z | z
      · rcases head_cases q with ⟨e1, r, rfl⟩ | ⟨e1, _⟩
        · rw [e1] at z
          have : c = 45 := by simpa using z
          rw [this]
          exact List.mem_cons_self
        · rw [e1] at z
          cases z
      · exact List.mem_cons_of_mem _ (all c z)
theorem tkAt_ok {q : List Nat} {t : Tk} {n : Nat} (h : tkAt q = some (t, n)) (hd : cntD q ≤ 60) : rOk t := by
  unfold tkAt at h
  split at h
  · cases h
  · rename_i c r
    split at h
    · rename_i hs
      cases h
      exact hs
    · split at h
      · rename_i hl
        cases h
        refine ⟨fun z => ?_, take_spn LET _⟩
        have := congrArg List.length z
        rw [List.length_take, spn_cons, if_pos hl] at this
        simp at this
      · cases e : numP (c :: r) with
        | none =>
          rw [e] at h
          cases h
        | some n' =>
          rw [e] at h
          cases h
          exact num_ok e hd
theorem lex_rOk : ∀ (f pos : Nat) (q : List Nat), cntD q ≤ 60 → ∀ p ∈ (lex f pos q).1, rOk p.2
  | 0, _, _, _ => fun p hp => by cases hp
  | _ + 1, _, [], _ => fun p hp => by cases hp
  | f + 1, pos, c :: r, hd => by
    rw [lex_cons]
    split
    · exact lex_rOk f _ r (cntD_tail hd)
    · split
      · exact fun p hp => by cases hp
      · rename_i t n e
        intro p hp
        rcases List.mem_cons.mp hp with rfl | hp
        · exact tkAt_ok e hd
        · exact lex_rOk f _ _ (Nat.le_trans (cntD_drop _ _) hd) p hp
theorem tkAt_raw {q : List Nat} {t : Tk} {n : Nat} (h : tkAt q = some (t, n)) : (rawL t).length ≤ q.length := by
  unfold tkAt at h
  split at h
  · cases h
  · rename_i c r
    split at h
    · cases h
      show 1 ≤ (c :: r).length
      rw [List.length_cons]
      omega
    · split at h
      · cases h
        show ((c :: r).take _).length ≤ _
        rw [List.length_take]
        exact Nat.min_le_right _ _
      · cases e : numP (c :: r) with
        | none =>
          rw [e] at h
          cases h
        | some n' =>
          rw [e] at h
          cases h
          show ((c :: r).take _).length ≤ _
          rw [List.length_take]
          exact Nat.min_le_right _ _
theorem lex_raw : ∀ (f pos : Nat) (q : List Nat), ∀ p ∈ (lex f pos q).1, (rawL p.2).length ≤ q.length
  | 0, _, _ => fun p hp => by cases hp
  | _ + 1, _, [] => fun p hp => by cases hp
  | f + 1, pos, c :: r => by
    rw [lex_cons]
    split
    · exact fun p hp => Nat.le_succ_of_le (lex_raw f _ r p hp)
    · split
      · exact fun p hp => by cases hp
      · rename_i t n e
        intro p hp
        rcases List.mem_cons.mp hp with rfl | hp
        · exact tkAt_raw e
        · have := lex_raw f _ _ p hp
          rw [List.length_drop] at this
          omega
theorem lex_fin : ∀ (f pos : Nat) (q : List Nat), cntD q ≤ 60 → q.length ≤ f → (lex f pos q).2.2 = true → (lex f pos q).2.1 = pos + q.length
  | 0, pos, q, _, hl, _ => by
    have : q = [] := List.length_eq_zero_iff.mp (by omega)
    subst this
    rfl
  | _ + 1, _, [], _, _, _ => rfl
  | f + 1, pos, c :: r, hd, hl, h0 => by
    revert h0
    rw [List.length_cons] at hl
    rw [lex_cons]
    split
    · intro h
      rw [lex_fin f _ r (cntD_tail hd) (by omega) h, List.length_cons]
      omega
    · split
      · intro h
        cases h
      · rename_i t n e
        intro h
        obtain ⟨h1, h2⟩ := tkAt_len e hd
        have := lex_fin f (pos + n) ((c :: r).drop n) (Nat.le_trans (cntD_drop _ _) hd) (by rw [List.length_drop, List.length_cons]; omega) h
        show (lex f (pos + n) ((c :: r).drop n)).2.1 = _
        rw [this, List.length_drop]
        omega
theorem okT_of {l : List Nat} (h : ∀ c ∈ l, c < 0x110000) : okT l = true := by
  unfold okT
  rw [List.all_eq_true]
  intro c hc
  exact decide_eq_true (h c hc)
theorem raw_okT {t : Tk} (h : rOk t) : okT (rawL t) = true := by
  cases t with
  | sg c =>
    refine okT_of fun c' hc => ?_
    have : c' = c := by simpa [rawL] using hc
    have h1 : c ∈ SIG := h
    unfold SIG at h1
    simp only [List.mem_cons, List.not_mem_nil, or_false] at h1
    omega
  | wd w =>
    refine okT_of fun c hc => ?_
    have h1 := h.2 c hc
    unfold LET at h1
    simp only [List.mem_cons, List.not_mem_nil, or_false] at h1
    omega
  | nm w =>
    refine okT_of fun c hc => ?_
    have h1 := h.2.1 c hc
    unfold DIG at h1
    simp only [List.mem_cons, List.not_mem_nil, or_false] at h1
    omega
/-- which token it is, told by its text -/
theorem raw_sig {t : Tk} (h : rOk t) {c : Nat} (hc : c ∈ SIG) (e : rawL t = [c]) : t = .sg c := by
  have key : ∀ d, d ∈ SIG → d ∉ LET ∧ d ∉ 45 :: DIG := by decide
  cases t with
  | sg d =>
    cases e
    rfl
  | wd w =>
    have e' : w = [c] := e
    subst e'
    exact absurd (h.2 c List.mem_cons_self) (key c hc).1
  | nm w =>
    have e' : w = [c] := e
    subst e'
    exact absurd (h.2.1 c List.mem_cons_self) (key c hc).2
/-- the last sign of a token's text -/
theorem raw_last {t : Tk} (h : rOk t) : ∃ a c, rawL t = a ++ [c] ∧ (c ∈ DIG ↔ ∃ w, t = .nm w) := by
  cases t with
  | sg c =>
    refine ⟨[], c, rfl, fun z => ?_, fun ⟨w, z⟩ => nomatch z⟩
    have key : ∀ d, d ∈ SIG → d ∉ DIG := by decide
    exact absurd z (key c h)
  | wd w =>
    refine ⟨w.dropLast, w.getLast h.1, (List.dropLast_concat_getLast h.1).symm, fun z => ?_, fun ⟨w, z⟩ => nomatch z⟩
    have key : ∀ d, d ∈ LET → d ∉ DIG := by decide
    exact absurd z (key _ (h.2 _ (List.getLast_mem h.1)))
  | nm w =>
    obtain ⟨⟨a, c, e, hc⟩, _⟩ := h
    exact ⟨a, c, e, fun _ => ⟨w, rfl⟩, fun _ => hc⟩
/-- the rows as the law's reader keeps them: the list of them lies at 1 -/
structure Wt (M : Mem) (refs : List Nat) (rows : List (List D)) : Prop where
  len : refs.length = rows.length
  at_ : ∀ (j i : Nat) (row : List D), refs[j]? = some i → rows[j]? = some row → M[i]? = some (.lst row)
  nd : refs.Nodup
  ge : ∀ i ∈ refs, i ≠ 1 ∧ i < M.length
  vals : ∀ row ∈ rows, D.vals row = true
theorem Wt.set {refs : List Nat} {rows : List (List D)} {o : MO} (h : Wt M refs rows) : Wt (M.set 1 o) refs rows :=
  ⟨h.len, fun a i row h1 h2 => by
    have := h.ge i (List.mem_of_getElem? h1)
    rw [List.getElem?_set_ne (by omega)]
    exact h.at_ a i row h1 h2, h.nd, fun i hi => by rw [List.length_set]; exact h.ge i hi, h.vals⟩
theorem Wt.tail {i : Nat} {refs : List Nat} {row : List D} {rows : List (List D)} (h : Wt M (i :: refs) (row :: rows)) : Wt M refs rows :=
  ⟨by have := h.len; simpa using this, fun a i' row' h1 h2 => h.at_ (a + 1) i' row' (by simpa using h1) (by simpa using h2), (List.nodup_cons.mp h.nd).2, fun i' hi => h.ge i' (List.mem_cons_of_mem _ hi), fun r hr => h.vals r (List.mem_cons_of_mem _ hr)⟩
theorem Wt.top {i : Nat} {refs : List Nat} {row row' : List D} {rows : List (List D)} (h : Wt M (i :: refs) (row :: rows)) (hv : D.vals row' = true) : Wt (M.set i (.lst row')) (i :: refs) (row' :: rows) := by
  have hi := h.ge i List.mem_cons_self
  refine ⟨h.len, fun a i' r' h1 h2 => ?_, h.nd, fun i' hi' => by rw [List.length_set]; exact h.ge i' hi', fun r hr => ?_⟩
  · cases a with
    | zero =>
      simp at h1 h2
      subst h1 h2
      exact List.getElem?_set_self hi.2
    | succ a =>
      have hne : i ≠ i' := fun z => (List.nodup_cons.mp h.nd).1 (by rw [z]; exact List.mem_of_getElem? (by simpa using h1))
      rw [List.getElem?_set_ne hne]
      exact h.at_ (a + 1) i' r' h1 h2
  · rcases List.mem_cons.mp hr with rfl | hr
    · exact hv
    · exact h.vals r (List.mem_cons_of_mem _ hr)
theorem Wt.push {refs : List Nat} {rows : List (List D)} (h : Wt M refs rows) (hm : 2 ≤ M.length) : Wt (M ++ [.lst []]) (M.length :: refs) ([] :: rows) := by
  refine ⟨by simp [h.len], fun a i r h1 h2 => ?_, List.nodup_cons.mpr ⟨fun z => by have := (h.ge _ z).2; omega, h.nd⟩, fun i hi => ?_, fun r hr => ?_⟩
  · cases a with
    | zero =>
      simp at h1 h2
      subst h1 h2
      rw [List.getElem?_append_right (Nat.le_refl _), Nat.sub_self]
      rfl
    | succ a =>
      have h3 := h.at_ a i r (by simpa using h1) (by simpa using h2)
      rw [List.getElem?_append_left (List.getElem?_eq_some_iff.mp h3).1]
      exact h3
  · rw [List.length_append]
    rcases List.mem_cons.mp hi with rfl | hi
    · simp
      omega
    · have := h.ge i hi
      simp
      omega
  · rcases List.mem_cons.mp hr with rfl | hr
    · rfl
    · exact h.vals r hr
theorem deep_row {ds : List D} {b : Int} {i n : Nat} (hM : M[i]? = some (.lst ds)) (hv : D.vals ds = true) (hl : ds.length < n) : deep 0 M.length M (n + 4) (.tup [.ref i, .int b]) = some (.tup [.tl ds, .int b]) := by
  have hi := (List.getElem?_eq_some_iff.mp hM).1
  have e1 : deep 0 M.length M (n + 2) (.ref i) = some (.tl ds) := by
    show (if (decide (i < 0) || i == M.length) = true then none else (match M[i]? with
      | some (.lst ds) => (deeps 0 M.length M (n + 1) ds).map D.tl
      | _ => none)) = _
    rw [if_neg (by simp; omega), hM]
    dsimp only
    rw [deeps_vals hv (by omega)]
    rfl
  have e2 : deeps 0 M.length M (n + 2) [.int b] = some [.int b] := deeps_vals rfl (by simp)
  have e3 : deeps 0 M.length M (n + 3) [.ref i, .int b] = some [.tl ds, .int b] := by
    rw [deeps, e1, e2]
  show (deeps 0 M.length M (n + 3) [.ref i, .int b]).map D.tup = _
  rw [e3]
  rfl
theorem out_row {ds : List D} {b : Int} {i : Nat} (hM : M[i]? = some (.lst ds)) (hv : D.vals ds = true) (hl : ds.length < 99996) : outD 0 M (.tup [.ref i, .int b]) = some (.tup [.tl ds, .int b]) := deep_row (n := 99996) hM hv hl
/-- the row at the bottom -/
def Bot (rows : List (List D)) (s : Nat) : Prop := match rows with
  | [] => False
  | [row] => (s = 0 ∧ row = []) ∨ (s = 1 ∧ ∃ d, row = [d])
  | rows => rows.getLast? = some []
theorem cn_eq : Str.ofString ":" = st [58] := by decide +kernel
theorem bst_no {rows : List (List D)} {s : Nat} {tk : Tk} (hok : rOk tk) (c1 : ¬ (rawL tk = [40] ∧ s ≠ 1)) (c2 : ¬ (rawL tk = [41] ∧ s ≠ 2 ∧ 1 < rows.length)) (c3 : ¬ (rawL tk = [44] ∧ s = 1 ∧ 1 < rows.length)) (h : rawL tk ∈ [[40], [41], [44], [58]] ∨ s = 1) : bst rows s tk = none := by
  have out : (∀ c, tk ≠ .sg c) → s = 1 := fun z => by
    rcases h with h | h
    · simp only [List.mem_cons, List.not_mem_nil, or_false] at h
      rcases h with h | h | h | h <;> exact absurd (raw_sig hok (by decide) h) (z _)
    · exact h
  cases tk with
  | sg c =>
    rw [bst_sg]
    by_cases h1 : c = 40
    · rw [if_pos h1, if_pos (Classical.byContradiction fun z => c1 ⟨by rw [h1]; rfl, z⟩)]
    · rw [if_neg h1]
      by_cases h2 : c = 41
      · rw [if_pos h2]
        by_cases s2 : s = 2
        · rw [if_pos s2]
        · rw [if_neg s2]
          rcases rows with _ | ⟨a, _ | ⟨b, rs⟩⟩
          · rfl
          · rfl
          · exact absurd ⟨by rw [h2]; rfl, s2, by simp⟩ c2
      · rw [if_neg h2]
        by_cases h3 : c = 44
        · rw [if_pos h3, if_neg (fun z => c3 ⟨by rw [h3]; rfl, z⟩)]
        · rw [if_neg h3]
  | wd w => exact if_pos (out fun c z => nomatch z)
  | nm w => exact if_pos (out fun c z => nomatch z)
theorem Bot_push {rows : List (List D)} {s : Nat} (h : Bot rows s) (hs : s ≠ 1) : Bot ([] :: rows) 0 := by
  match rows, h with
  | [], h => exact h.elim
  | [row], h =>
    rcases h with ⟨_, rfl⟩ | ⟨z, _⟩
    · rfl
    · exact absurd z hs
  | r1 :: r2 :: rs, h =>
    show ([] :: r1 :: r2 :: rs).getLast? = some []
    rw [List.getLast?_cons_cons]
    exact h
theorem Bot_co {rows : List (List D)} {s s' : Nat} (h : Bot rows s) (hl : 1 < rows.length) : Bot rows s' := by
  match rows, h, hl with
  | r1 :: r2 :: rs, h, _ => exact h
  | [row], _, hl => exact absurd hl (by simp)
theorem Bot_cl {r1 r2 : List D} {rs : List (List D)} {s : Nat} {x : D} (h : Bot (r1 :: r2 :: rs) s) : Bot ((r2 ++ [x]) :: rs) 1 := by
  have h' : (r1 :: r2 :: rs).getLast? = some [] := h
  rw [List.getLast?_cons_cons] at h'
  cases rs with
  | nil =>
    have : r2 = [] := by simpa using h'
    subst this
    exact .inr ⟨rfl, x, rfl⟩
  | cons r3 rs =>
    show ((r2 ++ [x]) :: r3 :: rs).getLast? = some []
    rw [List.getLast?_cons_cons] at h' ⊢
    exact h'
theorem Bot_put {r1 : List D} {rs : List (List D)} {s : Nat} {x : D} (h : Bot (r1 :: rs) s) (hs : s ≠ 1) : Bot ((r1 ++ [x]) :: rs) 1 := by
  cases rs with
  | nil =>
    rcases h with ⟨_, rfl⟩ | ⟨z, _⟩
    · exact .inr ⟨rfl, x, rfl⟩
    · exact absurd z hs
  | cons r3 rs =>
    have h' : (r1 :: r3 :: rs).getLast? = some [] := h
    show ((r1 ++ [x]) :: r3 :: rs).getLast? = some []
    rw [List.getLast?_cons_cons] at h' ⊢
    exact h'
structure Lst (R : Out) (N : Nat) (e : Nat × Bool) (tx : D) (tk bd : D) (ts' : List (Nat × Tk)) (env : Env) (M : Mem) (s : Nat) (refs : List Nat) (rows : List (List D)) (z5 z6 z7 : Option D) : Prop where
  env : env = [some tx, some tk, some bd, some (.ref 1), some (.int (s : Int)), z5, z6, z7]
  s2 : s ≤ 2
  rl : M[1]? = some (.lst (refs.reverse.map .ref))
  w : Wt M refs rows
  bot : Bot rows s
  run : brn rows s ts' e = R
  oks : ∀ p ∈ ts', rOk p.2 ∧ (rawL p.2).length ≤ 90000
  few : refs.length + ts'.length ≤ N ∧ ∀ row ∈ rows, row.length + ts'.length ≤ N
theorem cmpne_int {i j : Int} : cmpD .ne (.int i) (.int j) M = some (!decide (i = j)) := by
  show (eqD (.int i) (.int j) M).map not = _
  rw [eq_int]
  rfl
theorem wT_to {g : G} {t : E} {env : Env} {T : Bool → Mem → Prop} (B : Bool) (h : wT g t env M (fun b M' => b = B ∧ M' = M) (fun _ _ _ => False)) (ht : T B M) : wT g t env M T X := by
  rw [wT_eq] at *
  refine W0.wR.mono h (fun b M' z => ?_) (fun _ _ _ z => z.elim)
  obtain ⟨rfl, rfl⟩ := z
  exact ht
local macro_rules | `(tactic| array_mem_dec) => `(tactic| first
  | with_reducible refine vE_c ?_ | with_reducible refine vE_nope ?_ | with_reducible refine vE_var (by with_unfolding_all rfl) ?_ | with_reducible refine vE_bin ?_ | with_reducible refine vE_neg ?_ | with_reducible refine vE_cmp ?_ | with_reducible refine vE_not ?_ | with_reducible refine vE_and ?_ | with_reducible refine vE_or ?_ | with_reducible refine vE_ite ?_
  | with_reducible refine vE_tup ?_ | with_reducible refine vE_lst ?_ | with_reducible refine vE_nil ?_ | with_reducible refine vE_cons ?_ | with_reducible refine vE_idx ?_ | with_reducible refine vE_sli ?_ | with_reducible refine vE_mat ?_ | with_reducible refine vE_call ?_ | with_reducible refine vE_bi (by with_unfolding_all rfl) ?_ | with_reducible refine vE_mth ?_ | with_reducible refine vE_isi ?_ | with_reducible refine vE_att ?_ | with_reducible refine vE_own ?_ | with_reducible refine vE_new (by with_unfolding_all exact Nat.le_of_ble_eq_true rfl) ?_ | with_reducible refine vT_own ?_
  | with_reducible refine vT_nope ?_ | with_reducible refine vT_var (by with_unfolding_all rfl) ?_ | with_reducible refine vT_cmp ?_ | with_reducible refine vT_not ?_ | with_reducible refine vT_and ?_ | with_reducible refine vT_or ?_ | with_reducible refine vT_call ?_ | with_reducible refine vT_bi (by with_unfolding_all rfl) ?_ | with_reducible refine vT_isi ?_ | with_reducible refine vT_idx ?_
  | with_reducible refine vI_seq ?_ | with_reducible refine vI_txt ?_ | with_reducible refine vI_rng ?_
  | with_reducible refine vS_nil ?_ | with_reducible refine vS_skip ?_ | with_reducible refine vS_expr ?_ | with_reducible refine vS_asg ?_ | with_reducible refine vS_asgT ?_ | with_reducible refine vS_sub ?_ | with_reducible refine vS_ret ?_ | with_reducible refine vS_brk ?_ | with_reducible refine vS_cont ?_ | with_reducible refine vS_ife ?_ | with_reducible refine vS_for ?_ | with_reducible refine vS_asgA ?_ | with_reducible refine vS_aug (by with_unfolding_all rfl) ?_ | with_reducible refine vS_augA ?_ | with_reducible refine vS_whl ?_
  | with_reducible refine vaft_nx ?_ | with_reducible refine vaft_rt ?_ | with_reducible refine vaft_bk ?_ | with_reducible refine vaft_ct ?_ | with_reducible refine vturn_nx ?_ | with_reducible refine vturn_ct ?_ | with_reducible refine vturn_bk ?_ | with_reducible refine vturn_rt ?_ | with_reducible refine vfin_rtQ ?_ | with_reducible refine vfin_nxQ ?_ | with_reducible refine vturn_ex ?_ | with_reducible refine vaft_ex ?_ | with_reducible refine vfin_exQ ?_)
local macro_rules | `(tactic| array_get_dec) => `(tactic| repeat (first
  | with_reducible refine vE_c ?_ | with_reducible refine vE_nope ?_ | with_reducible refine vE_var (by with_unfolding_all rfl) ?_ | with_reducible refine vE_bin ?_ | with_reducible refine vE_neg ?_ | with_reducible refine vE_cmp ?_ | with_reducible refine vE_not ?_ | with_reducible refine vE_and ?_ | with_reducible refine vE_or ?_ | with_reducible refine vE_ite ?_
  | with_reducible refine vE_tup ?_ | with_reducible refine vE_lst ?_ | with_reducible refine vE_nil ?_ | with_reducible refine vE_cons ?_ | with_reducible refine vE_idx ?_ | with_reducible refine vE_sli ?_ | with_reducible refine vE_mat ?_ | with_reducible refine vE_call ?_ | with_reducible refine vE_bi (by with_unfolding_all rfl) ?_ | with_reducible refine vE_mth ?_ | with_reducible refine vE_isi ?_ | with_reducible refine vE_att ?_ | with_reducible refine vE_own ?_ | with_reducible refine vE_new (by with_unfolding_all exact Nat.le_of_ble_eq_true rfl) ?_ | with_reducible refine vT_own ?_
  | with_reducible refine vT_nope ?_ | with_reducible refine vT_var (by with_unfolding_all rfl) ?_ | with_reducible refine vT_cmp ?_ | with_reducible refine vT_not ?_ | with_reducible refine vT_and ?_ | with_reducible refine vT_or ?_ | with_reducible refine vT_call ?_ | with_reducible refine vT_bi (by with_unfolding_all rfl) ?_ | with_reducible refine vT_isi ?_ | with_reducible refine vT_idx ?_
  | with_reducible refine vI_seq ?_ | with_reducible refine vI_txt ?_ | with_reducible refine vI_rng ?_
  | with_reducible refine vS_nil ?_ | with_reducible refine vS_skip ?_ | with_reducible refine vS_expr ?_ | with_reducible refine vS_asg ?_ | with_reducible refine vS_asgT ?_ | with_reducible refine vS_sub ?_ | with_reducible refine vS_ret ?_ | with_reducible refine vS_brk ?_ | with_reducible refine vS_cont ?_ | with_reducible refine vS_ife ?_ | with_reducible refine vS_for ?_ | with_reducible refine vS_asgA ?_ | with_reducible refine vS_aug (by with_unfolding_all rfl) ?_ | with_reducible refine vS_augA ?_ | with_reducible refine vS_whl ?_
  | with_reducible refine vaft_nx ?_ | with_reducible refine vaft_rt ?_ | with_reducible refine vaft_bk ?_ | with_reducible refine vaft_ct ?_ | with_reducible refine vturn_nx ?_ | with_reducible refine vturn_ct ?_ | with_reducible refine vturn_bk ?_ | with_reducible refine vturn_rt ?_ | with_reducible refine vfin_rtQ ?_ | with_reducible refine vfin_nxQ ?_ | with_reducible refine vturn_ex ?_ | with_reducible refine vaft_ex ?_ | with_reducible refine vfin_exQ ?_))
theorem m_put {F F' : Fn} {nn : Nat} {rs : Ss} {Q : Fl → Prop} {a0 a1 a2 z4 z5 z6 : Option D} {d : D} {i : Nat} {front row : List D} (hrl : M[1]? = some (.lst (front ++ [.ref i]))) (hi : M[i]? = some (.lst row)) (hd : d.val = true) (hn : d ≠ .non) (hf : front.length < 10000000) (hr : row.length < 10000000)
    (h : wSs ⟨F, true, F', nn⟩ rs [a0, a1, a2, some (.ref 1), some (.int ((1 : Nat) : Int)), z5, z6, some d] (M.set i (.lst (row ++ [d]))) Q) :
    wSs ⟨F, true, F', nn⟩ (.cons (.ife (.cmp .isn (.var 7) (.c .non)) (.cons (.expr (.mth .append (.idx (.var 3) (.bin .sub (.bi .len (.cons (.var 3) .nil)) (.c (.int 1)))) (.cons (.var 7) .nil))) (.cons (.asg (.name 4) (.c (.int 1))) .nil)) .nil) rs) [a0, a1, a2, some (.ref 1), z4, z5, z6, some d] M Q := by
  with_reducible refine vS_ife ?_
  array_get_dec
  refine ⟨_, isn_val hn, ?_⟩
  rw [if_pos rfl]
  array_get_dec
  refine ⟨_, len_ref hrl, ?_⟩
  array_get_dec
  refine ⟨_, sub_ints, ?_⟩
  array_get_dec
  rw [show ((front ++ [D.ref i]).length : Int) - 1 = ((front.length : Nat) : Int) by simp]
  refine ⟨_, idx_of (.inr (.inr (.inr ⟨_, rfl, hrl⟩))) (by rw [List.getElem?_append_right (Nat.le_refl _), Nat.sub_self]; rfl) (by omega), ?_⟩
  refine ⟨lst_ok hi, ?_⟩
  array_get_dec
  refine ⟨_, frzs_vals (ds := [d]) (by show (d.val && true) = true; rw [hd]; rfl), arg_val hd, .non, _, app_end hi (by omega), ?_⟩
  array_get_dec
  refine ⟨_, rfl, ?_⟩
  array_get_dec
  exact h
theorem m_lread {l : List Nat} (hl : l.length ≤ 90000) (ho : okT l = true) (hd : cntD l ≤ 60) {Q : D → Mem → Prop}
    (h : match brn [[]] 0 (lexF l 0).1 (lexF l 0).2 with
      | .ok d => Q (.tup [.tl [d], .int (-1)]) M
      | .bad n => Q (.tup [.non, .int (n : Int)]) M) : wR (inv (CC (k + 3)) "_law_read" [.str (st l)] M) Q X := by
  have hl2 : l.length ≤ 16777216 := by omega
  refine inv_vW rfl ?_
  refine C_w k74_l__law_read rfl ?_
  show wSs _ k74_b__law_read [some (.str (st l)), none, none, none, none, none, none, none] _ _
  unfold k74_b__law_read
  rw [op_eq, cl_eq, co_eq, cn_eq, dig_eq]
  have hrok : ∀ p ∈ (lexF l 0).1, rOk p.2 ∧ (rawL p.2).length ≤ 90000 := fun p hp => ⟨lex_rOk _ _ _ (Nat.le_trans (cntD_drop _ _) hd) p hp, Nat.le_trans (lex_raw _ _ _ p hp) (by rw [List.length_drop]; omega)⟩
  have hfin : (lexF l 0).2.2 = true → (lexF l 0).2.1 = l.length := fun z => by
    have := lex_fin l.length 0 (l.drop 0) (Nat.le_trans (cntD_drop _ _) hd) (Nat.le_refl _) z
    rw [List.drop_zero, Nat.zero_add] at this
    exact this
  have htl : (lexF l 0).1.length ≤ 90000 := Nat.le_trans (lex_len _ _ _) hl
  array_get_dec
  refine ⟨_, rfl, ?_⟩
  refine m_ltokens hl ho hd ?_
  generalize lexF l 0 = L at h hrok hfin htl ⊢
  obtain ⟨ts, e⟩ := L
  dsimp only at h hrok hfin htl ⊢
  refine ⟨_, frz_val (show (D.tup [.tl (ts.map rawD), .int (badI e)]).val = true by show (D.vals (ts.map rawD) && (true && true)) = true; rw [raws_vals]; rfl), ?_⟩
  refine ⟨_, rfl, ?_⟩
  array_get_dec
  refine ⟨_, rfl, Nat.zero_le _, ?_⟩
  refine ⟨_, rfl, ?_⟩
  array_get_dec
  refine ⟨_, rfl, Nat.le_of_ble_eq_true rfl, ?_⟩
  refine ⟨_, rfl, ?_⟩
  array_get_dec
  refine ⟨_, rfl, Nat.le_of_ble_eq_true rfl, ?_⟩
  refine ⟨_, rfl, ?_⟩
  refine ⟨_, rfl, ?_⟩
  array_get_dec
  generalize hR : brn [[]] 0 ts e = R at h
  refine ⟨_, rfl, fun L env M' => ∃ ts' s refs rows z5 z6 z7, L = ts'.map rawD ∧ Lst R (ts.length + 1) e (.str (st l)) (.tl (ts.map rawD)) (.int (badI e)) ts' env M' s refs rows z5 z6 z7, fun _ _ _ _ => rfl, ⟨ts, 0, [0], [[]], _, _, _, rfl, ⟨rfl, by decide, rfl, ⟨rfl, fun j i row h1 h2 => ?_, by decide, fun i hi => ?_, fun row hr => ?_⟩, .inl ⟨rfl, rfl⟩, hR, hrok, ⟨by simp; omega, fun row hr => ?_⟩⟩⟩, ?_, ?_⟩
  · cases j with
    | zero =>
      simp at h1 h2
      subst h1 h2
      rfl
    | succ j => simp at h1
  · have : i = 0 := by simpa using hi
    subst this
    exact ⟨by decide, by decide⟩
  · have : row = [] := by simpa using hr
    subst this
    rfl
  · have : row = [] := by simpa using hr
    subst this
    simp
  · rintro x L env M' ⟨ts', s, refs, rows, z5, z6, z7, el, hL⟩
    cases ts' with
    | nil => cases el
    | cons p ts' =>
      obtain ⟨sp, tk⟩ := p
      obtain ⟨x1, x2⟩ := List.cons.inj el
      subst x1 x2
      obtain ⟨rfl, hs2, hrl, hw, hbot, hrun, hoks, hfew⟩ := hL
      obtain ⟨hok, hraw⟩ := hoks _ List.mem_cons_self
      dsimp only at hok hraw
      have hokT := raw_okT hok
      refine ⟨_, rfl, ?_⟩
      array_get_dec
      refine ⟨_, rfl, ?_⟩
      have hrf : (refs.reverse.map D.ref).length = refs.length := by rw [List.length_map, List.length_reverse]
      with_reducible refine vS_ife ?_
      refine wT_to (decide (rawL tk = [40]) && !decide (s = 1)) ?_ ?_
      · array_get_dec
        refine ⟨_, cmpeq_st hokT (by decide), ?_⟩
        by_cases a : rawL tk = [40]
        · rw [if_pos (by simpa using a)]
          array_get_dec
          refine ⟨_, cmpne_int (M := M'), ?_⟩
          refine ⟨?_, rfl⟩
          rw [decide_eq_true a]
          by_cases b : s = 1
          · subst b
            rfl
          · rw [decide_eq_false b, decide_eq_false (by omega)]
            rfl
        · rw [if_neg (by simpa using a)]
          refine ⟨?_, rfl⟩
          rw [decide_eq_false a]
          rfl
      have hm2 : 2 ≤ M'.length := (List.getElem?_eq_some_iff.mp hrl).1
      by_cases c1 : rawL tk = [40] ∧ s ≠ 1
      · obtain rfl := raw_sig hok (by decide) c1.1
        rw [if_pos (by rw [decide_eq_true c1.1, decide_eq_false c1.2]; rfl)]
        array_get_dec
        refine ⟨lst_ok hrl, ?_⟩
        array_get_dec
        refine ⟨_, rfl, Nat.zero_le _, ?_⟩
        refine ⟨_, rfl, ?_⟩
        array_get_dec
        have hrl2 : (M' ++ [MO.lst []])[1]? = some (MO.lst (refs.reverse.map D.ref)) := by
          rw [List.getElem?_append_left (by omega)]
          exact hrl
        have hw2 := hw.push hm2
        refine ⟨_, rfl, rfl, .non, _, app_end hrl2 (by rw [hrf]; have := hfew.1; simp at this; omega), ?_⟩
        have hw3 := hw2.set (o := MO.lst (refs.reverse.map D.ref ++ [D.ref M'.length]))
        have hrl3 : ((M' ++ [MO.lst []]).set 1 (MO.lst (refs.reverse.map D.ref ++ [D.ref M'.length])))[1]? = some (MO.lst (refs.reverse.map D.ref ++ [D.ref M'.length])) := List.getElem?_set_self (List.getElem?_eq_some_iff.mp hrl2).1
        generalize (M' ++ [MO.lst []]).set 1 (MO.lst (refs.reverse.map D.ref ++ [D.ref M'.length])) = M3 at hw3 hrl3 ⊢
        array_get_dec
        refine ⟨_, rfl, ?_⟩
        array_get_dec
        refine ⟨_, rfl, ?_⟩
        rw [if_neg (by decide)]
        array_get_dec
        rw [brn_some (bst_op c1.2)] at hrun
        refine ⟨ts', 0, M'.length :: refs, [] :: rows, _, _, _, rfl, rfl, by decide, ?_, hw3, ?_, hrun, fun p hp => hoks p (List.mem_cons_of_mem _ hp), ⟨by have := hfew.1; simp at this ⊢; omega, fun row hr => ?_⟩⟩
        · rw [List.reverse_cons, List.map_append]
          exact hrl3
        · exact Bot_push hbot c1.2
        · rcases List.mem_cons.mp hr with rfl | hr
          · have := hfew.1
            simp at this ⊢
            omega
          · have := hfew.2 row hr
            simp at this
            omega
      · rw [if_neg (by simpa using c1)]
        with_reducible refine vS_ife ?_
        refine wT_to (decide (rawL tk = [41]) && (!decide (s = 2) && decide (1 < refs.length))) ?_ ?_
        · array_get_dec
          refine ⟨_, cmpeq_st hokT (by decide), ?_⟩
          by_cases a : rawL tk = [41]
          · rw [if_pos (by simpa using a)]
            array_get_dec
            refine ⟨_, cmpne_int (M := M'), ?_⟩
            rw [decide_eq_true a]
            by_cases b : s = 2
            · subst b
              rw [if_neg (by decide)]
              exact ⟨rfl, rfl⟩
            · rw [if_pos (by simp; omega)]
              array_get_dec
              refine ⟨_, len_ref hrl, ?_⟩
              array_get_dec
              refine ⟨_, rfl, ?_⟩
              refine ⟨?_, rfl⟩
              rw [decide_eq_false b, hrf]
              by_cases c : 1 < refs.length
              · rw [decide_eq_true c, decide_eq_true (by omega)]
                rfl
              · rw [decide_eq_false c, decide_eq_false (by omega)]
                rfl
          · rw [if_neg (by simpa using a)]
            refine ⟨?_, rfl⟩
            rw [decide_eq_false a]
            rfl
        by_cases c2 : rawL tk = [41] ∧ s ≠ 2 ∧ 1 < refs.length
        · obtain rfl := raw_sig hok (by decide) c2.1
          rw [if_pos (by rw [decide_eq_true c2.1, decide_eq_false c2.2.1, decide_eq_true c2.2.2]; rfl)]
          have hlen := hw.len
          obtain ⟨i1, i2, is, rfl⟩ : ∃ a b c, refs = a :: b :: c := by
            rcases refs with _ | ⟨a, _ | ⟨b, c⟩⟩
            · exact absurd c2.2.2 (by simp)
            · exact absurd c2.2.2 (by simp)
            · exact ⟨a, b, c, rfl⟩
          obtain ⟨r1, r2, rs, rfl⟩ : ∃ a b c, rows = a :: b :: c := by
            rcases rows with _ | ⟨a, _ | ⟨b, c⟩⟩
            · exact absurd hlen (by simp)
            · exact absurd hlen (by simp)
            · exact ⟨a, b, c, rfl⟩
          have hrl' : M'[1]? = some (MO.lst ((i2 :: is).reverse.map D.ref ++ [D.ref i1])) := by
            rw [hrl, List.reverse_cons, List.map_append]
            rfl
          array_get_dec
          refine ⟨lst_ok hrl', ?_⟩
          array_get_dec
          refine ⟨_, rfl, rfl, _, _, pop_last hrl', ?_⟩
          have hw3 := hw.set (o := MO.lst ((i2 :: is).reverse.map D.ref))
          have hrl3 : (M'.set 1 (MO.lst ((i2 :: is).reverse.map D.ref)))[1]? = some (MO.lst ((i2 :: is).reverse.map D.ref)) := List.getElem?_set_self (List.getElem?_eq_some_iff.mp hrl').1
          generalize M'.set 1 (MO.lst ((i2 :: is).reverse.map D.ref)) = M3 at hw3 hrl3 ⊢
          array_get_dec
          refine ⟨_, tup_ref (hw3.at_ 0 i1 r1 rfl rfl), ?_⟩
          array_get_dec
          refine ⟨_, frz_val (show (D.tup r1).val = true from hw.vals r1 List.mem_cons_self), ?_⟩
          iterate 4 array_mem_dec
          have hrl4 : M3[1]? = some (MO.lst (is.reverse.map D.ref ++ [D.ref i2])) := by
            rw [hrl3, List.reverse_cons, List.map_append]
            rfl
          have hi2 := hw3.at_ 1 i2 r2 rfl rfl
          have hge := hw3.ge i2 (List.mem_cons_of_mem _ List.mem_cons_self)
          have hv1 : (D.tup r1).val = true := hw.vals r1 List.mem_cons_self
          have hv2 : D.vals (r2 ++ [D.tup r1]) = true := vals_app (hw.vals r2 (List.mem_cons_of_mem _ List.mem_cons_self)) (by show ((D.tup r1).val && true) = true; rw [hv1]; rfl)
          have f1 := hfew.1
          have f2 := hfew.2 r2 (List.mem_cons_of_mem _ List.mem_cons_self)
          simp only [List.length_cons] at f1 f2
          refine m_put hrl4 hi2 hv1 (fun z => nomatch z) (by rw [List.length_map, List.length_reverse]; omega) (by omega) ?_
          array_get_dec
          have hb := bst_cl (rows := r1 :: r2 :: rs) c2.2.1
          rw [brn_some hb] at hrun
          refine ⟨ts', 1, i2 :: is, (r2 ++ [.tup r1]) :: rs, _, _, _, rfl, rfl, by decide, ?_, hw3.tail.top hv2, Bot_cl hbot, hrun, fun p hp => hoks p (List.mem_cons_of_mem _ hp), ⟨by simp only [List.length_cons]; omega, fun row hr => ?_⟩⟩
          · rw [List.getElem?_set_ne (by omega), hrl3]
          · rcases List.mem_cons.mp hr with rfl | hr
            · simp only [List.length_append, List.length_cons, List.length_nil]
              omega
            · have := hfew.2 row (List.mem_cons_of_mem _ (List.mem_cons_of_mem _ hr))
              simp only [List.length_cons] at this
              omega
        · rw [if_neg (by simpa using c2)]
          with_reducible refine vS_ife ?_
          refine wT_to (decide (rawL tk = [44]) && (decide (s = 1) && decide (1 < refs.length))) ?_ ?_
          · array_get_dec
            refine ⟨_, cmpeq_st hokT (by decide), ?_⟩
            by_cases a : rawL tk = [44]
            · rw [if_pos (by simpa using a)]
              array_get_dec
              refine ⟨_, eq_intC _ _, ?_⟩
              rw [decide_eq_true a]
              by_cases b : s = 1
              · subst b
                rw [if_pos (by decide)]
                array_get_dec
                refine ⟨_, len_ref hrl, ?_⟩
                array_get_dec
                refine ⟨_, rfl, ?_⟩
                refine ⟨?_, rfl⟩
                rw [hrf]
                by_cases c : 1 < refs.length
                · rw [decide_eq_true c, decide_eq_true (by omega)]
                  rfl
                · rw [decide_eq_false c, decide_eq_false (by omega)]
                  rfl
              · rw [if_neg (by simp; omega)]
                rw [decide_eq_false b]
                exact ⟨rfl, rfl⟩
            · rw [if_neg (by simpa using a)]
              refine ⟨?_, rfl⟩
              rw [decide_eq_false a]
              rfl
          by_cases c3 : rawL tk = [44] ∧ s = 1 ∧ 1 < refs.length
          · obtain rfl := raw_sig hok (by decide) c3.1
            rw [if_pos (by rw [decide_eq_true c3.1, decide_eq_true c3.2.1, decide_eq_true c3.2.2]; rfl)]
            array_get_dec
            refine ⟨_, rfl, ?_⟩
            array_get_dec
            refine ⟨_, rfl, ?_⟩
            rw [if_neg (by decide)]
            array_get_dec
            have hlr : 1 < rows.length := by rw [← hw.len]; exact c3.2.2
            rw [brn_some (bst_co ⟨c3.2.1, hlr⟩)] at hrun
            exact ⟨ts', 2, refs, rows, _, _, _, rfl, rfl, by decide, hrl, hw, Bot_co hbot hlr, hrun, fun p hp => hoks p (List.mem_cons_of_mem _ hp), ⟨by have := hfew.1; simp at this; omega, fun row hr => by have := hfew.2 row hr; simp at this; omega⟩⟩
          · rw [if_neg (by simpa using c3)]
            array_get_dec
            refine ⟨_, rfl, Nat.le_of_ble_eq_true rfl, _, mem_sts (ws := [[40], [41], [44], [58]]) (.inr (.inl rfl)) hokT (by decide), ?_⟩
            have bad : (rawL tk ∈ [[40], [41], [44], [58]] ∨ s = 1) → ∃ v', outD 0 M' (.tup [.non, .int (sp : Int)]) = some v' ∧ Q v' M := fun hh => by
              rw [brn_none (bst_no hok c1 (by rw [← hw.len]; exact c2) (by rw [← hw.len]; exact c3) hh)] at hrun
              rw [← hrun] at h
              exact ⟨_, out_val rfl, h⟩
            by_cases hin : rawL tk ∈ [[40], [41], [44], [58]]
            · rw [if_pos (by simpa using hin), if_pos rfl]
              array_get_dec
              refine ⟨_, rfl, Nat.le_of_ble_eq_true rfl, ?_⟩
              array_get_dec
              exact bad (.inl hin)
            · rw [if_neg (by simpa using hin)]
              array_get_dec
              refine ⟨_, eq_intC _ _, ?_⟩
              by_cases hs1 : s = 1
              · rw [if_pos (by simp; omega)]
                array_get_dec
                refine ⟨_, rfl, Nat.le_of_ble_eq_true rfl, ?_⟩
                array_get_dec
                exact bad (.inr hs1)
              · rw [if_neg (by simp; omega)]
                array_get_dec
                obtain ⟨a, c, ew, hcd⟩ := raw_last hok
                have hlen := hw.len
                obtain ⟨r1, rs, rfl⟩ : ∃ a b, rows = a :: b := by
                  rcases rows with _ | ⟨a, b⟩
                  · exact hbot.elim
                  · exact ⟨a, b, rfl⟩
                obtain ⟨i1, is, rfl⟩ : ∃ a b, refs = a :: b := by
                  rcases refs with _ | ⟨a, b⟩
                  · exact absurd hlen (by simp)
                  · exact ⟨a, b, rfl⟩
                have hrl4 : M'[1]? = some (MO.lst (is.reverse.map D.ref ++ [D.ref i1])) := by
                  rw [hrl, List.reverse_cons, List.map_append]
                  rfl
                have f1 := hfew.1
                have f2 := hfew.2 r1 List.mem_cons_self
                simp only [List.length_cons] at f1 f2
                have hge := hw.ge i1 List.mem_cons_self
                have hlast : (rawL tk)[a.length]? = some c := by
                  rw [ew, List.getElem?_append_right (Nat.le_refl _), Nat.sub_self]
                  rfl
                have hal : ((rawL tk).length : Int) - 1 = (a.length : Int) := by
                  rw [ew]
                  simp
                refine ⟨_, len_st (l := rawL tk) (by omega), ?_⟩
                array_get_dec
                refine ⟨_, sub_ints, ?_⟩
                rw [hal]
                refine ⟨_, idx_st (l := rawL tk) (by omega) hlast, ?_⟩
                array_get_dec
                refine ⟨_, mem_st (M := []), ?_⟩
                have fin : ∀ d : D, d.val = true → bst (r1 :: rs) s tk = some ((r1 ++ [d]) :: rs, 1) → ∀ z5 z6 z7 : Option D, ∃ ts'' s' refs rows y5 y6 y7, ts'.map rawD = List.map rawD ts'' ∧ Lst R (ts.length + 1) e (.str (st l)) (.tl (ts.map rawD)) (.int (badI e)) ts'' [some (.str (st l)), some (.tl (ts.map rawD)), some (.int (badI e)), some (.ref 1), some (.int ((1 : Nat) : Int)), z5, z6, z7] (M'.set i1 (.lst (r1 ++ [d]))) s' refs rows y5 y6 y7 := fun d hdv hb z5 z6 z7 => by
                  rw [brn_some hb] at hrun
                  have hv2 : D.vals (r1 ++ [d]) = true := vals_app (hw.vals r1 List.mem_cons_self) (by show (d.val && true) = true; rw [hdv]; rfl)
                  refine ⟨ts', 1, i1 :: is, (r1 ++ [d]) :: rs, _, _, _, rfl, rfl, by decide, ?_, hw.top hv2, Bot_put hbot hs1, hrun, fun p hp => hoks p (List.mem_cons_of_mem _ hp), ⟨by simp only [List.length_cons]; omega, fun row hr => ?_⟩⟩
                  · rw [List.getElem?_set_ne (by omega)]
                    exact hrl
                  · rcases List.mem_cons.mp hr with rfl | hr
                    · simp only [List.length_append, List.length_cons, List.length_nil]
                      omega
                    · have := hfew.2 row (List.mem_cons_of_mem _ hr)
                      simp only [List.length_cons] at this
                      omega
                by_cases hcm : c ∈ DIG
                · obtain ⟨w, rfl⟩ := hcd.mp hcm
                  rw [if_pos (by simpa using hcm)]
                  array_get_dec
                  refine ⟨_, int_st hok.2.2.1 hok.2.2.2, ?_⟩
                  array_get_dec
                  refine ⟨_, rfl, ?_⟩
                  iterate 10 array_mem_dec
                  refine m_put hrl4 (hw.at_ 0 i1 r1 rfl rfl) rfl (fun z => nomatch z) (by rw [List.length_map, List.length_reverse]; omega) (by omega) ?_
                  array_get_dec
                  exact fin _ rfl (if_neg hs1) _ _ _
                · rw [if_neg (by simpa using hcm)]
                  array_get_dec
                  refine ⟨_, rfl, ?_⟩
                  iterate 10 array_mem_dec
                  refine m_put hrl4 (hw.at_ 0 i1 r1 rfl rfl) rfl (fun z => nomatch z) (by rw [List.length_map, List.length_reverse]; omega) (by omega) ?_
                  array_get_dec
                  refine fin _ rfl ?_ _ _ _
                  cases tk with
                  | sg c =>
                    have hc : c ∈ SIG := hok
                    unfold SIG at hc
                    simp only [List.mem_cons, List.not_mem_nil, or_false] at hc
                    exact absurd (by rcases hc with rfl | rfl | rfl | rfl <;> simp [rawL]) hin
                  | wd w => exact if_neg hs1
                  | nm w => exact absurd (hcd.mpr ⟨w, rfl⟩) hcm
  · rintro env M' ⟨ts', s, refs, rows, z5, z6, z7, el, hL⟩
    obtain rfl : ts' = [] := by
      cases ts' with
      | nil => rfl
      | cons a b => cases el
    obtain ⟨rfl, hs2, hrl, hw, hbot, hrun, hoks, hfew⟩ := hL
    array_get_dec
    refine ⟨_, rfl, ?_⟩
    obtain ⟨ep, eb⟩ := e
    cases eb with
    | false =>
      have hb : R = .bad ep := by
        rw [← hrun]
        exact if_neg (fun z => nomatch z.1)
      rw [hb] at h
      rw [if_pos (by show decide ((0 : Int) ≤ (ep : Int)) = true; simp)]
      array_get_dec
      refine ⟨_, rfl, Nat.le_of_ble_eq_true rfl, ?_⟩
      array_get_dec
      exact ⟨_, out_val rfl, h⟩
    | true =>
      have hep : ep = l.length := hfin rfl
      subst hep
      rw [if_neg (by show ¬ decide ((0 : Int) ≤ -1) = true; decide)]
      have bad : R = .bad l.length → ∃ v', outD 0 M' (.tup [.non, .int (l.length : Int)]) = some v' ∧ Q v' M := fun hb => by
        rw [hb] at h
        exact ⟨_, out_val rfl, h⟩
      array_get_dec
      refine ⟨_, cmpne_int (M := M'), ?_⟩
      by_cases hs1 : s = 1
      · subst hs1
        rw [if_neg (by decide)]
        array_get_dec
        refine ⟨_, len_ref hrl, ?_⟩
        array_get_dec
        refine ⟨_, cmpne_int (M := M'), ?_⟩
        have hlen := hw.len
        match rows, hbot, hlen, hw, hrun with
        | [], hbot, _, _, _ => exact hbot.elim
        | [row], hbot, hlen, hw, hrun =>
          obtain ⟨i, rfl⟩ := List.length_eq_one_iff.mp hlen
          rcases hbot with ⟨z, _⟩ | ⟨_, d, rfl⟩
          · exact absurd z (by decide)
          rw [if_neg (by simp)]
          array_get_dec
          refine ⟨_, idx_of (j := 0) (.inr (.inr (.inr ⟨_, rfl, hrl⟩))) rfl (by decide), ?_⟩
          array_get_dec
          refine ⟨_, rfl, ?_⟩
          array_get_dec
          refine ⟨_, rfl, Nat.le_of_ble_eq_true rfl, ?_⟩
          array_get_dec
          have hb : R = .ok d := by
            rw [← hrun]
            exact if_pos ⟨rfl, rfl⟩
          rw [hb] at h
          exact ⟨_, out_row (hw.at_ 0 i [d] rfl rfl) (hw.vals _ List.mem_cons_self) (by simp), h⟩
        | r1 :: r2 :: rs, hbot, hlen, hw, hrun =>
          rw [if_pos (by rw [List.length_map, List.length_reverse, hlen]; simp; omega)]
          array_get_dec
          refine ⟨_, len_st hl2, ?_⟩
          array_get_dec
          refine ⟨_, rfl, Nat.le_of_ble_eq_true rfl, ?_⟩
          array_get_dec
          refine bad ?_
          rw [← hrun]
          rcases r1 with _ | ⟨a, _ | ⟨b, r1⟩⟩ <;> exact if_pos ⟨rfl, rfl⟩
      · rw [if_pos (by simp; omega), if_pos rfl]
        array_get_dec
        refine ⟨_, len_st hl2, ?_⟩
        array_get_dec
        refine ⟨_, rfl, Nat.le_of_ble_eq_true rfl, ?_⟩
        array_get_dec
        refine bad ?_
        rw [← hrun]
        exact if_neg (fun z => hs1 z.2)
end Z
end
section
set_option Elab.async false
set_option linter.all false
set_option maxRecDepth 100000
set_option maxHeartbeats 1000000
set_option autoImplicit false
/-! _law_same, _law_refused, _law_goes. -/
namespace Z
open PySem
variable {M : Mem} {X : Ex} {k : Nat} {r : Nat}
local macro_rules | `(tactic| array_mem_dec) => `(tactic| first
  | with_reducible refine vE_c ?_ | with_reducible refine vE_nope ?_ | with_reducible refine vE_var (by with_unfolding_all rfl) ?_ | with_reducible refine vE_bin ?_ | with_reducible refine vE_neg ?_ | with_reducible refine vE_cmp ?_ | with_reducible refine vE_not ?_ | with_reducible refine vE_and ?_ | with_reducible refine vE_or ?_ | with_reducible refine vE_ite ?_
  | with_reducible refine vE_tup ?_ | with_reducible refine vE_lst ?_ | with_reducible refine vE_nil ?_ | with_reducible refine vE_cons ?_ | with_reducible refine vE_idx ?_ | with_reducible refine vE_sli ?_ | with_reducible refine vE_mat ?_ | with_reducible refine vE_call ?_ | with_reducible refine vE_bi (by with_unfolding_all rfl) ?_ | with_reducible refine vE_mth ?_ | with_reducible refine vE_isi ?_ | with_reducible refine vE_att ?_ | with_reducible refine vE_own ?_ | with_reducible refine vE_new (by with_unfolding_all exact Nat.le_of_ble_eq_true rfl) ?_ | with_reducible refine vT_own ?_
  | with_reducible refine vT_nope ?_ | with_reducible refine vT_var (by with_unfolding_all rfl) ?_ | with_reducible refine vT_cmp ?_ | with_reducible refine vT_not ?_ | with_reducible refine vT_and ?_ | with_reducible refine vT_or ?_ | with_reducible refine vT_call ?_ | with_reducible refine vT_bi (by with_unfolding_all rfl) ?_ | with_reducible refine vT_isi ?_ | with_reducible refine vT_idx ?_
  | with_reducible refine vI_seq ?_ | with_reducible refine vI_txt ?_ | with_reducible refine vI_rng ?_
  | with_reducible refine vS_nil ?_ | with_reducible refine vS_skip ?_ | with_reducible refine vS_expr ?_ | with_reducible refine vS_asg ?_ | with_reducible refine vS_asgT ?_ | with_reducible refine vS_sub ?_ | with_reducible refine vS_ret ?_ | with_reducible refine vS_brk ?_ | with_reducible refine vS_cont ?_ | with_reducible refine vS_ife ?_ | with_reducible refine vS_for ?_ | with_reducible refine vS_asgA ?_ | with_reducible refine vS_aug (by with_unfolding_all rfl) ?_ | with_reducible refine vS_augA ?_ | with_reducible refine vS_whl ?_
  | with_reducible refine vaft_nx ?_ | with_reducible refine vaft_rt ?_ | with_reducible refine vaft_bk ?_ | with_reducible refine vaft_ct ?_ | with_reducible refine vturn_nx ?_ | with_reducible refine vturn_ct ?_ | with_reducible refine vturn_bk ?_ | with_reducible refine vturn_rt ?_ | with_reducible refine vfin_rtQ ?_ | with_reducible refine vfin_nxQ ?_ | with_reducible refine vturn_ex ?_ | with_reducible refine vaft_ex ?_ | with_reducible refine vfin_exQ ?_)
local macro_rules | `(tactic| array_get_dec) => `(tactic| repeat (first
  | with_reducible refine vE_c ?_ | with_reducible refine vE_nope ?_ | with_reducible refine vE_var (by with_unfolding_all rfl) ?_ | with_reducible refine vE_bin ?_ | with_reducible refine vE_neg ?_ | with_reducible refine vE_cmp ?_ | with_reducible refine vE_not ?_ | with_reducible refine vE_and ?_ | with_reducible refine vE_or ?_ | with_reducible refine vE_ite ?_
  | with_reducible refine vE_tup ?_ | with_reducible refine vE_lst ?_ | with_reducible refine vE_nil ?_ | with_reducible refine vE_cons ?_ | with_reducible refine vE_idx ?_ | with_reducible refine vE_sli ?_ | with_reducible refine vE_mat ?_ | with_reducible refine vE_call ?_ | with_reducible refine vE_bi (by with_unfolding_all rfl) ?_ | with_reducible refine vE_mth ?_ | with_reducible refine vE_isi ?_ | with_reducible refine vE_att ?_ | with_reducible refine vE_own ?_ | with_reducible refine vE_new (by with_unfolding_all exact Nat.le_of_ble_eq_true rfl) ?_ | with_reducible refine vT_own ?_
  | with_reducible refine vT_nope ?_ | with_reducible refine vT_var (by with_unfolding_all rfl) ?_ | with_reducible refine vT_cmp ?_ | with_reducible refine vT_not ?_ | with_reducible refine vT_and ?_ | with_reducible refine vT_or ?_ | with_reducible refine vT_call ?_ | with_reducible refine vT_bi (by with_unfolding_all rfl) ?_ | with_reducible refine vT_isi ?_ | with_reducible refine vT_idx ?_
  | with_reducible refine vI_seq ?_ | with_reducible refine vI_txt ?_ | with_reducible refine vI_rng ?_
  | with_reducible refine vS_nil ?_ | with_reducible refine vS_skip ?_ | with_reducible refine vS_expr ?_ | with_reducible refine vS_asg ?_ | with_reducible refine vS_asgT ?_ | with_reducible refine vS_sub ?_ | with_reducible refine vS_ret ?_ | with_reducible refine vS_brk ?_ | with_reducible refine vS_cont ?_ | with_reducible refine vS_ife ?_ | with_reducible refine vS_for ?_ | with_reducible refine vS_asgA ?_ | with_reducible refine vS_aug (by with_unfolding_all rfl) ?_ | with_reducible refine vS_augA ?_ | with_reducible refine vS_whl ?_
  | with_reducible refine vaft_nx ?_ | with_reducible refine vaft_rt ?_ | with_reducible refine vaft_bk ?_ | with_reducible refine vaft_ct ?_ | with_reducible refine vturn_nx ?_ | with_reducible refine vturn_ct ?_ | with_reducible refine vturn_bk ?_ | with_reducible refine vturn_rt ?_ | with_reducible refine vfin_rtQ ?_ | with_reducible refine vfin_nxQ ?_ | with_reducible refine vturn_ex ?_ | with_reducible refine vaft_ex ?_ | with_reducible refine vfin_exQ ?_))
theorem m_refused {l : List Nat} (hl : l.length ≤ 1000000) (ho : okT l = true) (hd : cntD l ≤ 60) {n : Nat} (hb : brn [[]] 0 (lexF l 0).1 (lexF l 0).2 = .bad n) {Q : D → Mem → Prop} (h : Q (.bl true) M) :
    wR (inv (CC (k + 11)) "_law_refused" [.str (st l), .int (n : Int)] M) Q X := by
  refine inv_vW rfl ?_
  refine C_w (k := k + 10) k74_l__law_refused rfl ?_
  show wSs _ k74_b__law_refused [some (.str (st l)), some (.int (n : Int)), none, none] _ _
  unfold k74_b__law_refused
  with_reducible refine vS_try (by omega) ?_
  array_get_dec
  refine ⟨_, rfl, ?_⟩
  refine m_read_tree (k := k + 1) hl ho hd (fun d _ hd' => ?_) (fun m hm => ?_)
  · rw [hb] at hd'
    cases hd'
  · rw [hb] at hm
    cases hm
    with_reducible refine vtry_ex rfl rfl ?_
    array_get_dec
    rw [decide_eq_true rfl]
    exact ⟨_, rfl, h⟩
theorem m_goes {l : List Nat} (hl : l.length ≤ 90000) (ho : okT l = true) (hd : cntD l ≤ 60) (hs : ∀ d, d.val = true → brn [[]] 0 (lexF l 0).1 (lexF l 0).2 = .ok d → ∀ {M : Mem} {X : Ex} {Q : D → Mem → Prop}, Q (.bl true) M → wR (inv (CC (k + 12)) "_law_same" [d, d] M) Q X) {Q : D → Mem → Prop} (h : Q (.bl true) M) :
    wR (inv (CC (k + 13)) "_law_goes" [.str (st l)] M) Q X := by
  refine inv_vW rfl ?_
  refine C_w (k := k + 12) k74_l__law_goes rfl ?_
  show wSs _ k74_b__law_goes [some (.str (st l)), none, none] _ _
  unfold k74_b__law_goes
  array_get_dec
  refine ⟨_, rfl, ?_⟩
  refine m_lread (k := k + 9) hl ho hd ?_
  cases hb : brn [[]] 0 (lexF l 0).1 (lexF l 0).2 with
  | bad n =>
    dsimp only
    refine ⟨_, rfl, _, rfl, ?_⟩
    array_get_dec
    refine ⟨_, rfl, ?_⟩
    rw [if_pos (show isNon D.non = true from rfl)]
    array_get_dec
    refine ⟨_, rfl, ?_⟩
    refine m_refused (k := k + 1) (by omega) ho hd hb ?_
    array_get_dec
    exact ⟨_, rfl, h⟩
  | ok d =>
    dsimp only
    refine ⟨_, rfl, _, rfl, ?_⟩
    array_get_dec
    refine ⟨_, rfl, ?_⟩
    rw [if_neg (show ¬ isNon (D.tl [d]) = true from Bool.false_ne_true)]
    array_get_dec
    refine ⟨_, rfl, ?_⟩
    refine m_read_tree (k := k + 3) (by omega) ho hd (fun d' hv hd' => ?_) (fun m hm => ?_)
    · rw [hb] at hd'
      cases hd'
      array_get_dec
      refine ⟨_, idx_of (j := 0) (.inl rfl) rfl (by decide), ?_⟩
      array_get_dec
      refine ⟨_, frzs_vals (ds := [d, d]) (by show (d.val && (d.val && true)) = true; rw [hv]; rfl), ?_⟩
      refine hs d hv hb ?_
      array_get_dec
      exact ⟨_, rfl, h⟩
    · rw [hb] at hm
      cases hm
end Z
end
section
set_option Elab.async false
set_option linter.all false
set_option maxRecDepth 100000
set_option maxHeartbeats 1000000
set_option autoImplicit false
/-! SameOk. -/
namespace Z
open PySem
theorem k74_same : SameOk k74_P := by
  refine ⟨_, k74_l__law_same, rfl, fun x y => ?_⟩
  have e : eqD (.int x) (.int y) [] = some (decide (x = y)) := eq_int x y
  show exSs G0 k74_b__law_same [some (.int x), some (.int y), none] [] = _
  unfold k74_b__law_same
  have b1 : eqD (.bl true) (.bl true) [] = some true := by first | rfl | decide +kernel
  have b2 : eqD (.bl false) (.bl false) [] = some true := by first | rfl | decide +kernel
  simp [exSs, exS, exE, exT, exEs, onR, isTs, liftB, lift1, R.bind, cmpD, e, G0, tyOf, isB, noCls, b1, b2, isD, isNon]
end Z
end
section
set_option Elab.async false
set_option linter.all false
set_option maxRecDepth 100000
set_option maxHeartbeats 1000000
set_option autoImplicit false
/-! _law_same d d. -/
namespace Z
open PySem
variable {M : Mem} {X : Ex} {k : Nat} {r : Nat}
theorem bl_ne (b : Bool) : cmpD .ne (.bl b) (.bl b) M = some false := by
  have e : eqD (.bl b) (.bl b) M = some true := by cases b <;> first | rfl | decide +kernel
  show (eqD (.bl b) (.bl b) M).map not = _
  rw [e]
  rfl
local macro_rules | `(tactic| array_mem_dec) => `(tactic| first
  | with_reducible refine vE_c ?_ | with_reducible refine vE_nope ?_ | with_reducible refine vE_var (by with_unfolding_all rfl) ?_ | with_reducible refine vE_bin ?_ | with_reducible refine vE_neg ?_ | with_reducible refine vE_cmp ?_ | with_reducible refine vE_not ?_ | with_reducible refine vE_and ?_ | with_reducible refine vE_or ?_ | with_reducible refine vE_ite ?_
  | with_reducible refine vE_tup ?_ | with_reducible refine vE_lst ?_ | with_reducible refine vE_nil ?_ | with_reducible refine vE_cons ?_ | with_reducible refine vE_idx ?_ | with_reducible refine vE_sli ?_ | with_reducible refine vE_mat ?_ | with_reducible refine vE_call ?_ | with_reducible refine vE_bi (by with_unfolding_all rfl) ?_ | with_reducible refine vE_mth ?_ | with_reducible refine vE_isi ?_ | with_reducible refine vE_att ?_ | with_reducible refine vE_own ?_ | with_reducible refine vE_new (by with_unfolding_all exact Nat.le_of_ble_eq_true rfl) ?_ | with_reducible refine vT_own ?_
  | with_reducible refine vT_nope ?_ | with_reducible refine vT_var (by with_unfolding_all rfl) ?_ | with_reducible refine vT_cmp ?_ | with_reducible refine vT_not ?_ | with_reducible refine vT_and ?_ | with_reducible refine vT_or ?_ | with_reducible refine vT_call ?_ | with_reducible refine vT_bi (by with_unfolding_all rfl) ?_ | with_reducible refine vT_isi ?_ | with_reducible refine vT_idx ?_
  | with_reducible refine vI_seq ?_ | with_reducible refine vI_txt ?_ | with_reducible refine vI_rng ?_
  | with_reducible refine vS_nil ?_ | with_reducible refine vS_skip ?_ | with_reducible refine vS_expr ?_ | with_reducible refine vS_asg ?_ | with_reducible refine vS_asgT ?_ | with_reducible refine vS_sub ?_ | with_reducible refine vS_ret ?_ | with_reducible refine vS_brk ?_ | with_reducible refine vS_cont ?_ | with_reducible refine vS_ife ?_ | with_reducible refine vS_for ?_ | with_reducible refine vS_asgA ?_ | with_reducible refine vS_aug (by with_unfolding_all rfl) ?_ | with_reducible refine vS_augA ?_ | with_reducible refine vS_whl ?_
  | with_reducible refine vaft_nx ?_ | with_reducible refine vaft_rt ?_ | with_reducible refine vaft_bk ?_ | with_reducible refine vaft_ct ?_ | with_reducible refine vturn_nx ?_ | with_reducible refine vturn_ct ?_ | with_reducible refine vturn_bk ?_ | with_reducible refine vturn_rt ?_ | with_reducible refine vfin_rtQ ?_ | with_reducible refine vfin_nxQ ?_ | with_reducible refine vturn_ex ?_ | with_reducible refine vaft_ex ?_ | with_reducible refine vfin_exQ ?_)
local macro_rules | `(tactic| array_get_dec) => `(tactic| repeat (first
  | with_reducible refine vE_c ?_ | with_reducible refine vE_nope ?_ | with_reducible refine vE_var (by with_unfolding_all rfl) ?_ | with_reducible refine vE_bin ?_ | with_reducible refine vE_neg ?_ | with_reducible refine vE_cmp ?_ | with_reducible refine vE_not ?_ | with_reducible refine vE_and ?_ | with_reducible refine vE_or ?_ | with_reducible refine vE_ite ?_
  | with_reducible refine vE_tup ?_ | with_reducible refine vE_lst ?_ | with_reducible refine vE_nil ?_ | with_reducible refine vE_cons ?_ | with_reducible refine vE_idx ?_ | with_reducible refine vE_sli ?_ | with_reducible refine vE_mat ?_ | with_reducible refine vE_call ?_ | with_reducible refine vE_bi (by with_unfolding_all rfl) ?_ | with_reducible refine vE_mth ?_ | with_reducible refine vE_isi ?_ | with_reducible refine vE_att ?_ | with_reducible refine vE_own ?_ | with_reducible refine vE_new (by with_unfolding_all exact Nat.le_of_ble_eq_true rfl) ?_ | with_reducible refine vT_own ?_
  | with_reducible refine vT_nope ?_ | with_reducible refine vT_var (by with_unfolding_all rfl) ?_ | with_reducible refine vT_cmp ?_ | with_reducible refine vT_not ?_ | with_reducible refine vT_and ?_ | with_reducible refine vT_or ?_ | with_reducible refine vT_call ?_ | with_reducible refine vT_bi (by with_unfolding_all rfl) ?_ | with_reducible refine vT_isi ?_ | with_reducible refine vT_idx ?_
  | with_reducible refine vI_seq ?_ | with_reducible refine vI_txt ?_ | with_reducible refine vI_rng ?_
  | with_reducible refine vS_nil ?_ | with_reducible refine vS_skip ?_ | with_reducible refine vS_expr ?_ | with_reducible refine vS_asg ?_ | with_reducible refine vS_asgT ?_ | with_reducible refine vS_sub ?_ | with_reducible refine vS_ret ?_ | with_reducible refine vS_brk ?_ | with_reducible refine vS_cont ?_ | with_reducible refine vS_ife ?_ | with_reducible refine vS_for ?_ | with_reducible refine vS_asgA ?_ | with_reducible refine vS_aug (by with_unfolding_all rfl) ?_ | with_reducible refine vS_augA ?_ | with_reducible refine vS_whl ?_
  | with_reducible refine vaft_nx ?_ | with_reducible refine vaft_rt ?_ | with_reducible refine vaft_bk ?_ | with_reducible refine vaft_ct ?_ | with_reducible refine vturn_nx ?_ | with_reducible refine vturn_ct ?_ | with_reducible refine vturn_bk ?_ | with_reducible refine vturn_rt ?_ | with_reducible refine vfin_rtQ ?_ | with_reducible refine vfin_nxQ ?_ | with_reducible refine vturn_ex ?_ | with_reducible refine vaft_ex ?_ | with_reducible refine vfin_exQ ?_))
theorem m_same_int {i : Int} {Q : D → Mem → Prop} (h : Q (.bl true) M) : wR (inv (CC (k + 1)) "_law_same" [.int i, .int i] M) Q X := by
  refine inv_vW rfl ?_
  refine C_w k74_l__law_same rfl ?_
  show wSs _ k74_b__law_same [some (.int i), some (.int i), none] _ _
  unfold k74_b__law_same
  array_get_dec
  refine ⟨_, rfl, ?_⟩
  rw [if_neg (by decide)]
  array_get_dec
  repeat (first
    | (refine ⟨_, bl_ne _, ?_⟩; rw [if_neg Bool.false_ne_true]; array_get_dec)
    | (refine ⟨_, bl_ne _, ?_⟩; array_get_dec)
    | (refine ⟨_, eq_intC _ _, ?_⟩; array_get_dec)
    | (refine ⟨_, rfl, ?_⟩; array_get_dec))
  rw [decide_eq_true rfl]
  exact h
theorem m_same_str {l : List Nat} (ho : okT l = true) {Q : D → Mem → Prop} (h : Q (.bl true) M) : wR (inv (CC (k + 1)) "_law_same" [.str (st l), .str (st l)] M) Q X := by
  refine inv_vW rfl ?_
  refine C_w k74_l__law_same rfl ?_
  show wSs _ k74_b__law_same [some (.str (st l)), some (.str (st l)), none] _ _
  unfold k74_b__law_same
  array_get_dec
  refine ⟨_, rfl, ?_⟩
  rw [if_neg (by show ¬ false = true; decide)]
  array_get_dec
  repeat (first
    | (refine ⟨_, bl_ne _, ?_⟩; rw [if_neg Bool.false_ne_true]; array_get_dec)
    | (refine ⟨_, bl_ne _, ?_⟩; array_get_dec)
    | (refine ⟨_, cmpeq_st ho ho, ?_⟩; array_get_dec)
    | (refine ⟨_, rfl, ?_⟩; array_get_dec))
  rw [decide_eq_true rfl]
  exact h
end Z
end
section
set_option Elab.async false
set_option linter.all false
set_option maxRecDepth 100000
set_option maxHeartbeats 1000000
set_option autoImplicit false
/-! _law_same d d. -/
namespace Z
open PySem
variable {M : Mem} {X : Ex} {k : Nat} {r : Nat}
theorem mem_false {α : Type} (p : α → Bool) (l : List α) : memD (.bl false) (.fl (l.map fun x => D.bl (p x))) M = some (!(l.all p)) := by
  have e1 : D.plains (l.map fun x => D.bl (p x)) = true := by
    induction l with
    | nil => rfl
    | cons w ws ih => exact ih
  have e2 : D.pys (l.map fun x => D.bl (p x)) = l.map fun x => PyData.bool (p x) := by
    clear e1
    induction l with
    | nil => rfl
    | cons w ws ih =>
      rw [List.map_cons, D.pys, ih]
      rfl
  have e3 : ((l.map fun x => PyData.bool (p x)).any fun z => PyData.eqv z (.bool false)) = !(l.all p) := by
    clear e1 e2
    induction l with
    | nil => rfl
    | cons w ws ih =>
      rw [List.map_cons, List.any_cons, ih, List.all_cons]
      simp only [PyData.eqv]
      cases p w <;> cases ws.all p <;> rfl
  have e4 : SeqAt.shaped (.list (l.map fun x => PyData.bool (p x))) = true := by
    have h1 : PyData.canLayAll0 (l.map fun x => PyData.bool (p x)) = true := by
      clear e1 e2 e3
      induction l with
      | nil => simp [PyData.canLayAll0]
      | cons i l ih => simp [PyData.canLayAll0, PyData.canLay0, ih]
    have h2 : PyData.depthAll (l.map fun x => PyData.bool (p x)) = 0 := by
      clear e1 e2 e3 h1
      induction l with
      | nil => simp [PyData.depthAll]
      | cons i l ih => simp [PyData.depthAll, PyData.depth, ih]
    unfold SeqAt.shaped
    simp [PyData.canLay0, h1, PyData.depth, h2]
  have v : viewS (.bl false) M = some (.bool false) := by
    unfold viewS
    rw [show view (.bl false) M = some (.bool false) from rfl]
    dsimp only
    rw [if_pos (by unfold SeqAt.shaped; simp [PyData.canLay0, PyData.depth])]
  unfold memD
  simp only [seqOf, e1, if_true, v, e2, e4, e3]
theorem no_false {ys : List D} (h : ∀ y ∈ ys, y = .bl true) : memD (.bl false) (.fl ys) M = some false := by
  have e : ys = ys.map fun x => D.bl ((fun _ => true) x) := by
    induction ys with
    | nil => rfl
    | cons a l ih =>
      rw [List.map_cons, ← ih fun y hy => h y (List.mem_cons_of_mem _ hy), h a List.mem_cons_self]
  rw [e, mem_false, List.all_eq_true.mpr fun _ _ => rfl]
  rfl
theorem mul_tup {x : D} {m : Nat} (h : 2 ≤ m ∧ m ≤ 1000) : binD .mul (.tup [x]) (.int (m : Int)) M = some (.tup (List.replicate m x)) := by
  show (if !([x] : List D).isEmpty && (decide (2 ≤ (m : Int)) && (decide ((m : Int) ≤ 1000) && decide (([x] : List D).length ≤ 1000))) then some (D.tup (List.replicate (m : Int).toNat [x]).flatten) else none) = _
  rw [if_pos (by simp; omega), Int.toNat_natCast, List.flatten_replicate_singleton]
theorem no_falseN {ys : List D} (h : ∀ y ∈ ys, y = .bl true) : cmpD .nmem (.bl false) (.fl ys) M = some true := by
  show (memD (.bl false) (.fl ys) M).map not = _
  rw [no_false h]
  rfl
theorem vals_mem {ds : List D} (h : D.vals ds = true) : ∀ d ∈ ds, d.val = true := by
  induction ds with
  | nil => exact fun d hd => by cases hd
  | cons a l ih =>
    have h' := band (show (a.val && D.vals l) = true from h)
    intro d hd
    rcases List.mem_cons.mp hd with rfl | hd
    · exact h'.1
    · exact ih h'.2 d hd
local macro_rules | `(tactic| array_mem_dec) => `(tactic| first
  | with_reducible refine vE_c ?_ | with_reducible refine vE_nope ?_ | with_reducible refine vE_var (by with_unfolding_all rfl) ?_ | with_reducible refine vE_bin ?_ | with_reducible refine vE_neg ?_ | with_reducible refine vE_cmp ?_ | with_reducible refine vE_not ?_ | with_reducible refine vE_and ?_ | with_reducible refine vE_or ?_ | with_reducible refine vE_ite ?_
  | with_reducible refine vE_tup ?_ | with_reducible refine vE_lst ?_ | with_reducible refine vE_nil ?_ | with_reducible refine vE_cons ?_ | with_reducible refine vE_idx ?_ | with_reducible refine vE_sli ?_ | with_reducible refine vE_mat ?_ | with_reducible refine vE_call ?_ | with_reducible refine vE_bi (by with_unfolding_all rfl) ?_ | with_reducible refine vE_mth ?_ | with_reducible refine vE_isi ?_ | with_reducible refine vE_att ?_ | with_reducible refine vE_own ?_ | with_reducible refine vE_new (by with_unfolding_all exact Nat.le_of_ble_eq_true rfl) ?_ | with_reducible refine vT_own ?_
  | with_reducible refine vT_nope ?_ | with_reducible refine vT_var (by with_unfolding_all rfl) ?_ | with_reducible refine vT_cmp ?_ | with_reducible refine vT_not ?_ | with_reducible refine vT_and ?_ | with_reducible refine vT_or ?_ | with_reducible refine vT_call ?_ | with_reducible refine vT_bi (by with_unfolding_all rfl) ?_ | with_reducible refine vT_isi ?_ | with_reducible refine vT_idx ?_
  | with_reducible refine vI_seq ?_ | with_reducible refine vI_txt ?_ | with_reducible refine vI_rng ?_
  | with_reducible refine vS_nil ?_ | with_reducible refine vS_skip ?_ | with_reducible refine vS_expr ?_ | with_reducible refine vS_asg ?_ | with_reducible refine vS_asgT ?_ | with_reducible refine vS_sub ?_ | with_reducible refine vS_ret ?_ | with_reducible refine vS_brk ?_ | with_reducible refine vS_cont ?_ | with_reducible refine vS_ife ?_ | with_reducible refine vS_for ?_ | with_reducible refine vS_asgA ?_ | with_reducible refine vS_aug (by with_unfolding_all rfl) ?_ | with_reducible refine vS_augA ?_ | with_reducible refine vS_whl ?_
  | with_reducible refine vaft_nx ?_ | with_reducible refine vaft_rt ?_ | with_reducible refine vaft_bk ?_ | with_reducible refine vaft_ct ?_ | with_reducible refine vturn_nx ?_ | with_reducible refine vturn_ct ?_ | with_reducible refine vturn_bk ?_ | with_reducible refine vturn_rt ?_ | with_reducible refine vfin_rtQ ?_ | with_reducible refine vfin_nxQ ?_ | with_reducible refine vturn_ex ?_ | with_reducible refine vaft_ex ?_ | with_reducible refine vfin_exQ ?_)
local macro_rules | `(tactic| array_get_dec) => `(tactic| repeat (first
  | with_reducible refine vE_c ?_ | with_reducible refine vE_nope ?_ | with_reducible refine vE_var (by with_unfolding_all rfl) ?_ | with_reducible refine vE_bin ?_ | with_reducible refine vE_neg ?_ | with_reducible refine vE_cmp ?_ | with_reducible refine vE_not ?_ | with_reducible refine vE_and ?_ | with_reducible refine vE_or ?_ | with_reducible refine vE_ite ?_
  | with_reducible refine vE_tup ?_ | with_reducible refine vE_lst ?_ | with_reducible refine vE_nil ?_ | with_reducible refine vE_cons ?_ | with_reducible refine vE_idx ?_ | with_reducible refine vE_sli ?_ | with_reducible refine vE_mat ?_ | with_reducible refine vE_call ?_ | with_reducible refine vE_bi (by with_unfolding_all rfl) ?_ | with_reducible refine vE_mth ?_ | with_reducible refine vE_isi ?_ | with_reducible refine vE_att ?_ | with_reducible refine vE_own ?_ | with_reducible refine vE_new (by with_unfolding_all exact Nat.le_of_ble_eq_true rfl) ?_ | with_reducible refine vT_own ?_
  | with_reducible refine vT_nope ?_ | with_reducible refine vT_var (by with_unfolding_all rfl) ?_ | with_reducible refine vT_cmp ?_ | with_reducible refine vT_not ?_ | with_reducible refine vT_and ?_ | with_reducible refine vT_or ?_ | with_reducible refine vT_call ?_ | with_reducible refine vT_bi (by with_unfolding_all rfl) ?_ | with_reducible refine vT_isi ?_ | with_reducible refine vT_idx ?_
  | with_reducible refine vI_seq ?_ | with_reducible refine vI_txt ?_ | with_reducible refine vI_rng ?_
  | with_reducible refine vS_nil ?_ | with_reducible refine vS_skip ?_ | with_reducible refine vS_expr ?_ | with_reducible refine vS_asg ?_ | with_reducible refine vS_asgT ?_ | with_reducible refine vS_sub ?_ | with_reducible refine vS_ret ?_ | with_reducible refine vS_brk ?_ | with_reducible refine vS_cont ?_ | with_reducible refine vS_ife ?_ | with_reducible refine vS_for ?_ | with_reducible refine vS_asgA ?_ | with_reducible refine vS_aug (by with_unfolding_all rfl) ?_ | with_reducible refine vS_augA ?_ | with_reducible refine vS_whl ?_
  | with_reducible refine vaft_nx ?_ | with_reducible refine vaft_rt ?_ | with_reducible refine vaft_bk ?_ | with_reducible refine vaft_ct ?_ | with_reducible refine vturn_nx ?_ | with_reducible refine vturn_ct ?_ | with_reducible refine vturn_bk ?_ | with_reducible refine vturn_rt ?_ | with_reducible refine vfin_rtQ ?_ | with_reducible refine vfin_nxQ ?_ | with_reducible refine vturn_ex ?_ | with_reducible refine vaft_ex ?_ | with_reducible refine vfin_exQ ?_))
theorem m_same_tup {ds : List D} (hl : ds.length ≤ 100000) (hv : D.vals ds = true) (hc : ∀ d ∈ ds, ∀ {M : Mem} {X : Ex} {Q : D → Mem → Prop}, Q (.bl true) M → wR (inv (CC k) "_law_same" [d, d] M) Q X) {Q : D → Mem → Prop} (h : Q (.bl true) M) : wR (inv (CC (k + 1)) "_law_same" [.tup ds, .tup ds] M) Q X := by
  refine inv_vW (by show (D.vals ds && (D.vals ds && true)) = true; rw [hv]; rfl) ?_
  refine C_w k74_l__law_same rfl ?_
  show wSs _ k74_b__law_same [some (.tup ds), some (.tup ds), none] _ _
  unfold k74_b__law_same
  array_get_dec
  refine ⟨_, rfl, ?_⟩
  rw [if_pos (by show true = true; rfl)]
  array_get_dec
  repeat (first
    | (refine ⟨_, cmpne_int (M := []), ?_⟩; rw [if_neg (by simp)]; array_get_dec)
    | (refine ⟨_, bl_ne _, ?_⟩; rw [if_neg Bool.false_ne_true]; array_get_dec)
    | (refine ⟨_, bl_ne _, ?_⟩; array_get_dec)
    | (refine ⟨_, rfl, ?_⟩; array_get_dec))
  refine comp_pure (l0 := rangeL 0 ds.length) (F0 := fun _ => .bl true) (by rw [rangeL_map, List.length_map, List.length_range]; omega) ?_ ?_ ?_
  · array_get_dec
    refine ⟨_, rfl, ?_⟩
    exact ⟨0, (ds.length : Int), rfl, rfl, rng_ok (by omega), rfl, rfl, by simp⟩
  · intro x hx
    rw [rangeL_map] at hx
    obtain ⟨j, hj, rfl⟩ := List.mem_map.mp hx
    have hj' := List.mem_range.mp hj
    have hd := List.getElem?_eq_getElem hj'
    array_get_dec
    rw [Int.zero_add]
    refine ⟨_, idx_of (.inr (.inl rfl)) hd (by omega), ?_⟩
    array_get_dec
    refine ⟨_, idx_of (.inr (.inl rfl)) hd (by omega), ?_⟩
    array_get_dec
    have hdv := vals_mem hv _ (List.getElem_mem hj')
    refine ⟨_, frzs_vals (ds := [ds[j], ds[j]]) (by show (ds[j].val && (ds[j].val && true)) = true; rw [hdv]; rfl), ?_⟩
    exact hc _ (List.getElem_mem hj') ⟨rfl, rfl⟩
  refine ⟨_, no_falseN (M := []) (fun y hy => by obtain ⟨_, _, rfl⟩ := List.mem_map.mp hy; rfl), ?_⟩
  array_get_dec
  exact ⟨_, rfl, h⟩
end Z
end
section
set_option Elab.async false
set_option linter.all false
set_option maxRecDepth 100000
set_option maxHeartbeats 1000000
set_option autoImplicit false
/-! _law_same d d of a tree that was read. -/
namespace Z
open PySem
variable {M : Mem} {X : Ex} {k : Nat} {r : Nat}
/-- trees of a depth -/
inductive Tre (N : Nat) : Nat → D → Prop where
  | int (i : Int) (n : Nat) : Tre N n (.int i)
  | str (w : List Nat) (n : Nat) (h : okT w = true) : Tre N n (.str (st w))
  | tup (ds : List D) (n : Nat) (hl : ds.length ≤ N) (h : ∀ d ∈ ds, Tre N n d) : Tre N (n + 1) (.tup ds)
theorem Tre.up {N n m : Nat} {d : D} (h : Tre N n d) : n ≤ m → Tre N m d := by
  induction h generalizing m with
  | int i n => exact fun _ => .int i m
  | str w n h => exact fun _ => .str w m h
  | tup ds n hl h ih =>
    intro hm
    obtain ⟨m', rfl⟩ : ∃ m', m = m' + 1 := ⟨m - 1, by omega⟩
    exact .tup ds m' hl fun d hd => ih d hd (by omega)
theorem vals_of {ds : List D} (h : ∀ d ∈ ds, d.val = true) : D.vals ds = true := by
  induction ds with
  | nil => rfl
  | cons a l ih =>
    show (a.val && D.vals l) = true
    rw [h a List.mem_cons_self, ih fun d hd => h d (List.mem_cons_of_mem _ hd)]
    rfl
theorem Tre.val {N n : Nat} {d : D} (h : Tre N n d) : d.val = true := by
  induction h with
  | int i n => rfl
  | str w n h => rfl
  | tup ds n hl h ih => exact vals_of ih
theorem m_same {N : Nat} (hN : N ≤ 100000) : ∀ (n : Nat) {d : D}, Tre N n d → ∀ (k : Nat) {M : Mem} {X : Ex} {Q : D → Mem → Prop}, Q (.bl true) M → wR (inv (CC (k + n + 1)) "_law_same" [d, d] M) Q X := by
  intro n
  induction n with
  | zero =>
    intro d hd k M X Q h
    cases hd with
    | int i => exact m_same_int h
    | str w _ ho => exact m_same_str ho h
  | succ n ih =>
    intro d hd k M X Q h
    cases hd with
    | int i => exact m_same_int h
    | str w _ ho => exact m_same_str ho h
    | tup ds _ hl hc =>
      exact m_same_tup (k := k + n + 1) (Nat.le_trans hl hN) (vals_of fun d hd => (hc d hd).val) (fun d hd {M X Q} h => ih (hc d hd) k h) h
/-! depth -/
def isO (p : Nat × Tk) : Bool := match p.2 with
  | .sg c => c == 40
  | _ => false
def cntO (l : List Nat) : Nat := l.countP (· == 40)
theorem cntO_drop (l : List Nat) (n : Nat) : cntO (l.drop n) ≤ cntO l := (List.drop_sublist n l).countP_le
theorem lex_O : ∀ (f pos : Nat) (q : List Nat), cntD q ≤ 60 → (lex f pos q).1.countP isO ≤ cntO q
  | 0, _, _, _ => Nat.zero_le _
  | _ + 1, _, [], _ => Nat.zero_le _
  | f + 1, pos, c :: r, hd => by
    rw [lex_cons]
    have h1 : cntO (c :: r) = cntO r + (if (c == 40) = true then 1 else 0) := List.countP_cons
    split
    · have := lex_O f (pos + 1) r (cntD_tail hd)
      omega
    · split
      · exact Nat.zero_le _
      · rename_i t n e
        obtain ⟨h2, h3⟩ := tkAt_len e hd
        have h4 := lex_O f (pos + n) ((c :: r).drop n) (Nat.le_trans (cntD_drop _ _) hd)
        have h5 : cntO ((c :: r).drop n) ≤ cntO r := by
          obtain ⟨n', rfl⟩ : ∃ n', n = n' + 1 := ⟨n - 1, by omega⟩
          exact cntO_drop r n'
        show List.countP isO ((pos, t) :: (lex f (pos + n) ((c :: r).drop n)).1) ≤ _
        rw [List.countP_cons]
        by_cases ho : isO (pos, t) = true
        · have : c = 40 := by
            unfold tkAt at e
            dsimp only at e
            split at e
            · cases e
              exact eq_of_beq ho
            · split at e
              · cases e
                cases ho
              · cases e' : numP (c :: r) with
                | none =>
                  rw [e'] at e
                  cases e
                | some n' =>
                  rw [e'] at e
                  cases e
                  cases ho
          subst this
          rw [if_pos ho]
          have h7 : (if ((40 : Nat) == 40) = true then 1 else 0) = 1 := rfl
          omega
        · rw [if_neg ho]
          omega
theorem lex_len' : ∀ (f pos : Nat) (q : List Nat), cntD q ≤ 60 → (lex f pos q).1.length ≤ q.length
  | 0, _, _, _ => Nat.zero_le _
  | _ + 1, _, [], _ => Nat.zero_le _
  | f + 1, pos, c :: r, hd => by
    rw [lex_cons, List.length_cons]
    split
    · have := lex_len' f (pos + 1) r (cntD_tail hd)
      omega
    · split
      · exact Nat.zero_le _
      · rename_i t n e
        obtain ⟨h2, h3⟩ := tkAt_len e hd
        have h4 := lex_len' f (pos + n) ((c :: r).drop n) (Nat.le_trans (cntD_drop _ _) hd)
        rw [List.length_drop, List.length_cons] at h4
        show ((lex f (pos + n) ((c :: r).drop n)).1.length + 1) ≤ _
        rw [List.length_cons] at h3
        omega
theorem brn_tre {N : Nat} {e : Nat × Bool} {d : D} : ∀ (ts : List (Nat × Tk)) (rows : List (List D)) (s c : Nat), (∀ p ∈ ts, rOk p.2) → (∀ row ∈ rows, row.length + ts.length ≤ N ∧ ∀ x ∈ row, Tre N c x) → ts.length ≤ N → brn rows s ts e = .ok d → Tre N (c + (rows.length - 1) + ts.countP isO) d
  | [], rows, s, c, _, hr, _, h => by
    unfold brn at h
    split at h
    · split at h
      · rename_i d'
        cases h
        exact ((hr _ List.mem_cons_self).2 _ List.mem_cons_self).up (by omega)
      · cases h
    · cases h
  | (p, t) :: ts, rows, s, c, hk, hr, hN, h => by
    unfold brn at h
    have hk' : ∀ p ∈ ts, rOk p.2 := fun p hp => hk p (List.mem_cons_of_mem _ hp)
    have hok : rOk t := hk (p, t) List.mem_cons_self
    have hN' : ts.length + 1 ≤ N := hN
    have hr' : ∀ row ∈ rows, row.length + (ts.length + 1) ≤ N ∧ ∀ x ∈ row, Tre N c x := hr
    rw [List.countP_cons]
    have put : ∀ (x : D) (r1 : List D) (rs : List (List D)) (s' : Nat), (∀ m, Tre N m x) → rows = r1 :: rs → brn ((r1 ++ [x]) :: rs) s' ts e = .ok d → Tre N (c + (rows.length - 1) + (ts.countP isO + if isO (p, t) = true then 1 else 0)) d := by
      intro x r1 rs s' hx hrows hb
      subst hrows
      refine (brn_tre ts _ s' c hk' (fun row hrow => ?_) (by omega) hb).up (by simp only [List.length_cons]; omega)
      rcases List.mem_cons.mp hrow with rfl | hrow
      · have h1 := hr' r1 List.mem_cons_self
        refine ⟨by rw [List.length_append, List.length_singleton]; omega, fun y hy => ?_⟩
        rcases List.mem_append.mp hy with hy | hy
        · exact h1.2 y hy
        · rw [List.mem_singleton.mp hy]
          exact hx c
      · have h1 := hr' row (List.mem_cons_of_mem _ hrow)
        exact ⟨by omega, h1.2⟩
    cases e1 : bst rows s t with
    | none =>
      rw [e1] at h
      cases h
    | some q =>
    obtain ⟨rows', s'⟩ := q
    rw [e1] at h
    dsimp only at h
    cases t with
    | wd w =>
        simp only [bst] at e1
        split at e1
        · cases e1
        · split at e1
          · rename_i r1 rs
            cases e1
            exact put _ r1 rs 1 (fun m => .str w m (raw_okT hok)) rfl h
          · cases e1
    | nm w =>
        simp only [bst] at e1
        split at e1
        · cases e1
        · split at e1
          · rename_i r1 rs
            cases e1
            exact put _ r1 rs 1 (fun m => .int _ m) rfl h
          · cases e1
    | sg q =>
        simp only [bst] at e1
        split at e1
        · rename_i hq
          subst hq
          split at e1
          · cases e1
          · cases e1
            have ho : isO (p, Tk.sg 40) = true := rfl
            rw [if_pos ho]
            refine (brn_tre ts _ _ c hk' (fun row hrow => ?_) (by omega) h).up (by simp only [List.length_cons]; omega)
            rcases List.mem_cons.mp hrow with rfl | hrow
            · exact ⟨by simp only [List.length_nil]; omega, fun x hx => by cases hx⟩
            · have h1 := hr' row hrow
              exact ⟨by omega, h1.2⟩
        · split at e1
          · split at e1
            · cases e1
            · split at e1
              · rename_i r1 r2 rs
                cases e1
                refine (brn_tre ts _ _ (c + 1) hk' (fun row hrow => ?_) (by omega) h).up (by simp only [List.length_cons]; omega)
                have h0 := hr' r1 List.mem_cons_self
                rcases List.mem_cons.mp hrow with rfl | hrow
                · have h1 := hr' r2 (List.mem_cons_of_mem _ List.mem_cons_self)
                  refine ⟨by rw [List.length_append, List.length_singleton]; omega, fun y hy => ?_⟩
                  rcases List.mem_append.mp hy with hy | hy
                  · exact (h1.2 y hy).up (by omega)
                  · rw [List.mem_singleton.mp hy]
                    exact .tup r1 c (by omega) h0.2
                · have h1 := hr' row (List.mem_cons_of_mem _ (List.mem_cons_of_mem _ hrow))
                  exact ⟨by omega, fun x hx => (h1.2 x hx).up (by omega)⟩
              · cases e1
          · split at e1
            · split at e1
              · cases e1
                refine (brn_tre ts _ _ c hk' (fun row hrow => ?_) (by omega) h).up (by omega)
                have h1 := hr' row hrow
                exact ⟨by omega, h1.2⟩
              · cases e1
            · cases e1
/-- what the texts of the law keep -/
structure Bd (l : List Nat) (a b c : Nat) : Prop where
  ok : okT l = true
  len : l.length ≤ a
  dig : cntD l ≤ b
  op : cntO l ≤ c
local macro_rules | `(tactic| array_mem_dec) => `(tactic| first
  | with_reducible refine vE_c ?_ | with_reducible refine vE_nope ?_ | with_reducible refine vE_var (by with_unfolding_all rfl) ?_ | with_reducible refine vE_bin ?_ | with_reducible refine vE_neg ?_ | with_reducible refine vE_cmp ?_ | with_reducible refine vE_not ?_ | with_reducible refine vE_and ?_ | with_reducible refine vE_or ?_ | with_reducible refine vE_ite ?_
  | with_reducible refine vE_tup ?_ | with_reducible refine vE_lst ?_ | with_reducible refine vE_nil ?_ | with_reducible refine vE_cons ?_ | with_reducible refine vE_idx ?_ | with_reducible refine vE_sli ?_ | with_reducible refine vE_mat ?_ | with_reducible refine vE_call ?_ | with_reducible refine vE_bi (by with_unfolding_all rfl) ?_ | with_reducible refine vE_mth ?_ | with_reducible refine vE_isi ?_
  | with_reducible refine vT_nope ?_ | with_reducible refine vT_var (by with_unfolding_all rfl) ?_ | with_reducible refine vT_cmp ?_ | with_reducible refine vT_not ?_ | with_reducible refine vT_and ?_ | with_reducible refine vT_or ?_ | with_reducible refine vT_call ?_ | with_reducible refine vT_bi (by with_unfolding_all rfl) ?_ | with_reducible refine vT_isi ?_ | with_reducible refine vT_idx ?_
  | with_reducible refine vI_seq ?_ | with_reducible refine vI_rng ?_
  | with_reducible refine vS_nil ?_ | with_reducible refine vS_skip ?_ | with_reducible refine vS_expr ?_ | with_reducible refine vS_asg ?_ | with_reducible refine vS_asgT ?_ | with_reducible refine vS_sub ?_ | with_reducible refine vS_ret ?_ | with_reducible refine vS_brk ?_ | with_reducible refine vS_cont ?_ | with_reducible refine vS_ife ?_ | with_reducible refine vS_for ?_
  | with_reducible refine vaft_nx ?_ | with_reducible refine vaft_rt ?_ | with_reducible refine vaft_bk ?_ | with_reducible refine vaft_ct ?_ | with_reducible refine vturn_nx ?_ | with_reducible refine vturn_ct ?_ | with_reducible refine vturn_bk ?_ | with_reducible refine vturn_rt ?_ | with_reducible refine vfin_rtQ ?_ | with_reducible refine vfin_nxQ ?_)
local macro_rules | `(tactic| array_get_dec) => `(tactic| repeat (first
  | with_reducible refine vE_c ?_ | with_reducible refine vE_nope ?_ | with_reducible refine vE_var (by with_unfolding_all rfl) ?_ | with_reducible refine vE_bin ?_ | with_reducible refine vE_neg ?_ | with_reducible refine vE_cmp ?_ | with_reducible refine vE_not ?_ | with_reducible refine vE_and ?_ | with_reducible refine vE_or ?_ | with_reducible refine vE_ite ?_
  | with_reducible refine vE_tup ?_ | with_reducible refine vE_lst ?_ | with_reducible refine vE_nil ?_ | with_reducible refine vE_cons ?_ | with_reducible refine vE_idx ?_ | with_reducible refine vE_sli ?_ | with_reducible refine vE_mat ?_ | with_reducible refine vE_call ?_ | with_reducible refine vE_bi (by with_unfolding_all rfl) ?_ | with_reducible refine vE_mth ?_ | with_reducible refine vE_isi ?_
  | with_reducible refine vT_nope ?_ | with_reducible refine vT_var (by with_unfolding_all rfl) ?_ | with_reducible refine vT_cmp ?_ | with_reducible refine vT_not ?_ | with_reducible refine vT_and ?_ | with_reducible refine vT_or ?_ | with_reducible refine vT_call ?_ | with_reducible refine vT_bi (by with_unfolding_all rfl) ?_ | with_reducible refine vT_isi ?_ | with_reducible refine vT_idx ?_
  | with_reducible refine vI_seq ?_ | with_reducible refine vI_rng ?_
  | with_reducible refine vS_nil ?_ | with_reducible refine vS_skip ?_ | with_reducible refine vS_expr ?_ | with_reducible refine vS_asg ?_ | with_reducible refine vS_asgT ?_ | with_reducible refine vS_sub ?_ | with_reducible refine vS_ret ?_ | with_reducible refine vS_brk ?_ | with_reducible refine vS_cont ?_ | with_reducible refine vS_ife ?_ | with_reducible refine vS_for ?_
  | with_reducible refine vaft_nx ?_ | with_reducible refine vaft_rt ?_ | with_reducible refine vaft_bk ?_ | with_reducible refine vaft_ct ?_ | with_reducible refine vturn_nx ?_ | with_reducible refine vturn_ct ?_ | with_reducible refine vturn_bk ?_ | with_reducible refine vturn_rt ?_ | with_reducible refine vfin_rtQ ?_ | with_reducible refine vfin_nxQ ?_))
theorem m_goes' {l : List Nat} (h : Bd l 1000 60 30) {Q : D → Mem → Prop} (hQ : Q (.bl true) M) : wR (inv (CC 39) "_law_goes" [.str (st l)] M) Q X := by
  refine m_goes (k := 26) (by have := h.len; omega) h.ok h.dig (fun d _ hb {M X Q} hQ => ?_) hQ
  have e : (lexF l 0) = lex l.length 0 l := rfl
  rw [e] at hb
  have h1 := lex_O l.length 0 l h.dig
  have h2 := lex_len' l.length 0 l h.dig
  have h3 := brn_tre (N := 100000) _ _ _ 0 (lex_rOk l.length 0 l h.dig) (fun row hrow => by
    rw [List.mem_singleton.mp hrow]
    exact ⟨by have := h.len; simp only [List.length_nil]; omega, fun x hx => by cases hx⟩) (by have := h.len; omega) hb
  have h4 : Tre 100000 37 d := h3.up (by have := h.op; simp only [List.length_singleton]; omega)
  exact m_same (by omega) 37 h4 0 hQ
end Z
end
section
set_option Elab.async false
set_option linter.all false
set_option maxRecDepth 100000
set_option maxHeartbeats 1000000
set_option autoImplicit false
/-! The law's trees and their texts. -/
namespace Z
open PySem
variable {M : Mem} {X : Ex} {k : Nat} {r : Nat}
def itx (i : Int) : List Nat := (Str.ofString (toString i)).cps.toList
def INTS : List Int := [0, 7, -1, -30, 100, 905]
def STRS : List Str := [Str.ofString "a", Str.ofString "in", Str.ofString "xyz"]
mutual
def trb : D → Bool
  | .tup ds => trbs ds
  | .int i => INTS.contains i
  | .str s => STRS.contains s
  | _ => false
def trbs : List D → Bool
  | [] => true
  | d :: ds => trb d && trbs ds
end
mutual
/-- at most so many signs of a kind -/
def wt (p : Nat → Bool) : D → Nat
  | .tup ds => [40, 41].countP p + wts p ds
  | .int i => (itx i).countP p
  | .str s => s.cps.toList.countP p
  | _ => 0
def wts (p : Nat → Bool) : List D → Nat
  | [] => 0
  | d :: ds => wt p d + [44, 32].countP p + wts p ds
end
theorem wt_tup (p : Nat → Bool) (ds : List D) : wt p (.tup ds) = [40, 41].countP p + wts p ds := by
  rw [wt]
theorem wts_cons (p : Nat → Bool) (d : D) (ds : List D) : wts p (d :: ds) = wt p d + [44, 32].countP p + wts p ds := by
  rw [wts]
theorem wts_app (p : Nat → Bool) : ∀ a b : List D, wts p (a ++ b) = wts p a + wts p b
  | [], b => by
    rw [List.nil_append, wts, Nat.zero_add]
  | d :: a, b => by
    rw [List.cons_append, wts_cons, wts_cons, wts_app p a b]
    omega
theorem trbs_iff : ∀ {ds : List D}, trbs ds = true ↔ ∀ d ∈ ds, trb d = true
  | [] => by
    rw [trbs]
    exact ⟨fun _ d hd => (by cases hd), fun _ => rfl⟩
  | d :: ds => by
    rw [trbs, Bool.and_eq_true, trbs_iff]
    constructor
    · intro h x hx
      rcases List.mem_cons.mp hx with rfl | hx
      · exact h.1
      · exact h.2 x hx
    · exact fun h => ⟨h d List.mem_cons_self, fun x hx => h x (List.mem_cons_of_mem _ hx)⟩
theorem trb_tup {ds : List D} : trb (.tup ds) = true ↔ ∀ d ∈ ds, trb d = true := by
  rw [trb]
  exact trbs_iff
mutual
theorem trb_val : ∀ d : D, trb d = true → d.val = true
  | .tup ds, h => trbs_vals ds (by rw [trb] at h; exact h)
  | .int _, _ => rfl
  | .str _, _ => rfl
  | .non, h => by simp [trb] at h
  | .bl _, h => by simp [trb] at h
  | .tl _, h => by simp [trb] at h
  | .sc _, h => by simp [trb] at h
  | .fl _, h => by simp [trb] at h
  | .dc _ _, h => by simp [trb] at h
  | .st _, h => by simp [trb] at h
  | .ref _, h => by simp [trb] at h
theorem trbs_vals : ∀ ds : List D, trbs ds = true → D.vals ds = true
  | [], _ => rfl
  | d :: ds, h => by
    rw [trbs, Bool.and_eq_true] at h
    show (d.val && D.vals ds) = true
    rw [trb_val d h.1, trbs_vals ds h.2]
    rfl
end
theorem ints_ok : ∀ i ∈ INTS, okT (itx i) = true ∧ itx i ≠ [] ∧ i.natAbs.log2 < 1920 ∧ (itx i).length ≤ 3 := by
  have h : (INTS.all fun i => okT (itx i) && decide (itx i ≠ [] ∧ i.natAbs.log2 < 1920 ∧ (itx i).length ≤ 3)) = true := by decide +kernel
  intro i hi
  have h1 := band (List.all_eq_true.mp h i hi)
  exact ⟨h1.1, of_decide_eq_true h1.2⟩
theorem strs_ok : ∀ s ∈ STRS, okT s.cps.toList = true ∧ s.cps.toList ≠ [] ∧ s.cps.toList.length ≤ 3 := by
  have h : (STRS.all fun s => okT s.cps.toList && decide (s.cps.toList ≠ [] ∧ s.cps.toList.length ≤ 3)) = true := by decide +kernel
  intro i hi
  have h1 := band (List.all_eq_true.mp h i hi)
  exact ⟨h1.1, of_decide_eq_true h1.2⟩
/-! ### a tree is drawn -/
def pA : Nat → Bool := fun _ => true
def pD : Nat → Bool := fun c => decide (c ∈ DIG)
def pO : Nat → Bool := fun c => c == 40
def LF : List D := [.tup [], .int 0, .int 7, .int (-1), .int (-30), .int 100, .int 905, .str (Str.ofString "a"), .str (Str.ofString "in"), .str (Str.ofString "xyz")]
structure Leaf (d : D) : Prop where
  tr : trb d = true
  na : wt pA d ≤ 3
  nd : wt pD d ≤ 3
  no : wt pO d ≤ 1
theorem leaf_ok : ∀ d ∈ LF, Leaf d := by
  have h : (LF.all fun d => trb d && decide (wt pA d ≤ 3 ∧ wt pD d ≤ 3 ∧ wt pO d ≤ 1)) = true := by decide +kernel
  intro d hd
  have h1 := band (List.all_eq_true.mp h d hd)
  have h2 := of_decide_eq_true h1.2
  exact ⟨h1.1, h2.1, h2.2.1, h2.2.2⟩
structure Tree (d : D) : Prop where
  tr : trb d = true
  na : wt pA d ≤ 90
  nd : wt pD d ≤ 30
  no : wt pO d ≤ 20
structure Row (t : Nat) (ds : List D) : Prop where
  tr : ∀ d ∈ ds, trb d = true
  na : wts pA ds ≤ 5 + 9 * t
  nd : wts pD ds ≤ 3 + 3 * t
  no : wts pO ds ≤ 1 + 2 * t
theorem gapA : [44, 32].countP pA = 2 := by decide
theorem gapD : [44, 32].countP pD = 0 := by decide
theorem gapO : [44, 32].countP pO = 0 := by decide
theorem parA : [40, 41].countP pA = 2 := by decide
theorem parD : [40, 41].countP pD = 0 := by decide
theorem parO : [40, 41].countP pO = 1 := by decide
theorem wtsA_len : ∀ ds : List D, ds.length ≤ wts pA ds
  | [] => Nat.zero_le _
  | d :: ds => by
    rw [wts_cons, gapA, List.length_cons]
    have := wtsA_len ds
    omega
theorem Row.step {t : Nat} {ds : List D} {d : D} (h : Row t ds) (hd : Leaf d) (j : Nat) : Row (t + 1) ((ds ++ [d]).take j ++ [.tup ((ds ++ [d]).drop j)]) := by
  have ht : ∀ x ∈ ds ++ [d], trb x = true := fun x hx => by
    rcases List.mem_append.mp hx with hx | hx
    · exact h.tr x hx
    · rw [List.mem_singleton.mp hx]
      exact hd.tr
  have e : ∀ p, wts p ((ds ++ [d]).take j ++ [.tup ((ds ++ [d]).drop j)]) = wts p ds + (wt p d + [44, 32].countP p) + ([40, 41].countP p + [44, 32].countP p) := fun p => by
    have e1 : wts p (ds ++ [d]) = wts p ((ds ++ [d]).take j) + wts p ((ds ++ [d]).drop j) := by
      rw [← wts_app, List.take_append_drop]
    rw [wts_app, wts_cons, show wts p ([] : List D) = 0 from by rw [wts]] at e1
    rw [wts_app, wts_cons, wt_tup, show wts p ([] : List D) = 0 from by rw [wts]]
    omega
  refine ⟨fun x hx => ?_, ?_, ?_, ?_⟩
  · rcases List.mem_append.mp hx with hx | hx
    · exact ht x (List.mem_of_mem_take hx)
    · rw [List.mem_singleton.mp hx]
      exact trb_tup.mpr fun y hy => ht y (List.mem_of_mem_drop hy)
  · rw [e, gapA, parA]
    have := h.na
    have := hd.na
    omega
  · rw [e, gapD, parD]
    have := h.nd
    have := hd.nd
    omega
  · rw [e, gapO, parO]
    have := h.no
    have := hd.no
    omega
theorem Row.one {t : Nat} {d : D} (h : Row t [d]) (ht : t ≤ 9) : Tree d := by
  have ha := h.na
  have hd := h.nd
  have ho := h.no
  rw [wts_cons] at ha hd ho
  exact ⟨h.tr d List.mem_cons_self, by omega, by omega, by omega⟩
theorem Row.tup {t : Nat} {ds : List D} (h : Row t ds) (ht : t ≤ 9) : Tree (.tup ds) := by
  have ha := h.na
  have hd := h.nd
  have ho := h.no
  exact ⟨trb_tup.mpr h.tr, by rw [wt_tup, parA]; omega, by rw [wt_tup, parD]; omega, by rw [wt_tup, parO]; omega⟩
theorem Row.first {d : D} (h : Leaf d) : Row 0 [d] := by
  have ha := h.na
  have hd := h.nd
  have ho := h.no
  have e : ∀ p, wts p [d] = wt p d + [44, 32].countP p := fun p => by
    rw [wts_cons, show wts p ([] : List D) = 0 from by rw [wts]]
    rfl
  refine ⟨fun x hx => by rw [List.mem_singleton.mp hx]; exact h.tr, ?_, ?_, ?_⟩
  · rw [e, gapA]
    omega
  · rw [e, gapD]
    omega
  · rw [e, gapO]
    omega
theorem Row.len {t : Nat} {ds : List D} (h : Row t ds) (ht : t ≤ 9) : ds.length ≤ 100 := by
  have := wtsA_len ds
  have := h.na
  omega
theorem cut_from {l : List D} {j : Nat} : cutD l (some (j : Int)) none = l.drop j := by
  unfold cutD
  rw [HT.sIx_nat, HT.sIx_none]
  rcases Nat.le_total j l.length with h | h
  · rw [Nat.min_eq_left h, List.take_of_length_le (by rw [List.length_drop]; omega)]
  · rw [Nat.min_eq_right h, List.drop_eq_nil_of_le h, List.drop_eq_nil_of_le (Nat.le_refl _), List.take_nil]
theorem lst_ref {ds : List D} (h : M[r]? = some (.lst ds)) {a b : Option Int} : sliD (.ref r) a b M = some (.fl (cutD ds a b)) := by
  show (match lstOf (.ref r) M with
    | some ds => some (D.fl (cutD ds a b))
    | none => none) = _
  unfold lstOf
  dsimp only
  rw [h]
local macro_rules | `(tactic| array_mem_dec) => `(tactic| first
  | with_reducible refine vE_c ?_ | with_reducible refine vE_nope ?_ | with_reducible refine vE_var (by with_unfolding_all rfl) ?_ | with_reducible refine vE_bin ?_ | with_reducible refine vE_neg ?_ | with_reducible refine vE_cmp ?_ | with_reducible refine vE_not ?_ | with_reducible refine vE_and ?_ | with_reducible refine vE_or ?_ | with_reducible refine vE_ite ?_
  | with_reducible refine vE_tup ?_ | with_reducible refine vE_lst ?_ | with_reducible refine vE_nil ?_ | with_reducible refine vE_cons ?_ | with_reducible refine vE_idx ?_ | with_reducible refine vE_sli ?_ | with_reducible refine vE_mat ?_ | with_reducible refine vE_call ?_ | with_reducible refine vE_bi (by with_unfolding_all rfl) ?_ | with_reducible refine vE_mth ?_ | with_reducible refine vE_isi ?_
  | with_reducible refine vT_nope ?_ | with_reducible refine vT_var (by with_unfolding_all rfl) ?_ | with_reducible refine vT_cmp ?_ | with_reducible refine vT_not ?_ | with_reducible refine vT_and ?_ | with_reducible refine vT_or ?_ | with_reducible refine vT_call ?_ | with_reducible refine vT_bi (by with_unfolding_all rfl) ?_ | with_reducible refine vT_isi ?_ | with_reducible refine vT_idx ?_
  | with_reducible refine vI_seq ?_ | with_reducible refine vI_rng ?_
  | with_reducible refine vS_nil ?_ | with_reducible refine vS_skip ?_ | with_reducible refine vS_expr ?_ | with_reducible refine vS_asg ?_ | with_reducible refine vS_asgT ?_ | with_reducible refine vS_sub ?_ | with_reducible refine vS_ret ?_ | with_reducible refine vS_brk ?_ | with_reducible refine vS_cont ?_ | with_reducible refine vS_ife ?_ | with_reducible refine vS_for ?_
  | with_reducible refine vaft_nx ?_ | with_reducible refine vaft_rt ?_ | with_reducible refine vaft_bk ?_ | with_reducible refine vaft_ct ?_ | with_reducible refine vturn_nx ?_ | with_reducible refine vturn_ct ?_ | with_reducible refine vturn_bk ?_ | with_reducible refine vturn_rt ?_ | with_reducible refine vfin_rtQ ?_ | with_reducible refine vfin_nxQ ?_)
local macro_rules | `(tactic| array_get_dec) => `(tactic| repeat (first
  | with_reducible refine vE_c ?_ | with_reducible refine vE_nope ?_ | with_reducible refine vE_var (by with_unfolding_all rfl) ?_ | with_reducible refine vE_bin ?_ | with_reducible refine vE_neg ?_ | with_reducible refine vE_cmp ?_ | with_reducible refine vE_not ?_ | with_reducible refine vE_and ?_ | with_reducible refine vE_or ?_ | with_reducible refine vE_ite ?_
  | with_reducible refine vE_tup ?_ | with_reducible refine vE_lst ?_ | with_reducible refine vE_nil ?_ | with_reducible refine vE_cons ?_ | with_reducible refine vE_idx ?_ | with_reducible refine vE_sli ?_ | with_reducible refine vE_mat ?_ | with_reducible refine vE_call ?_ | with_reducible refine vE_bi (by with_unfolding_all rfl) ?_ | with_reducible refine vE_mth ?_ | with_reducible refine vE_isi ?_
  | with_reducible refine vT_nope ?_ | with_reducible refine vT_var (by with_unfolding_all rfl) ?_ | with_reducible refine vT_cmp ?_ | with_reducible refine vT_not ?_ | with_reducible refine vT_and ?_ | with_reducible refine vT_or ?_ | with_reducible refine vT_call ?_ | with_reducible refine vT_bi (by with_unfolding_all rfl) ?_ | with_reducible refine vT_isi ?_ | with_reducible refine vT_idx ?_
  | with_reducible refine vI_seq ?_ | with_reducible refine vI_rng ?_
  | with_reducible refine vS_nil ?_ | with_reducible refine vS_skip ?_ | with_reducible refine vS_expr ?_ | with_reducible refine vS_asg ?_ | with_reducible refine vS_asgT ?_ | with_reducible refine vS_sub ?_ | with_reducible refine vS_ret ?_ | with_reducible refine vS_brk ?_ | with_reducible refine vS_cont ?_ | with_reducible refine vS_ife ?_ | with_reducible refine vS_for ?_
  | with_reducible refine vaft_nx ?_ | with_reducible refine vaft_rt ?_ | with_reducible refine vaft_bk ?_ | with_reducible refine vaft_ct ?_ | with_reducible refine vturn_nx ?_ | with_reducible refine vturn_ct ?_ | with_reducible refine vturn_bk ?_ | with_reducible refine vturn_rt ?_ | with_reducible refine vfin_rtQ ?_ | with_reducible refine vfin_nxQ ?_))
theorem m_leaf : SpD (CC (k + 3)) "_law_leaf" [] Leaf := by
  intro ns
  refine C_w k74_l__law_leaf rfl ?_
  show wSs _ k74_b__law_leaf [some (.ref 0)] _ _
  unfold k74_b__law_leaf
  array_get_dec
  refine ⟨[], rfl, by decide, ?_⟩
  array_get_dec
  refine ⟨1, rfl, ?_⟩
  array_get_dec
  refine ⟨30, rfl, ?_⟩
  array_get_dec
  refine ⟨LF, rfl, by decide, ?_⟩
  array_get_dec
  refine ⟨_, rfl, ?_⟩
  refine inv_dr (m_pick (k := k) (by decide) (by decide) (by decide)) rfl rfl fun v ns1 hv => ?_
  array_get_dec
  exact ⟨ns1, [], v, rfl, out_val (trb_val _ (leaf_ok v hv).tr), leaf_ok v hv⟩
theorem m_tree : SpD (CC (k + 4)) "_law_tree" [] Tree := by
  intro ns
  refine C_w k74_l__law_tree rfl ?_
  show wSs _ k74_b__law_tree [some (.ref 0), none, none, none] _ _
  unfold k74_b__law_tree
  array_get_dec
  refine ⟨_, rfl, ?_⟩
  refine inv_dr (m_leaf (k := k)) rfl rfl fun v ns1 hv => ?_
  array_get_dec
  have vv := trb_val _ hv.tr
  refine ⟨[v], frzs_vals (by show (v.val && true) = true; rw [vv]; rfl), by simp, [v], rfl, _, rfl, ?_⟩
  array_get_dec
  refine ⟨_, rfl, ?_⟩
  refine inv_dr (m_take (by decide)) rfl rfl fun w ns2 hw => ?_
  obtain ⟨m, rfl, hm⟩ := hw
  refine ⟨0, (m : Int), rfl, rfl, rng_ok (by omega), fun L env M => ∃ (t rr : Nat) (row : List D) (ns : List Int) (Mx : Mem) (z2 z3 : Option D), env = [some (.ref 0), some (.ref (rr + 1)), z2, z3] ∧ M = Dr ns :: Mx ∧ Mx[rr]? = some (.lst row) ∧ Row t row ∧ t ≤ m ∧ L = rangeL (t : Int) (m - t), fun _ _ _ _ => rfl, ⟨0, 0, [v], ns2, _, _, _, rfl, rfl, rfl, Row.first hv, by omega, by simp⟩, ?_, ?_⟩
  · rintro x L env M ⟨t, rr, row, ns, Mx, z2, z3, rfl, rfl, hrow, hR, ht, el⟩
    cases hmt : m - t with
    | zero =>
      rw [hmt] at el
      cases el
    | succ d =>
    rw [hmt] at el
    obtain ⟨e1, e2⟩ := List.cons.inj el
    subst e1
    refine ⟨_, rfl, ?_⟩
    have hlen := hR.len (by omega)
    have hrow0 : ∀ o : MO, (o :: Mx)[rr + 1]? = some (.lst row) := fun o => by
      rw [List.getElem?_cons_succ]
      exact hrow
    array_get_dec
    refine ⟨by show isLst _ _ = true; unfold isLst; rw [hrow0], ?_⟩
    array_get_dec
    refine ⟨_, rfl, ?_⟩
    refine inv_dr (m_leaf (k := k)) rfl rfl fun v ns1 hv => ?_
    have vv := trb_val _ hv.tr
    array_get_dec
    have hap : mthD .append (.ref (rr + 1)) [v] (Dr ns1 :: Mx) = some (.non, Dr ns1 :: Mx.set rr (.lst (row ++ [v]))) := app_end (hrow0 _) (by omega)
    refine ⟨[v], frzs_vals (by show (v.val && true) = true; rw [vv]; rfl), by cases v <;> first | rfl | cases vv | (show (D.val _ && true) = true; rw [vv]; rfl), _, _, hap, ?_⟩
    have hrow1 : ∀ o : MO, (o :: Mx.set rr (.lst (row ++ [v])))[rr + 1]? = some (.lst (row ++ [v])) := fun o => by
      rw [List.getElem?_cons_succ]
      exact List.getElem?_set_self (List.getElem?_eq_some_iff.mp hrow).1
    array_get_dec
    refine ⟨_, len_ref (hrow1 _), ?_⟩
    array_get_dec
    refine ⟨_, add_ints, ?_⟩
    array_get_dec
    refine ⟨_, rfl, ?_⟩
    refine inv_dr (m_take (by omega)) rfl rfl fun w ns2 hw => ?_
    obtain ⟨j, rfl, hj⟩ := hw
    refine ⟨_, rfl, ?_⟩
    array_get_dec
    refine ⟨_, rfl, ?_⟩
    array_get_dec
    refine ⟨_, rfl, _, lst_ref (hrow1 _), ?_⟩
    rw [cut_to]
    array_get_dec
    refine ⟨_, rfl, ?_⟩
    array_get_dec
    refine ⟨_, rfl, _, lst_ref (hrow1 _), ?_⟩
    rw [cut_from]
    array_get_dec
    refine ⟨_, rfl, ?_⟩
    array_get_dec
    refine ⟨_, rfl, by simp, ?_⟩
    refine ⟨.fl ((row ++ [v]).take j ++ [.tup ((row ++ [v]).drop j)]), ?_, ?_⟩
    · show (if (List.take j (row ++ [v])).length + 1 ≤ 16777216 then _ else _) = _
      rw [if_pos (by rw [List.length_take, List.length_append, List.length_singleton]; omega)]
    · refine ⟨_, rfl, _, rfl, ?_⟩
      array_get_dec
      refine ⟨t + 1, (Mx.set rr (.lst (row ++ [v]))).length, _, ns2, Mx.set rr (.lst (row ++ [v])) ++ [.lst ((row ++ [v]).take j ++ [.tup ((row ++ [v]).drop j)])], _, _, rfl, rfl, List.getElem?_concat_length, hR.step hv j, by omega, ?_⟩
      rw [e2, show m - (t + 1) = d by omega]
      rfl
  · rintro env M ⟨t, rr, row, ns, Mx, z2, z3, rfl, rfl, hrow, hR, ht, el⟩
    have hrow0 : ∀ o : MO, (o :: Mx)[rr + 1]? = some (.lst row) := fun o => by
      rw [List.getElem?_cons_succ]
      exact hrow
    have ht9 : t ≤ 9 := by omega
    array_get_dec
    refine ⟨_, len_ref (hrow0 _), ?_⟩
    array_get_dec
    refine ⟨_, eq_intC _ _, ?_⟩
    by_cases h1 : row.length = 1
    · rw [if_pos (by simp [h1])]
      obtain ⟨d, rfl⟩ := List.length_eq_one_iff.mp h1
      have hT := hR.one ht9
      array_get_dec
      refine ⟨_, idx_of (j := 0) (.inr (.inr (.inr ⟨_, rfl, hrow0 _⟩))) rfl (by decide), ?_⟩
      array_get_dec
      exact ⟨ns, Mx, d, rfl, out_val (trb_val _ hT.tr), hT⟩
    · rw [if_neg (by simpa using by omega)]
      have hT := hR.tup ht9
      array_get_dec
      refine ⟨.tup row, ?_, ?_⟩
      · show (seqOf (.ref (rr + 1)) (Dr ns :: Mx)).map D.tup = _
        unfold seqOf
        dsimp only
        rw [hrow0]
        rfl
      · array_get_dec
        exact ⟨ns, Mx, _, rfl, out_val (trb_val _ hT.tr), hT⟩
end Z
end
section
set_option Elab.async false
set_option linter.all false
set_option maxRecDepth 100000
set_option maxHeartbeats 1000000
set_option autoImplicit false
/-! The text of a tree of the law. -/
namespace Z
open PySem
variable {M : Mem} {X : Ex} {k : Nat} {r : Nat}
/-- what waits: signs, or a tree -/
def iw (p : Nat → Bool) : D → Nat
  | .tl (.str s :: _) => s.cps.toList.countP p
  | d => wt p d
def iws (p : Nat → Bool) (ds : List D) : Nat := (ds.map (iw p)).sum
theorem iws_app (p : Nat → Bool) (a b : List D) : iws p (a ++ b) = iws p a + iws p b := by
  unfold iws
  rw [List.map_append, List.sum_append]
theorem iws_one (p : Nat → Bool) (d : D) : iws p [d] = iw p d := by
  unfold iws
  simp
def Itm (d : D) : Prop := (∃ l, d = .tl [.str (st l)] ∧ okT l = true ∧ l ≠ []) ∨ trb d = true
theorem iw_st (p : Nat → Bool) (l : List Nat) : iw p (.tl [.str (st l)]) = l.countP p := rfl
theorem iw_tup (p : Nat → Bool) (ds : List D) : iw p (.tup ds) = [40, 41].countP p + wts p ds := by
  show wt p (.tup ds) = _
  exact wt_tup p ds
theorem trb_wt {d : D} (h : trb d = true) (p : Nat → Bool) : iw p d = wt p d := by
  cases d <;> first
    | rfl
    | (simp [trb] at h)
theorem cntA (l : List Nat) : l.countP pA = l.length := by
  rw [List.countP_eq_length]
  exact fun _ _ => rfl
theorem itm_pos {d : D} (h : Itm d) : 1 ≤ iw pA d := by
  rcases h with ⟨l, rfl, _, hl⟩ | h
  · rw [iw_st, cntA]
    exact List.length_pos_iff.mpr hl
  · rw [trb_wt h]
    cases d with
    | tup ds =>
      rw [wt_tup, parA]
      omega
    | int i =>
      rw [trb] at h
      have := (ints_ok i (by simpa using h)).2.1
      rw [wt, cntA]
      exact List.length_pos_iff.mpr this
    | str s =>
      rw [trb] at h
      have := (strs_ok s (by simpa using h)).2.1
      rw [wt, cntA]
      exact List.length_pos_iff.mpr this
    | _ => simp [trb] at h
theorem iws_len : ∀ {ds : List D}, (∀ d ∈ ds, Itm d) → ds.length ≤ iws pA ds
  | [], _ => Nat.zero_le _
  | d :: ds, h => by
    have h1 := itm_pos (h d List.mem_cons_self)
    have h2 := iws_len fun x hx => h x (List.mem_cons_of_mem _ hx)
    show ds.length + 1 ≤ iw pA d + iws pA ds
    omega
theorem flat_len {ls : List (List Nat)} (h : ∀ l ∈ ls, okT l = true ∧ l ≠ []) : ls.length ≤ ls.flatten.length := by
  induction ls with
  | nil => exact Nat.le_refl _
  | cons l ls ih =>
    have h1 := List.length_pos_iff.mpr (h l List.mem_cons_self).2
    have h2 := ih fun x hx => h x (List.mem_cons_of_mem _ hx)
    rw [List.flatten_cons, List.length_append, List.length_cons]
    omega
theorem okT_flat {ls : List (List Nat)} (h : ∀ l ∈ ls, okT l = true) : okT ls.flatten = true := by
  unfold okT
  rw [List.all_eq_true]
  intro c hc
  obtain ⟨l, hl, hc⟩ := List.mem_flatten.mp hc
  exact List.all_eq_true.mp (h l hl) c hc
theorem sjoin_st : ∀ ls : List (List Nat), Str.join (st []) (ls.map st) = st ls.flatten
  | [] => rfl
  | [l] => by
    show st l = _
    rw [List.flatten_singleton]
  | l :: l' :: ls => by
    show st l ++ st [] ++ Str.join (st []) ((l' :: ls).map st) = _
    rw [sjoin_st (l' :: ls), st_app, st_app, List.append_nil, ← List.flatten_cons]
theorem join_st (ls : List (List Nat)) : Txt.join (st []) (ls.map st) = st ls.flatten := by
  show PySem.Builtin.Str.glued _ _ = _
  rw [PySem.StrLaws.glued_eq_join, sjoin_st]
theorem strL_st : ∀ ls : List (List Nat), strL (ls.map fun l => .str (st l)) = some (ls.map st)
  | [] => rfl
  | l :: ls => by
    show (strL (ls.map fun l => .str (st l))).map (st l :: ·) = _
    rw [strL_st ls]
    rfl
theorem join_ref {ls : List (List Nat)} (h : M[r]? = some (.lst (ls.map fun l => .str (st l)))) (hl : ls.flatten.length ≤ 16777216) : mthD .join (.str (Str.ofString "")) [.ref r] M = some (.str (st ls.flatten), M) := by
  have e1 : ((ls.map st).map Str.length).sum = ls.flatten.length := by
    rw [List.length_flatten, List.map_map]
    exact congrArg List.sum (List.map_congr_left fun l _ => st_len l)
  show (match seqOf (.ref r) M with
    | some ds => (match strL ds with
      | some xs => if (xs.map Str.length).sum + xs.length * (Str.ofString "").length ≤ 16777216 then some (D.str (Txt.join (Str.ofString "") xs), M) else none
      | none => none)
    | none => none) = _
  unfold seqOf
  dsimp only
  rw [h]
  dsimp only
  rw [strL_st]
  dsimp only
  rw [em_eq, st_len, List.length_nil, Nat.mul_zero, Nat.add_zero, e1, if_pos hl, join_st]
structure Tx (W : (Nat → Bool) → Nat) (ls : List (List Nat)) (lf : List D) : Prop where
  ok : ∀ l ∈ ls, okT l = true ∧ l ≠ []
  it : ∀ d ∈ lf, Itm d
  w : ∀ p, ls.flatten.countP p + iws p lf ≤ W p
theorem Tx.told {W : (Nat → Bool) → Nat} {ls : List (List Nat)} {lf : List D} {l : List Nat} {d : D} (h : Tx W ls (lf ++ [d])) (hl : okT l = true ∧ l ≠ []) (hd : ∀ p, l.countP p ≤ iw p d) : Tx W (ls ++ [l]) lf := by
  refine ⟨fun x hx => ?_, fun x hx => h.it x (List.mem_append_left _ hx), fun p => ?_⟩
  · rcases List.mem_append.mp hx with hx | hx
    · exact h.ok x hx
    · rw [List.mem_singleton.mp hx]
      exact hl
  · have h1 := h.w p
    have h2 := hd p
    rw [iws_app, iws_one] at h1
    rw [List.flatten_append, List.flatten_singleton, List.countP_append]
    omega
theorem Tx.len {W : (Nat → Bool) → Nat} {ls : List (List Nat)} {lf : List D} (h : Tx W ls lf) : ls.length + lf.length ≤ W pA := by
  have h1 := flat_len h.ok
  have h2 := iws_len h.it
  have h3 := h.w pA
  rw [cntA] at h3
  omega
theorem str_int {i : Int} (h : i ∈ INTS) : biD .str [.int i] M = some (.str (st (itx i))) := by
  show (if i.natAbs.log2 < 1920 then some (D.str (toString i)) else none) = _
  rw [if_pos (ints_ok i h).2.2.1]
  rfl
def oneS (l : List Nat) : D := .tl [.str (st l)]
theorem op_st : Str.ofString "(" = st [40] := op_eq
theorem cl_st : Str.ofString ")" = st [41] := cl_eq
theorem gap_st : Str.ofString ", " = st [44, 32] := by decide +kernel
theorem lt_int {i j : Int} : cmpD .lt (.int i) (.int j) M = some (decide (i < j)) := rfl
local macro_rules | `(tactic| array_mem_dec) => `(tactic| first
  | with_reducible refine vE_c ?_ | with_reducible refine vE_nope ?_ | with_reducible refine vE_var (by with_unfolding_all rfl) ?_ | with_reducible refine vE_bin ?_ | with_reducible refine vE_neg ?_ | with_reducible refine vE_cmp ?_ | with_reducible refine vE_not ?_ | with_reducible refine vE_and ?_ | with_reducible refine vE_or ?_ | with_reducible refine vE_ite ?_
  | with_reducible refine vE_tup ?_ | with_reducible refine vE_lst ?_ | with_reducible refine vE_nil ?_ | with_reducible refine vE_cons ?_ | with_reducible refine vE_idx ?_ | with_reducible refine vE_sli ?_ | with_reducible refine vE_mat ?_ | with_reducible refine vE_call ?_ | with_reducible refine vE_bi (by with_unfolding_all rfl) ?_ | with_reducible refine vE_mth ?_ | with_reducible refine vE_isi ?_
  | with_reducible refine vT_nope ?_ | with_reducible refine vT_var (by with_unfolding_all rfl) ?_ | with_reducible refine vT_cmp ?_ | with_reducible refine vT_not ?_ | with_reducible refine vT_and ?_ | with_reducible refine vT_or ?_ | with_reducible refine vT_call ?_ | with_reducible refine vT_bi (by with_unfolding_all rfl) ?_ | with_reducible refine vT_isi ?_ | with_reducible refine vT_idx ?_
  | with_reducible refine vI_seq ?_ | with_reducible refine vI_rng ?_
  | with_reducible refine vS_nil ?_ | with_reducible refine vS_skip ?_ | with_reducible refine vS_expr ?_ | with_reducible refine vS_asg ?_ | with_reducible refine vS_asgT ?_ | with_reducible refine vS_sub ?_ | with_reducible refine vS_ret ?_ | with_reducible refine vS_brk ?_ | with_reducible refine vS_cont ?_ | with_reducible refine vS_ife ?_ | with_reducible refine vS_for ?_
  | with_reducible refine vaft_nx ?_ | with_reducible refine vaft_rt ?_ | with_reducible refine vaft_bk ?_ | with_reducible refine vaft_ct ?_ | with_reducible refine vturn_nx ?_ | with_reducible refine vturn_ct ?_ | with_reducible refine vturn_bk ?_ | with_reducible refine vturn_rt ?_ | with_reducible refine vfin_rtQ ?_ | with_reducible refine vfin_nxQ ?_)
local macro_rules | `(tactic| array_get_dec) => `(tactic| repeat (first
  | with_reducible refine vE_c ?_ | with_reducible refine vE_nope ?_ | with_reducible refine vE_var (by with_unfolding_all rfl) ?_ | with_reducible refine vE_bin ?_ | with_reducible refine vE_neg ?_ | with_reducible refine vE_cmp ?_ | with_reducible refine vE_not ?_ | with_reducible refine vE_and ?_ | with_reducible refine vE_or ?_ | with_reducible refine vE_ite ?_
  | with_reducible refine vE_tup ?_ | with_reducible refine vE_lst ?_ | with_reducible refine vE_nil ?_ | with_reducible refine vE_cons ?_ | with_reducible refine vE_idx ?_ | with_reducible refine vE_sli ?_ | with_reducible refine vE_mat ?_ | with_reducible refine vE_call ?_ | with_reducible refine vE_bi (by with_unfolding_all rfl) ?_ | with_reducible refine vE_mth ?_ | with_reducible refine vE_isi ?_
  | with_reducible refine vT_nope ?_ | with_reducible refine vT_var (by with_unfolding_all rfl) ?_ | with_reducible refine vT_cmp ?_ | with_reducible refine vT_not ?_ | with_reducible refine vT_and ?_ | with_reducible refine vT_or ?_ | with_reducible refine vT_call ?_ | with_reducible refine vT_bi (by with_unfolding_all rfl) ?_ | with_reducible refine vT_isi ?_ | with_reducible refine vT_idx ?_
  | with_reducible refine vI_seq ?_ | with_reducible refine vI_rng ?_
  | with_reducible refine vS_nil ?_ | with_reducible refine vS_skip ?_ | with_reducible refine vS_expr ?_ | with_reducible refine vS_asg ?_ | with_reducible refine vS_asgT ?_ | with_reducible refine vS_sub ?_ | with_reducible refine vS_ret ?_ | with_reducible refine vS_brk ?_ | with_reducible refine vS_cont ?_ | with_reducible refine vS_ife ?_ | with_reducible refine vS_for ?_
  | with_reducible refine vaft_nx ?_ | with_reducible refine vaft_rt ?_ | with_reducible refine vaft_bk ?_ | with_reducible refine vaft_ct ?_ | with_reducible refine vturn_nx ?_ | with_reducible refine vturn_ct ?_ | with_reducible refine vturn_bk ?_ | with_reducible refine vturn_rt ?_ | with_reducible refine vfin_rtQ ?_ | with_reducible refine vfin_nxQ ?_))
theorem m_text {t : D} (ht : trb t = true) (hw : wt pA t ≤ 90) {Q : D → Mem → Prop} (h : ∀ l, okT l = true → (∀ p, l.countP p ≤ wt p t) → Q (.str (st l)) M) : wR (inv (CC (k + 1)) "_law_text" [t] M) Q X := by
  refine inv_vW (by show (t.val && true) = true; rw [trb_val t ht]; rfl) ?_
  refine C_w (k := k) k74_l__law_text rfl ?_
  show wSs _ k74_b__law_text [some t, none, none, none, none, none] _ _
  unfold k74_b__law_text
  array_get_dec
  refine ⟨[], rfl, by decide, [], rfl, ?_⟩
  array_get_dec
  refine ⟨[t], frzs_vals (by show (t.val && true) = true; rw [trb_val t ht]; rfl), by simp, [t], rfl, ?_⟩
  array_get_dec
  refine ⟨_, rfl, by simp, _, rfl, _, rfl, ?_⟩
  array_get_dec
  have fin : ∀ {env : Env} {z1 z4 z5 : Option D} {ls : List (List Nat)} {lf : List D}, env = [some t, z1, some (.ref 0), some (.ref 1), z4, z5] → Tx (fun p => wt p t) ls lf → wSs ⟨CC k, true, CC (k - 1), k⟩ (.cons (.ret (.mth .join (.c (.str "")) (.cons (.var 2) .nil))) .nil) env [.lst (ls.map fun l => .str (st l)), .lst lf] (finQ (fun v M1 => ∃ v', outD 0 M1 v = some v' ∧ Q v' M) noE) := by
    rintro env z1 z4 z5 ls lf rfl hx
    array_get_dec
    refine ⟨rfl, ?_⟩
    array_get_dec
    refine ⟨_, rfl, rfl, _, _, join_ref (ls := ls) rfl ?_, ?_⟩
    · have := hx.w pA
      rw [cntA] at this
      omega
    · array_get_dec
      refine ⟨_, out_val rfl, h _ (okT_flat fun l hl => (hx.ok l hl).1) fun p => ?_⟩
      have := hx.w p
      omega
  refine ⟨0, 400000, rfl, rfl, by decide, fun L env M => ∃ (z1 z4 z5 : Option D) (ls : List (List Nat)) (lf : List D), env = [some t, z1, some (.ref 0), some (.ref 1), z4, z5] ∧ M = [.lst (ls.map fun l => .str (st l)), .lst lf] ∧ Tx (fun p => wt p t) ls lf, fun _ _ _ _ => rfl, ⟨_, _, _, [], [t], rfl, rfl, ⟨fun l hl => (by cases hl), fun d hd => by rw [List.mem_singleton.mp hd]; exact .inr ht, fun p => by rw [iws_one, trb_wt ht]; simp⟩⟩, ?_, ?_⟩
  · rintro x L env M1 ⟨z1, z4, z5, ls, lf, rfl, rfl, hx⟩
    have hl0 := hx.len
    refine ⟨_, rfl, ?_⟩
    array_get_dec
    refine ⟨_, len_ref (r := 1) (ds := lf) rfl, ?_⟩
    array_get_dec
    refine ⟨_, eq_intC _ _, ?_⟩
    rcases List.eq_nil_or_concat lf with rfl | ⟨fr, d, rfl⟩
    · rw [if_pos (by simp)]
      iterate 4 array_mem_dec
      exact fin rfl hx
    · rw [List.concat_eq_append] at *
      rw [if_neg (by rw [List.length_append]; simp; omega)]
      array_get_dec
      refine ⟨rfl, ?_⟩
      array_get_dec
      refine ⟨_, rfl, rfl, _, _, pop_last (r := 1) rfl, ?_⟩
      have hd := hx.it d (by simp)
      have hdv : d.val = true := by
        rcases hd with ⟨l, rfl, _⟩ | hd
        · rfl
        · exact trb_val d hd
      refine ⟨d, frz_val hdv, ?_⟩
      have hll : ls.length < 16777216 := by omega
      have hfl : fr.length ≤ 90 := by
        rw [List.length_append] at hl0
        omega
      show wSs _ _ [some t, some x, some (.ref 0), some (.ref 1), some d, z5] [.lst (ls.map fun l => .str (st l)), .lst fr] _
      rcases hd with ⟨l, rfl, hlo, hln⟩ | hd
      · array_get_dec
        refine ⟨true, rfl, ?_⟩
        rw [if_pos rfl]
        array_get_dec
        refine ⟨rfl, ?_⟩
        array_get_dec
        refine ⟨_, idx_of (j := 0) (.inl rfl) rfl (by decide), ?_⟩
        array_get_dec
        refine ⟨[.str (st l)], rfl, rfl, _, _, app_end (r := 0) rfl (by rw [List.length_map]; exact hll), ?_⟩
        array_get_dec
        refine ⟨some x, _, z5, ls ++ [l], fr, rfl, ?_, hx.told ⟨hlo, hln⟩ fun p => Nat.le_refl _⟩
        rw [List.map_append]
        rfl
      · cases d with
        | tup ds =>
          have hds := trb_tup.mp hd
          array_get_dec
          refine ⟨false, rfl, ?_⟩
          rw [if_neg (by decide)]
          array_get_dec
          refine ⟨true, rfl, ?_⟩
          rw [if_pos rfl]
          array_get_dec
          refine ⟨rfl, ?_⟩
          array_get_dec
          refine ⟨[.str (st [41])], by rw [cl_st]; rfl, by simp, ?_⟩
          array_get_dec
          refine ⟨[oneS [41]], rfl, rfl, _, _, app_end (r := 1) rfl (by omega), ?_⟩
          array_get_dec
          have hdl : ds.length ≤ 90 := by
            have h1 := hx.w pA
            rw [iws_app, iws_one, iw_tup] at h1
            have h2 := wtsA_len ds
            omega
          refine ⟨_, rfl, ?_⟩
          refine ⟨0, (ds.length : Int), rfl, rfl, rng_ok (by omega), fun L env M => ∃ (j : Nat) (z5 : Option D) (lf : List D), env = [some t, some x, some (.ref 0), some (.ref 1), some (.tup ds), z5] ∧ M = [.lst (ls.map fun l => .str (st l)), .lst lf] ∧ (∀ d ∈ lf, Itm d) ∧ j ≤ ds.length ∧ L = rangeL (j : Int) (ds.length - j) ∧ ∀ p, iws p lf ≤ iws p fr + [41].countP p + wts p (ds.drop (ds.length - j)), fun _ _ _ _ => rfl, ⟨0, z5, fr ++ [oneS [41]], rfl, rfl, fun d hd => ?_, by omega, by simp, fun p => ?_⟩, ?_, ?_⟩
          · rcases List.mem_append.mp hd with hd | hd
            · exact hx.it d (List.mem_append_left _ hd)
            · rw [List.mem_singleton.mp hd]
              exact .inl ⟨[41], rfl, by decide, by decide⟩
          · rw [iws_app, iws_one]
            show iws p fr + [41].countP p ≤ _
            omega
          · rintro y L2 env M2 ⟨j, z5, lf, rfl, rfl, hlf, hj, el, hwp⟩
            cases hmt : ds.length - j with
            | zero =>
              rw [hmt] at el
              cases el
            | succ m =>
            rw [hmt] at el
            obtain ⟨e1, e2⟩ := List.cons.inj el
            subst e1
            have hm : m < ds.length := by omega
            have hlf90 : lf.length ≤ 200 := by
              have h1 := iws_len hlf
              have h2 := hwp pA
              have h3 := hx.w pA
              have h4 : wts pA (ds.drop (ds.length - j)) ≤ wts pA ds := by
                have := wts_app pA (ds.take (ds.length - j)) (ds.drop (ds.length - j))
                rw [List.take_append_drop] at this
                omega
              rw [iws_app, iws_one, iw_tup, parA] at h3
              have h5 : [41].countP pA = 1 := by decide
              omega
            have hdm := hds _ (List.getElem_mem hm)
            have hdv := trb_val _ hdm
            have hdrop : ∀ p, wts p (ds.drop m) = wt p ds[m] + [44, 32].countP p + wts p (ds.drop (m + 1)) := fun p => by
              rw [List.drop_eq_getElem_cons hm, wts_cons]
            refine ⟨_, rfl, ?_⟩
            array_get_dec
            refine ⟨rfl, ?_⟩
            array_get_dec
            refine ⟨_, rfl, ?_⟩
            array_get_dec
            refine ⟨_, sub_ints, ?_⟩
            array_get_dec
            refine ⟨_, sub_ints, ?_⟩
            have em : (ds.length : Int) - 1 - (j : Int) = (m : Int) := by omega
            rw [em]
            refine ⟨_, idx_of (j := m) (.inr (.inl rfl)) (List.getElem?_eq_getElem hm) (by omega), ?_⟩
            array_get_dec
            refine ⟨[ds[m]], frzs_vals (by show (ds[m].val && true) = true; rw [hdv]; rfl), ?_, _, _, app_end (r := 1) rfl (by omega), ?_⟩
            · have : ∀ d : D, d.val = true → argOk d = true := fun d h => by
                cases d <;> first
                  | exact h
                  | rfl
              show (argOk ds[m] && true) = true
              rw [this _ hdv]
              rfl
            array_get_dec
            refine ⟨_, rfl, ?_⟩
            array_get_dec
            refine ⟨_, sub_ints, ?_⟩
            refine ⟨_, lt_int, ?_⟩
            have itm : ∀ d ∈ lf ++ [ds[m]], Itm d := fun d hd => by
              rcases List.mem_append.mp hd with hd | hd
              · exact hlf d hd
              · rw [List.mem_singleton.mp hd]
                exact .inr hdm
            have hL : L2 = rangeL ((j + 1 : Nat) : Int) (ds.length - (j + 1)) := by
              rw [e2, show ds.length - (j + 1) = m by omega]
              rfl
            have hjm : ds.length - (j + 1) = m := by omega
            have hjm2 : ds.length - j = m + 1 := by omega
            by_cases hlt : (j : Int) < (ds.length : Int) - 1
            · rw [if_pos (by simpa using hlt)]
              array_get_dec
              refine ⟨rfl, ?_⟩
              array_get_dec
              refine ⟨[.str (st [44, 32])], by rw [gap_st]; rfl, by simp, ?_⟩
              array_get_dec
              refine ⟨[oneS [44, 32]], rfl, rfl, _, _, app_end (r := 1) (List.getElem?_set_self (by simp)) (by rw [List.length_append, List.length_singleton]; omega), ?_⟩
              array_get_dec
              refine ⟨j + 1, some (.int (j : Int)), lf ++ [ds[m]] ++ [oneS [44, 32]], rfl, rfl, fun d hd => ?_, by omega, hL, fun p => ?_⟩
              · rcases List.mem_append.mp hd with hd | hd
                · exact itm d hd
                · rw [List.mem_singleton.mp hd]
                  exact .inl ⟨[44, 32], rfl, by decide, by decide⟩
              · rw [iws_app, iws_app, iws_one, iws_one, hjm, hdrop, trb_wt hdm]
                have := hwp p
                rw [hjm2] at this
                show _ + [44, 32].countP p ≤ _
                omega
            · rw [if_neg (by simpa using hlt)]
              array_get_dec
              refine ⟨j + 1, some (.int (j : Int)), lf ++ [ds[m]], rfl, rfl, itm, by omega, hL, fun p => ?_⟩
              rw [iws_app, iws_one, hjm, hdrop, trb_wt hdm]
              have := hwp p
              rw [hjm2] at this
              omega
          · rintro env M2 ⟨j, z5, lf, rfl, rfl, hlf, hj, el, hwp⟩
            have hj2 : j = ds.length := by
              cases hmt : ds.length - j with
              | zero => omega
              | succ m =>
                rw [hmt] at el
                cases el
            subst hj2
            rw [Nat.sub_self, List.drop_zero] at hwp
            have hlf90 : lf.length ≤ 200 := by
              have h1 := iws_len hlf
              have h2 := hwp pA
              have h3 := hx.w pA
              rw [iws_app, iws_one, iw_tup, parA] at h3
              have h5 : [41].countP pA = 1 := by decide
              omega
            array_get_dec
            refine ⟨rfl, ?_⟩
            array_get_dec
            refine ⟨[.str (st [40])], by rw [op_st]; rfl, by simp, ?_⟩
            array_get_dec
            refine ⟨[oneS [40]], rfl, rfl, _, _, app_end (r := 1) rfl (by omega), ?_⟩
            array_get_dec
            refine ⟨some x, _, z5, ls, lf ++ [oneS [40]], rfl, rfl, hx.ok, fun d hd => ?_, fun p => ?_⟩
            · rcases List.mem_append.mp hd with hd | hd
              · exact hlf d hd
              · rw [List.mem_singleton.mp hd]
                exact .inl ⟨[40], rfl, by decide, by decide⟩
            · rw [iws_app, iws_one]
              have h1 := hx.w p
              rw [iws_app, iws_one, iw_tup] at h1
              have h2 := hwp p
              have h3 : [40, 41].countP p = [40].countP p + [41].countP p := by
                rw [← List.countP_append]
                rfl
              show _ + (_ + [40].countP p) ≤ _
              omega
        | int i =>
          have hi : i ∈ INTS := by
            rw [trb] at hd
            simpa using hd
          array_get_dec
          refine ⟨false, rfl, ?_⟩
          rw [if_neg (by decide)]
          array_get_dec
          refine ⟨false, rfl, ?_⟩
          rw [if_neg (by decide)]
          array_get_dec
          refine ⟨rfl, ?_⟩
          array_get_dec
          refine ⟨_, str_int hi, ?_⟩
          array_get_dec
          refine ⟨[.str (st (itx i))], rfl, rfl, _, _, app_end (r := 0) rfl (by rw [List.length_map]; exact hll), ?_⟩
          array_get_dec
          refine ⟨some x, _, z5, ls ++ [itx i], fr, rfl, ?_, hx.told ⟨(ints_ok i hi).1, (ints_ok i hi).2.1⟩ fun p => ?_⟩
          · rw [List.map_append]
            rfl
          · show _ ≤ wt p (.int i)
            rw [wt]
            exact Nat.le_refl _
        | str s =>
          have hi : s ∈ STRS := by
            rw [trb] at hd
            simpa using hd
          array_get_dec
          refine ⟨false, rfl, ?_⟩
          rw [if_neg (by decide)]
          array_get_dec
          refine ⟨false, rfl, ?_⟩
          rw [if_neg (by decide)]
          array_get_dec
          refine ⟨rfl, ?_⟩
          array_get_dec
          refine ⟨.str (st s.cps.toList), rfl, ?_⟩
          array_get_dec
          refine ⟨[.str (st s.cps.toList)], rfl, rfl, _, _, app_end (r := 0) rfl (by rw [List.length_map]; exact hll), ?_⟩
          array_get_dec
          refine ⟨some x, _, z5, ls ++ [s.cps.toList], fr, rfl, ?_, hx.told ⟨(strs_ok s hi).1, (strs_ok s hi).2.1⟩ fun p => ?_⟩
          · rw [List.map_append]
            rfl
          · show _ ≤ wt p (.str s)
            rw [wt]
            exact Nat.le_refl _
        | _ => simp [trb] at hd
  · rintro env M1 ⟨z1, z4, z5, ls, lf, rfl, rfl, hx⟩
    exact fin rfl hx
end Z
end
section
set_option Elab.async false
set_option linter.all false
set_option maxRecDepth 100000
set_option maxHeartbeats 1000000
set_option autoImplicit false
/-! Signs, other spaces, edited texts. -/
namespace Z
open PySem
variable {M : Mem} {X : Ex} {k : Nat} {r : Nat}
theorem add_st {a b : List Nat} (h : a.length + b.length ≤ 16777216) : binD .add (.str (st a)) (.str (st b)) M = some (.str (st (a ++ b))) := by
  show (if (st a).length + (st b).length ≤ 16777216 then some (D.str (st a ++ st b)) else none) = _
  rw [st_len, st_len, if_pos h, st_app]
theorem sli_gen {l : List Nat} {a b : Nat} (h : l.length ≤ 16777216) : sliD (.str (st l)) (some (a : Int)) (some (b : Int)) M = some (.str (st ((l.drop a).take (b - a)))) := by
  by_cases hb : b ≤ l.length
  · exact sli_st h hb
  · show (if (st l).length ≤ 16777216 then some (D.str (L2.cutS (st l) (some (a : Int)) (some (b : Int)))) else none) = _
    rw [st_len, if_pos h]
    unfold L2.cutS
    rw [st_len, st_cps, HT.sIx_nat, HT.sIx_nat, Nat.min_eq_right (by omega : l.length ≤ b)]
    congr 2
    show (⟨_⟩ : Str) = st _
    unfold st
    congr 2
    by_cases ha : a ≤ l.length
    · rw [Nat.min_eq_left ha, List.take_of_length_le (by rw [List.length_drop]; omega), List.take_of_length_le (by rw [List.length_drop]; omega)]
    · rw [Nat.min_eq_right (by omega), List.drop_eq_nil_of_le (Nat.le_refl _), List.drop_eq_nil_of_le (by omega)]
      simp
theorem sli_to {l : List Nat} {b : Nat} (h : l.length ≤ 16777216) : sliD (.str (st l)) none (some (b : Int)) M = some (.str (st (l.take b))) := by
  show (if (st l).length ≤ 16777216 then some (D.str (L2.cutS (st l) none (some (b : Int)))) else none) = _
  rw [st_len, if_pos h]
  unfold L2.cutS
  rw [st_len, st_cps, HT.sIx_nat, HT.sIx_none, List.drop_zero, Nat.sub_zero]
  congr 2
  show (⟨_⟩ : Str) = st _
  unfold st
  congr 2
  rcases Nat.le_total b l.length with h | h
  · rw [Nat.min_eq_left h]
  · rw [Nat.min_eq_right h, List.take_of_length_le (Nat.le_refl _), List.take_of_length_le h]
theorem sli_from {l : List Nat} {a : Nat} (h : l.length ≤ 16777216) : sliD (.str (st l)) (some (a : Int)) none M = some (.str (st (l.drop a))) := by
  show (if (st l).length ≤ 16777216 then some (D.str (L2.cutS (st l) (some (a : Int)) none)) else none) = _
  rw [st_len, if_pos h]
  unfold L2.cutS
  rw [st_len, st_cps, HT.sIx_nat, HT.sIx_none]
  congr 2
  show (⟨_⟩ : Str) = st _
  unfold st
  congr 2
  rcases Nat.le_total a l.length with h | h
  · rw [Nat.min_eq_left h, List.take_of_length_le (by rw [List.length_drop]; omega)]
  · rw [Nat.min_eq_right h, List.drop_eq_nil_of_le (Nat.le_refl _), List.drop_eq_nil_of_le h]
    simp
/-- a text as good as a text of these bounds -/
def TB (a b c : Nat) (d : D) : Prop := ∃ l, d = .str (st l) ∧ Bd l a b c
theorem TB.val {a b c : Nat} {d : D} (h : TB a b c d) : d.val = true := by
  obtain ⟨l, rfl, _⟩ := h
  rfl
theorem spl (p : Nat → Bool) (l : List Nat) (k : Nat) : (l.take k).countP p + (l.drop k).countP p = l.countP p := by
  rw [← List.countP_append, List.take_append_drop]
theorem okT_app {a b : List Nat} : okT (a ++ b) = (okT a && okT b) := List.all_append
theorem okT_take {l : List Nat} (h : okT l = true) (k : Nat) : okT (l.take k) = true := okT_of fun c hc => of_decide_eq_true (List.all_eq_true.mp h c (List.mem_of_mem_take hc))
theorem okT_drop {l : List Nat} (h : okT l = true) (k : Nat) : okT (l.drop k) = true := okT_of fun c hc => of_decide_eq_true (List.all_eq_true.mp h c (List.mem_of_mem_drop hc))
theorem Bd.app {l m : List Nat} {a b c a' b' c' : Nat} (h : Bd l a b c) (h' : Bd m a' b' c') : Bd (l ++ m) (a + a') (b + b') (c + c') := by
  refine ⟨by rw [okT_app, h.ok, h'.ok]; rfl, ?_, ?_, ?_⟩
  · rw [List.length_append]
    have := h.len
    have := h'.len
    omega
  · unfold cntD
    rw [List.countP_append]
    exact Nat.add_le_add h.dig h'.dig
  · unfold cntO
    rw [List.countP_append]
    exact Nat.add_le_add h.op h'.op
theorem Bd.up {l : List Nat} {a b c a' b' c' : Nat} (h : Bd l a b c) (ha : a ≤ a') (hb : b ≤ b') (hc : c ≤ c') : Bd l a' b' c' :=
  ⟨h.ok, Nat.le_trans h.len ha, Nat.le_trans h.dig hb, Nat.le_trans h.op hc⟩
/-- a piece put in -/
theorem Bd.put {l m : List Nat} {a b c a' b' c' : Nat} (h : Bd l a b c) (h' : Bd m a' b' c') (k j : Nat) (hj : k ≤ j) : Bd (l.take k ++ m ++ l.drop j) (a + a') (b + b') (c + c') := by
  have sub : ∀ p : Nat → Bool, (l.take k).countP p + (l.drop j).countP p ≤ l.countP p := fun p => by
    have h1 := spl p l k
    have h2 : (l.drop j).countP p ≤ (l.drop k).countP p := by
      rw [show j = k + (j - k) by omega, ← List.drop_drop]
      exact (List.drop_sublist _ _).countP_le
    omega
  refine ⟨by rw [okT_app, okT_app, okT_take h.ok, h'.ok, okT_drop h.ok]; rfl, ?_, ?_, ?_⟩
  · have := sub pA
    have := h.len
    have := h'.len
    rw [cntA, cntA, cntA] at *
    rw [List.length_append, List.length_append]
    omega
  · have h1 := sub (decide <| · ∈ DIG)
    have h2 := h.dig
    have h3 := h'.dig
    unfold cntD at *
    rw [List.countP_append, List.countP_append]
    omega
  · have h1 := sub (· == 40)
    have h2 := h.op
    have h3 := h'.op
    unfold cntO at *
    rw [List.countP_append, List.countP_append]
    omega
theorem Bd.cut {l : List Nat} {a b c : Nat} (h : Bd l a b c) (k : Nat) : Bd (l.take k) a b c := by
  refine ⟨okT_take h.ok k, ?_, ?_, ?_⟩
  · exact Nat.le_trans (List.take_sublist _ _).length_le h.len
  · exact Nat.le_trans (List.take_sublist _ _).countP_le h.dig
  · exact Nat.le_trans (List.take_sublist _ _).countP_le h.op
theorem Bd.swap {l : List Nat} {a b c : Nat} (h : Bd l a b c) (k : Nat) : Bd (l.take k ++ (l.drop (k + 1)).take 1 ++ (l.drop k).take 1 ++ l.drop (k + 2)) a b c := by
  have sub : ∀ p : Nat → Bool, (l.take k ++ (l.drop (k + 1)).take 1 ++ (l.drop k).take 1 ++ l.drop (k + 2)).countP p = l.countP p := fun p => by
    have h1 := spl p l k
    have h2 := spl p (l.drop k) 1
    have h3 := spl p (l.drop (k + 1)) 1
    rw [List.drop_drop] at h2 h3
    rw [List.countP_append, List.countP_append, List.countP_append]
    rw [show k + 1 + 1 = k + 2 by omega] at h3
    omega
  refine ⟨?_, ?_, ?_, ?_⟩
  · rw [okT_app, okT_app, okT_app, okT_take h.ok, okT_take (okT_drop h.ok _), okT_take (okT_drop h.ok _), okT_drop h.ok]
    rfl
  · have h1 := sub pA
    rw [cntA, cntA] at h1
    have := h.len
    omega
  · unfold cntD
    rw [sub]
    exact h.dig
  · unfold cntO
    rw [sub]
    exact h.op
theorem Bd.one {c : Nat} (h : okT [c] = true) : Bd [c] 1 1 1 := by
  refine ⟨h, by simp, ?_, ?_⟩
  · exact Nat.le_trans List.countP_le_length (by simp)
  · exact Nat.le_trans List.countP_le_length (by simp)
theorem Bd.any {l : List Nat} (h : okT l = true) : Bd l l.length l.length l.length := ⟨h, Nat.le_refl _, List.countP_le_length, List.countP_le_length⟩
def Sgn (d : D) : Prop := ∃ c, d = .str (st [c]) ∧ okT [c] = true
theorem all_eq : ∃ l : List Nat, (Str.ofString " !\"#$&'()*+,-./0123456789:;<=>?@ABCDEFGHIJKLMNOPQRSTUVWXYZ[\\]^_`abcdefghijklmnopqrstuvwxyz{|}~\n\t") = st l ∧ okT l = true ∧ l.length = 96 := by
  refine ⟨(Str.ofString " !\"#$&'()*+,-./0123456789:;<=>?@ABCDEFGHIJKLMNOPQRSTUVWXYZ[\\]^_`abcdefghijklmnopqrstuvwxyz{|}~\n\t").cps.toList, st_of _, ?_, ?_⟩ <;> decide +kernel
theorem len_stN {l : List Nat} (h : l.length ≤ 16777216) : biD .len [.str (st l)] M = some (.int (l.length : Int)) := len_st h
local macro_rules | `(tactic| array_mem_dec) => `(tactic| first
  | with_reducible refine vE_c ?_ | with_reducible refine vE_nope ?_ | with_reducible refine vE_var (by with_unfolding_all rfl) ?_ | with_reducible refine vE_bin ?_ | with_reducible refine vE_neg ?_ | with_reducible refine vE_cmp ?_ | with_reducible refine vE_not ?_ | with_reducible refine vE_and ?_ | with_reducible refine vE_or ?_ | with_reducible refine vE_ite ?_
  | with_reducible refine vE_tup ?_ | with_reducible refine vE_lst ?_ | with_reducible refine vE_nil ?_ | with_reducible refine vE_cons ?_ | with_reducible refine vE_idx ?_ | with_reducible refine vE_sli ?_ | with_reducible refine vE_mat ?_ | with_reducible refine vE_call ?_ | with_reducible refine vE_bi (by with_unfolding_all rfl) ?_ | with_reducible refine vE_mth ?_ | with_reducible refine vE_isi ?_
  | with_reducible refine vT_nope ?_ | with_reducible refine vT_var (by with_unfolding_all rfl) ?_ | with_reducible refine vT_cmp ?_ | with_reducible refine vT_not ?_ | with_reducible refine vT_and ?_ | with_reducible refine vT_or ?_ | with_reducible refine vT_call ?_ | with_reducible refine vT_bi (by with_unfolding_all rfl) ?_ | with_reducible refine vT_isi ?_ | with_reducible refine vT_idx ?_
  | with_reducible refine vI_seq ?_ | with_reducible refine vI_rng ?_
  | with_reducible refine vS_nil ?_ | with_reducible refine vS_skip ?_ | with_reducible refine vS_expr ?_ | with_reducible refine vS_asg ?_ | with_reducible refine vS_asgT ?_ | with_reducible refine vS_sub ?_ | with_reducible refine vS_ret ?_ | with_reducible refine vS_brk ?_ | with_reducible refine vS_cont ?_ | with_reducible refine vS_ife ?_ | with_reducible refine vS_for ?_
  | with_reducible refine vaft_nx ?_ | with_reducible refine vaft_rt ?_ | with_reducible refine vaft_bk ?_ | with_reducible refine vaft_ct ?_ | with_reducible refine vturn_nx ?_ | with_reducible refine vturn_ct ?_ | with_reducible refine vturn_bk ?_ | with_reducible refine vturn_rt ?_ | with_reducible refine vfin_rtQ ?_ | with_reducible refine vfin_nxQ ?_)
local macro_rules | `(tactic| array_get_dec) => `(tactic| repeat (first
  | with_reducible refine vE_c ?_ | with_reducible refine vE_nope ?_ | with_reducible refine vE_var (by with_unfolding_all rfl) ?_ | with_reducible refine vE_bin ?_ | with_reducible refine vE_neg ?_ | with_reducible refine vE_cmp ?_ | with_reducible refine vE_not ?_ | with_reducible refine vE_and ?_ | with_reducible refine vE_or ?_ | with_reducible refine vE_ite ?_
  | with_reducible refine vE_tup ?_ | with_reducible refine vE_lst ?_ | with_reducible refine vE_nil ?_ | with_reducible refine vE_cons ?_ | with_reducible refine vE_idx ?_ | with_reducible refine vE_sli ?_ | with_reducible refine vE_mat ?_ | with_reducible refine vE_call ?_ | with_reducible refine vE_bi (by with_unfolding_all rfl) ?_ | with_reducible refine vE_mth ?_ | with_reducible refine vE_isi ?_
  | with_reducible refine vT_nope ?_ | with_reducible refine vT_var (by with_unfolding_all rfl) ?_ | with_reducible refine vT_cmp ?_ | with_reducible refine vT_not ?_ | with_reducible refine vT_and ?_ | with_reducible refine vT_or ?_ | with_reducible refine vT_call ?_ | with_reducible refine vT_bi (by with_unfolding_all rfl) ?_ | with_reducible refine vT_isi ?_ | with_reducible refine vT_idx ?_
  | with_reducible refine vI_seq ?_ | with_reducible refine vI_rng ?_
  | with_reducible refine vS_nil ?_ | with_reducible refine vS_skip ?_ | with_reducible refine vS_expr ?_ | with_reducible refine vS_asg ?_ | with_reducible refine vS_asgT ?_ | with_reducible refine vS_sub ?_ | with_reducible refine vS_ret ?_ | with_reducible refine vS_brk ?_ | with_reducible refine vS_cont ?_ | with_reducible refine vS_ife ?_ | with_reducible refine vS_for ?_
  | with_reducible refine vaft_nx ?_ | with_reducible refine vaft_rt ?_ | with_reducible refine vaft_bk ?_ | with_reducible refine vaft_ct ?_ | with_reducible refine vturn_nx ?_ | with_reducible refine vturn_ct ?_ | with_reducible refine vturn_bk ?_ | with_reducible refine vturn_rt ?_ | with_reducible refine vfin_rtQ ?_ | with_reducible refine vfin_nxQ ?_))
theorem m_sign_of {cs : List Nat} (ho : okT cs = true) (hn : 0 < cs.length) (hl : cs.length ≤ 1000) : SpD (CC (k + 2)) "_law_sign_of" [.str (st cs)] Sgn := by
  intro ns
  refine C_w (k := k + 1) k74_l__law_sign_of rfl ?_
  show wSs _ k74_b__law_sign_of [some (.ref 0), some (.str (st cs)), none] _ _
  unfold k74_b__law_sign_of
  array_get_dec
  refine ⟨_, rfl, ?_⟩
  refine inv_dr (m_take (by decide)) rfl rfl fun w ns2 hw => ?_
  obtain ⟨m, rfl, hm⟩ := hw
  array_get_dec
  refine ⟨_, gt_ints, ?_⟩
  have get : ∀ {l : List Nat} {j : Nat} {Q : D → Prop}, okT l = true → (hj : j < l.length) → (∀ c, okT [c] = true → Q (.str (st [c]))) → Q (.str (st [l[j]])) := fun ho hj h => h _ (okT_cons ho (List.getElem?_eq_getElem hj))
  by_cases h0 : (0 : Int) < (m : Int)
  · rw [if_pos (by simpa using h0)]
    array_get_dec
    refine ⟨_, len_st (by omega), ?_⟩
    array_get_dec
    refine ⟨_, rfl, ?_⟩
    refine inv_dr (m_take (by omega)) rfl rfl fun w ns3 hw => ?_
    obtain ⟨j, rfl, hj⟩ := hw
    have hj' : j < cs.length := by omega
    refine ⟨_, idx_st (by omega) (List.getElem?_eq_getElem hj'), ?_⟩
    array_get_dec
    exact ⟨ns3, [], _, rfl, out_val rfl, _, rfl, okT_cons ho (List.getElem?_eq_getElem hj')⟩
  · rw [if_neg (by simpa using h0)]
    obtain ⟨al, e1, e2, e3⟩ := all_eq
    rw [e1]
    array_get_dec
    refine ⟨_, rfl, ?_⟩
    array_get_dec
    refine ⟨_, len_st (by omega), ?_⟩
    array_get_dec
    refine ⟨_, rfl, ?_⟩
    refine inv_dr (m_take (by omega)) rfl rfl fun w ns3 hw => ?_
    obtain ⟨j, rfl, hj⟩ := hw
    have hj' : j < al.length := by omega
    refine ⟨_, idx_st (by omega) (List.getElem?_eq_getElem hj'), ?_⟩
    array_get_dec
    exact ⟨ns3, [], _, rfl, out_val rfl, _, rfl, okT_cons e2 (List.getElem?_eq_getElem hj')⟩
theorem m_edited {l cs : List Nat} {a b c : Nat} (hb : Bd l a b c) (ha : a ≤ 100000) (ho : okT cs = true) (hn : 0 < cs.length) (hl : cs.length ≤ 1000) : SpD (CC (k + 3)) "_law_edited" [.str (st l), .str (st cs)] (TB (a + 1) (b + 1) (c + 1)) := by
  intro ns
  have hla := hb.len
  refine C_w (k := k + 2) k74_l__law_edited rfl ?_
  show wSs _ k74_b__law_edited [some (.ref 0), some (.str (st l)), some (.str (st cs)), none, none] _ _
  unfold k74_b__law_edited
  array_get_dec
  refine ⟨_, rfl, ?_⟩
  refine inv_dr (m_take (by decide)) rfl rfl fun w ns2 hw => ?_
  obtain ⟨m, rfl, hm⟩ := hw
  refine ⟨_, rfl, ?_⟩
  array_get_dec
  refine ⟨_, len_st (by omega), ?_⟩
  array_get_dec
  refine ⟨_, add_ints, ?_⟩
  array_get_dec
  refine ⟨_, rfl, ?_⟩
  refine inv_dr (m_take (by omega)) rfl rfl fun w ns3 hw => ?_
  obtain ⟨j, rfl, hj⟩ := hw
  refine ⟨_, rfl, ?_⟩
  have ej : (j : Int) + 1 = ((j + 1 : Nat) : Int) := by omega
  have ej2 : (j : Int) + 2 = ((j + 2 : Nat) : Int) := by omega
  have hl3 : l.length ≤ 16777216 := by omega
  have take_len : ∀ n : Nat, (l.take n).length ≤ l.length := fun n => (List.take_sublist _ _).length_le
  have drop_len : ∀ n : Nat, (l.drop n).length ≤ l.length := fun n => (List.drop_sublist _ _).length_le
  array_get_dec
  refine ⟨_, lt_int, ?_⟩
  by_cases h3 : (m : Int) < 3
  · rw [if_pos (by simpa using h3)]
    array_get_dec
    refine ⟨_, rfl, ?_⟩
    array_get_dec
    refine ⟨_, rfl, _, sli_to hl3, ?_⟩
    array_get_dec
    refine ⟨_, rfl, ?_⟩
    refine inv_dr (m_sign_of (k := k) ho hn hl) rfl rfl fun w ns4 hw => ?_
    obtain ⟨ch, rfl, hch⟩ := hw
    refine ⟨_, add_st (by have := take_len j; simp; omega), ?_⟩
    array_get_dec
    refine ⟨_, rfl, ?_⟩
    array_get_dec
    refine ⟨_, rfl, _, sli_from hl3, ?_⟩
    refine ⟨_, add_st (by have := take_len j; have := drop_len j; rw [List.length_append]; simp; omega), ?_⟩
    array_get_dec
    exact ⟨ns4, [], _, rfl, out_val rfl, _, rfl, hb.put (Bd.one hch) j j (Nat.le_refl _)⟩
  rw [if_neg (by simpa using h3)]
  array_get_dec
  refine ⟨_, lt_int, ?_⟩
  by_cases h5 : (m : Int) < 5
  · rw [if_pos (by simpa using h5)]
    array_get_dec
    refine ⟨_, rfl, ?_⟩
    array_get_dec
    refine ⟨_, rfl, _, sli_to hl3, ?_⟩
    array_get_dec
    refine ⟨_, add_ints, ?_⟩
    rw [ej]
    refine ⟨_, rfl, ?_⟩
    array_get_dec
    refine ⟨_, rfl, _, sli_from hl3, ?_⟩
    refine ⟨_, add_st (by have := take_len j; have := drop_len (j + 1); omega), ?_⟩
    array_get_dec
    refine ⟨ns3, [], _, rfl, out_val rfl, _, rfl, ?_⟩
    have := hb.put (m := []) ⟨rfl, Nat.zero_le 1, Nat.zero_le 1, Nat.zero_le 1⟩ j (j + 1) (Nat.le_succ _)
    rwa [List.append_nil] at this
  rw [if_neg (by simpa using h5)]
  array_get_dec
  refine ⟨_, lt_int, ?_⟩
  by_cases h7 : (m : Int) < 7
  · rw [if_pos (by simpa using h7)]
    array_get_dec
    refine ⟨_, rfl, ?_⟩
    array_get_dec
    refine ⟨_, rfl, _, sli_to hl3, ?_⟩
    array_get_dec
    refine ⟨_, rfl, ?_⟩
    refine inv_dr (m_sign_of (k := k) ho hn hl) rfl rfl fun w ns4 hw => ?_
    obtain ⟨ch, rfl, hch⟩ := hw
    refine ⟨_, add_st (by have := take_len j; simp; omega), ?_⟩
    array_get_dec
    refine ⟨_, add_ints, ?_⟩
    rw [ej]
    refine ⟨_, rfl, ?_⟩
    array_get_dec
    refine ⟨_, rfl, _, sli_from hl3, ?_⟩
    refine ⟨_, add_st (by have := take_len j; have := drop_len (j + 1); rw [List.length_append]; simp; omega), ?_⟩
    array_get_dec
    exact ⟨ns4, [], _, rfl, out_val rfl, _, rfl, hb.put (Bd.one hch) j (j + 1) (Nat.le_succ _)⟩
  rw [if_neg (by simpa using h7)]
  array_get_dec
  refine ⟨_, eq_intC _ _, ?_⟩
  by_cases h8 : (m : Int) = 7
  · rw [if_pos (by simpa using h8)]
    array_get_dec
    refine ⟨_, rfl, ?_⟩
    array_get_dec
    refine ⟨_, rfl, _, sli_to hl3, ?_⟩
    array_get_dec
    refine ⟨_, add_ints, ?_⟩
    rw [ej]
    refine ⟨_, rfl, ?_⟩
    array_get_dec
    refine ⟨_, add_ints, ?_⟩
    rw [ej2]
    refine ⟨_, rfl, _, sli_gen hl3, ?_⟩
    rw [show j + 2 - (j + 1) = 1 by omega]
    have t1 : ∀ q : List Nat, (q.take 1).length ≤ 1 := fun q => by simp; omega
    refine ⟨_, add_st (by have := take_len j; have := t1 (l.drop (j + 1)); omega), ?_⟩
    array_get_dec
    refine ⟨_, rfl, ?_⟩
    array_get_dec
    refine ⟨_, add_ints, ?_⟩
    rw [ej]
    refine ⟨_, rfl, _, sli_gen hl3, ?_⟩
    rw [show j + 1 - j = 1 by omega]
    refine ⟨_, add_st (by have := take_len j; have := t1 (l.drop (j + 1)); have := t1 (l.drop j); rw [List.length_append]; omega), ?_⟩
    array_get_dec
    refine ⟨_, add_ints, ?_⟩
    rw [ej2]
    refine ⟨_, rfl, ?_⟩
    array_get_dec
    refine ⟨_, rfl, _, sli_from hl3, ?_⟩
    refine ⟨_, add_st (by have := take_len j; have := t1 (l.drop (j + 1)); have := t1 (l.drop j); have := drop_len (j + 2); rw [List.length_append, List.length_append]; omega), ?_⟩
    array_get_dec
    exact ⟨ns3, [], _, rfl, out_val rfl, _, rfl, (hb.swap j).up (by omega) (by omega) (by omega)⟩
  rw [if_neg (by simpa using h8)]
  array_get_dec
  refine ⟨_, rfl, ?_⟩
  array_get_dec
  refine ⟨_, rfl, _, sli_to hl3, ?_⟩
  array_get_dec
  exact ⟨ns3, [], _, rfl, out_val rfl, _, rfl, (hb.cut j).up (by omega) (by omega) (by omega)⟩
end Z
end
section
set_option Elab.async false
set_option linter.all false
set_option maxRecDepth 100000
set_option maxHeartbeats 1000000
set_option autoImplicit false
/-! Other spaces. -/
namespace Z
open PySem
variable {M : Mem} {X : Ex} {k : Nat} {r : Nat}
def sp (n : Nat) : List Nat := List.replicate n 32
def Spc (d : D) : Prop := ∃ n, n ≤ 2 ∧ d = .str (st (sp n))
theorem sp2_eq : Str.ofString "  " = st [32, 32] := by decide +kernel
def SP5 : List D := [.str (Str.ofString ""), .str (Str.ofString ""), .str (Str.ofString ""), .str (Str.ofString " "), .str (Str.ofString "  ")]
def SP3 : List D := [.str (Str.ofString ""), .str (Str.ofString ""), .str (Str.ofString " ")]
theorem spc0 : Spc (.str (Str.ofString "")) := ⟨0, by omega, by rw [em_eq]; rfl⟩
theorem spc1 : Spc (.str (Str.ofString " ")) := ⟨1, by omega, by rw [sp_eq]; rfl⟩
theorem spc2 : Spc (.str (Str.ofString "  ")) := ⟨2, by omega, by rw [sp2_eq]; rfl⟩
theorem sp5 {d : D} (h : d ∈ SP5) : Spc d := by
  unfold SP5 at h
  simp only [List.mem_cons, List.not_mem_nil, or_false] at h
  rcases h with rfl | rfl | rfl | rfl | rfl
  · exact spc0
  · exact spc0
  · exact spc0
  · exact spc1
  · exact spc2
theorem sp3 {d : D} (h : d ∈ SP3) : Spc d := by
  unfold SP3 at h
  simp only [List.mem_cons, List.not_mem_nil, or_false] at h
  rcases h with rfl | rfl | rfl
  · exact spc0
  · exact spc0
  · exact spc1
theorem sp_bd (n : Nat) : okT (sp n) = true ∧ (sp n).length = n ∧ cntD (sp n) = 0 ∧ cntO (sp n) = 0 := by
  refine ⟨okT_of fun c hc => ?_, List.length_replicate, ?_, ?_⟩
  · rw [List.eq_of_mem_replicate hc]
    decide
  · unfold cntD
    rw [List.countP_eq_zero]
    intro c hc
    rw [List.eq_of_mem_replicate hc]
    decide
  · unfold cntO
    rw [List.countP_eq_zero]
    intro c hc
    rw [List.eq_of_mem_replicate hc]
    decide
theorem b3_eq : Str.ofString "(,)" = st [40, 44, 41] := by decide +kernel
structure Sd (l : List Nat) (ls : List (List Nat)) (rest : List Nat) : Prop where
  ok : okT ls.flatten = true
  okr : okT rest = true
  few : ls.length + rest.length ≤ l.length
  len : ls.flatten.length + 5 * rest.length ≤ 5 * l.length
  dig : cntD ls.flatten + cntD rest ≤ cntD l
  op : cntO ls.flatten + cntO rest ≤ cntO l
theorem Sd.skip {l : List Nat} {ls : List (List Nat)} {c : Nat} {rest : List Nat} (h : Sd l ls (c :: rest)) : Sd l ls rest := by
  refine ⟨h.ok, (band (show (_ && okT rest) = true from h.okr)).2, ?_, ?_, ?_, ?_⟩
  · have := h.few
    rw [List.length_cons] at this
    omega
  · have := h.len
    rw [List.length_cons] at this
    omega
  · have := h.dig
    have e : cntD rest ≤ cntD (c :: rest) := (List.sublist_cons_self _ _).countP_le
    omega
  · have := h.op
    have e : cntO rest ≤ cntO (c :: rest) := (List.sublist_cons_self _ _).countP_le
    omega
theorem Sd.put {l : List Nat} {ls : List (List Nat)} {c : Nat} {rest : List Nat} (h : Sd l ls (c :: rest)) {n m : Nat} (hn : n ≤ 2) (hm : m ≤ 2) : Sd l (ls ++ [sp n ++ [c] ++ sp m]) rest := by
  obtain ⟨a1, a2, a3, a4⟩ := sp_bd n
  obtain ⟨b1, b2, b3, b4⟩ := sp_bd m
  have hk := band (show (decide (c < 0x110000) && okT rest) = true from h.okr)
  have ec : ∀ p : Nat → Bool, (c :: rest).countP p = [c].countP p + rest.countP p := fun p => by
    rw [← List.countP_append]
    rfl
  have ef : (ls ++ [sp n ++ [c] ++ sp m]).flatten = ls.flatten ++ (sp n ++ [c] ++ sp m) := by
    rw [List.flatten_append, List.flatten_singleton]
  refine ⟨?_, hk.2, ?_, ?_, ?_, ?_⟩
  · rw [ef, okT_app, okT_app, okT_app, h.ok, a1, b1]
    show (true && (true && (decide (c < 0x110000) && true) && true)) = true
    rw [hk.1]
    rfl
  · have := h.few
    rw [List.length_cons] at this
    rw [List.length_append, List.length_singleton]
    omega
  · have := h.len
    rw [List.length_cons] at this
    rw [ef, List.length_append, List.length_append, List.length_append, a2, b2, List.length_singleton]
    omega
  · have := h.dig
    rw [ef]
    unfold cntD at *
    rw [ec] at this
    rw [List.countP_append, List.countP_append, List.countP_append, a3, b3]
    omega
  · have := h.op
    rw [ef]
    unfold cntO at *
    rw [ec] at this
    rw [List.countP_append, List.countP_append, List.countP_append, a4, b4]
    omega
theorem mem_stc {c : Nat} {w : List Nat} : cmpD .mem (.str (st [c])) (.str (st w)) M = some (decide (c ∈ w)) := mem_st (M := M)
local macro_rules | `(tactic| array_mem_dec) => `(tactic| first
  | with_reducible refine vE_c ?_ | with_reducible refine vE_nope ?_ | with_reducible refine vE_var (by with_unfolding_all rfl) ?_ | with_reducible refine vE_bin ?_ | with_reducible refine vE_neg ?_ | with_reducible refine vE_cmp ?_ | with_reducible refine vE_not ?_ | with_reducible refine vE_and ?_ | with_reducible refine vE_or ?_ | with_reducible refine vE_ite ?_
  | with_reducible refine vE_tup ?_ | with_reducible refine vE_lst ?_ | with_reducible refine vE_nil ?_ | with_reducible refine vE_cons ?_ | with_reducible refine vE_idx ?_ | with_reducible refine vE_sli ?_ | with_reducible refine vE_mat ?_ | with_reducible refine vE_call ?_ | with_reducible refine vE_bi (by with_unfolding_all rfl) ?_ | with_reducible refine vE_mth ?_ | with_reducible refine vE_isi ?_
  | with_reducible refine vT_nope ?_ | with_reducible refine vT_var (by with_unfolding_all rfl) ?_ | with_reducible refine vT_cmp ?_ | with_reducible refine vT_not ?_ | with_reducible refine vT_and ?_ | with_reducible refine vT_or ?_ | with_reducible refine vT_call ?_ | with_reducible refine vT_bi (by with_unfolding_all rfl) ?_ | with_reducible refine vT_isi ?_ | with_reducible refine vT_idx ?_
  | with_reducible refine vI_seq ?_ | with_reducible refine vI_rng ?_
  | with_reducible refine vS_nil ?_ | with_reducible refine vS_skip ?_ | with_reducible refine vS_expr ?_ | with_reducible refine vS_asg ?_ | with_reducible refine vS_asgT ?_ | with_reducible refine vS_sub ?_ | with_reducible refine vS_ret ?_ | with_reducible refine vS_brk ?_ | with_reducible refine vS_cont ?_ | with_reducible refine vS_ife ?_ | with_reducible refine vS_for ?_
  | with_reducible refine vaft_nx ?_ | with_reducible refine vaft_rt ?_ | with_reducible refine vaft_bk ?_ | with_reducible refine vaft_ct ?_ | with_reducible refine vturn_nx ?_ | with_reducible refine vturn_ct ?_ | with_reducible refine vturn_bk ?_ | with_reducible refine vturn_rt ?_ | with_reducible refine vfin_rtQ ?_ | with_reducible refine vfin_nxQ ?_)
local macro_rules | `(tactic| array_get_dec) => `(tactic| repeat (first
  | with_reducible refine vE_c ?_ | with_reducible refine vE_nope ?_ | with_reducible refine vE_var (by with_unfolding_all rfl) ?_ | with_reducible refine vE_bin ?_ | with_reducible refine vE_neg ?_ | with_reducible refine vE_cmp ?_ | with_reducible refine vE_not ?_ | with_reducible refine vE_and ?_ | with_reducible refine vE_or ?_ | with_reducible refine vE_ite ?_
  | with_reducible refine vE_tup ?_ | with_reducible refine vE_lst ?_ | with_reducible refine vE_nil ?_ | with_reducible refine vE_cons ?_ | with_reducible refine vE_idx ?_ | with_reducible refine vE_sli ?_ | with_reducible refine vE_mat ?_ | with_reducible refine vE_call ?_ | with_reducible refine vE_bi (by with_unfolding_all rfl) ?_ | with_reducible refine vE_mth ?_ | with_reducible refine vE_isi ?_
  | with_reducible refine vT_nope ?_ | with_reducible refine vT_var (by with_unfolding_all rfl) ?_ | with_reducible refine vT_cmp ?_ | with_reducible refine vT_not ?_ | with_reducible refine vT_and ?_ | with_reducible refine vT_or ?_ | with_reducible refine vT_call ?_ | with_reducible refine vT_bi (by with_unfolding_all rfl) ?_ | with_reducible refine vT_isi ?_ | with_reducible refine vT_idx ?_
  | with_reducible refine vI_seq ?_ | with_reducible refine vI_rng ?_
  | with_reducible refine vS_nil ?_ | with_reducible refine vS_skip ?_ | with_reducible refine vS_expr ?_ | with_reducible refine vS_asg ?_ | with_reducible refine vS_asgT ?_ | with_reducible refine vS_sub ?_ | with_reducible refine vS_ret ?_ | with_reducible refine vS_brk ?_ | with_reducible refine vS_cont ?_ | with_reducible refine vS_ife ?_ | with_reducible refine vS_for ?_
  | with_reducible refine vaft_nx ?_ | with_reducible refine vaft_rt ?_ | with_reducible refine vaft_bk ?_ | with_reducible refine vaft_ct ?_ | with_reducible refine vturn_nx ?_ | with_reducible refine vturn_ct ?_ | with_reducible refine vturn_bk ?_ | with_reducible refine vturn_rt ?_ | with_reducible refine vfin_rtQ ?_ | with_reducible refine vfin_nxQ ?_))
theorem m_spaced {l : List Nat} {a b c : Nat} (hb : Bd l a b c) (ha : a ≤ 10000) : SpD (CC (k + 3)) "_law_spaced" [.str (st l)] (TB (5 * a) b c) := by
  intro ns
  have hla := hb.len
  refine C_w (k := k + 2) k74_l__law_spaced rfl ?_
  show wSs _ k74_b__law_spaced [some (.ref 0), some (.str (st l)), none, none] _ _
  unfold k74_b__law_spaced
  array_get_dec
  refine ⟨[], rfl, by decide, [], rfl, ?_⟩
  array_get_dec
  refine ⟨_, rfl, ?_⟩
  array_get_dec
  with_reducible refine vI_txt ?_
  array_get_dec
  refine ⟨st l, rfl, fun L env M => ∃ (rest : List Nat) (ns : List Int) (ls : List (List Nat)) (z3 : Option D), env = [some (.ref 0), some (.str (st l)), some (.ref 1), z3] ∧ M = [Dr ns, .lst (ls.map fun l => .str (st l))] ∧ L = rest.map (fun c => .str (st [c])) ∧ Sd l ls rest, fun _ _ _ _ => rfl, ⟨l, ns, [], none, rfl, rfl, rfl, rfl, hb.ok, by simp, by simp, by simp [cntD], by simp [cntO]⟩, ?_, ?_⟩
  · rintro x L env M ⟨rest, ns, ls, z3, rfl, rfl, el, hx⟩
    cases rest with
    | nil => cases el
    | cons ch rest =>
    obtain ⟨e1, e2⟩ := List.cons.inj el
    subst e1
    refine ⟨_, rfl, ?_⟩
    have hok := band (show (decide (ch < 0x110000) && okT rest) = true from hx.okr)
    have hch : okT [ch] = true := by
      show (decide (ch < 0x110000) && true) = true
      rw [hok.1]
      rfl
    have hll : ls.length < 16777216 := by
      have := hx.few
      rw [List.length_cons] at this
      omega
    rw [b3_eq]
    array_get_dec
    refine ⟨_, mem_stc, ?_⟩
    by_cases hm : ch ∈ [40, 44, 41]
    · rw [if_pos (by simpa using hm)]
      array_get_dec
      refine ⟨rfl, ?_⟩
      array_get_dec
      refine ⟨SP5, rfl, by decide, ?_⟩
      array_get_dec
      refine ⟨_, rfl, ?_⟩
      refine inv_dr (m_pick (k := k) (by decide) (by decide) (by decide)) rfl rfl fun v ns1 hv => ?_
      obtain ⟨n, hn, rfl⟩ := sp5 hv
      array_get_dec
      refine ⟨_, add_st (by rw [(sp_bd n).2.1]; simp; omega), ?_⟩
      array_get_dec
      refine ⟨SP3, rfl, by decide, ?_⟩
      array_get_dec
      refine ⟨_, rfl, ?_⟩
      refine inv_dr (m_pick (k := k) (by decide) (by decide) (by decide)) rfl rfl fun v ns2 hv => ?_
      obtain ⟨m, hm2, rfl⟩ := sp3 hv
      refine ⟨_, add_st (by rw [List.length_append, (sp_bd n).2.1, (sp_bd m).2.1]; simp; omega), ?_⟩
      array_get_dec
      refine ⟨_, rfl, rfl, _, _, app_end (r := 1) (es := ls.map fun l => .str (st l)) rfl (by rw [List.length_map]; exact hll), ?_⟩
      array_get_dec
      refine ⟨rest, ns2, ls ++ [sp n ++ [ch] ++ sp m], _, rfl, ?_, e2, hx.put hn hm2⟩
      rw [List.map_append]
      rfl
    · rw [if_neg (by simpa using hm), sp_eq]
      array_get_dec
      refine ⟨_, cmpne_st hch (by decide), ?_⟩
      by_cases h32 : ch = 32
      · rw [if_neg (by simp [h32])]
        array_get_dec
        exact ⟨rest, ns, ls, _, rfl, rfl, e2, hx.skip⟩
      · rw [if_pos (by simpa using h32)]
        array_get_dec
        refine ⟨rfl, ?_⟩
        array_get_dec
        refine ⟨[.str (st [ch])], rfl, rfl, _, _, app_end (r := 1) (es := ls.map fun l => .str (st l)) rfl (by rw [List.length_map]; exact hll), ?_⟩
        array_get_dec
        refine ⟨rest, ns, ls ++ [sp 0 ++ [ch] ++ sp 0], _, rfl, ?_, e2, hx.put (by omega) (by omega)⟩
        rw [List.map_append]
        rfl
  · rintro env M ⟨rest, ns, ls, z3, rfl, rfl, el, hx⟩
    have hr : rest = [] := by
      cases rest with
      | nil => rfl
      | cons c rest => cases el
    subst hr
    have h1 := hx.len
    have h2 := hx.dig
    have h3 := hx.op
    array_get_dec
    refine ⟨rfl, ?_⟩
    array_get_dec
    refine ⟨_, rfl, rfl, _, _, join_ref (ls := ls) rfl (by omega), ?_⟩
    array_get_dec
    refine ⟨ns, _, _, rfl, out_val rfl, _, rfl, hx.ok, by omega, ?_, ?_⟩
    · have := hb.dig
      omega
    · have := hb.op
      omega
end Z
end
section
set_option Elab.async false
set_option linter.all false
set_option maxRecDepth 100000
set_option maxHeartbeats 4000000
set_option autoImplicit false
/-! The law. -/
namespace Z
open PySem
variable {M : Mem} {X : Ex} {k : Nat} {r : Nat}
def rfB (s : Str) (n : Nat) : Bool := okT s.cps.toList && decide (s.cps.toList.length ≤ 1000) && decide (cntD s.cps.toList ≤ 60) && (match brn [[]] 0 (lexF s.cps.toList 0).1 (lexF s.cps.toList 0).2 with
  | .bad m => m == n
  | _ => false)
def shB (m : Nat) (d : D) : Bool := match d with
  | .str s => okT s.cps.toList && decide (s.cps.toList.length ≤ m)
  | _ => false
theorem sh_tb {m : Nat} {d : D} (h : shB m d = true) : TB m m m d := by
  cases d with
  | str s =>
    have h' := band (show (_ && _) = true from h)
    exact ⟨_, congrArg D.str (st_of s), (Bd.any h'.1).up (of_decide_eq_true h'.2) (of_decide_eq_true h'.2) (of_decide_eq_true h'.2)⟩
  | _ => cases h
def WR : List D := [.str (Str.ofString "0"), .str (Str.ofString "00"), .str (Str.ofString "01"), .str (Str.ofString "-"), .str (Str.ofString "-0"), .str (Str.ofString "-07"), .str (Str.ofString "--1"), .str (Str.ofString ","), .str (Str.ofString ":"), .str (Str.ofString "("), .str (Str.ofString ")"), .str (Str.ofString "A"), .str (Str.ofString "."), .str (Str.ofString "\n"), .str (Str.ofString "\t"), .str (Str.ofString "a b"), .str (Str.ofString "1 2"), .str (Str.ofString "1a"), .str (Str.ofString "()")]
def EN : List D := [.str (Str.ofString "\n"), .str (Str.ofString " "), .str (Str.ofString ","), .str (Str.ofString "3"), .str (Str.ofString ":"), .str (Str.ofString ")"), .str (Str.ofString "("), .str (Str.ofString " ()"), .str (Str.ofString " a"), .str (Str.ofString "-")]
theorem wr_tb : ∀ d ∈ WR, TB 3 3 3 d := by
  have h : WR.all (shB 3) = true := by decide +kernel
  exact fun d hd => sh_tb (List.all_eq_true.mp h d hd)
theorem en_tb : ∀ d ∈ EN, TB 3 3 3 d := by
  have h : EN.all (shB 3) = true := by decide +kernel
  exact fun d hd => sh_tb (List.all_eq_true.mp h d hd)
theorem com_eq : ∃ l, Str.ofString " ()0123456789,:-az" = st l ∧ okT l = true ∧ 0 < l.length ∧ l.length ≤ 1000 := ⟨(Str.ofString " ()0123456789,:-az").cps.toList, st_of _, by decide +kernel, by decide +kernel, by decide +kernel⟩
theorem com2_eq : ∃ l, Str.ofString " (),-0a" = st l ∧ okT l = true ∧ 0 < l.length ∧ l.length ≤ 1000 := ⟨(Str.ofString " (),-0a").cps.toList, st_of _, by decide +kernel, by decide +kernel, by decide +kernel⟩
theorem vals_mem' {ds : List D} (h : ∀ d ∈ ds, d.val = true) : D.vals ds = true := vals_of h
theorem str_beq : ∀ {ds : List D}, (∀ d ∈ ds, ∃ s, d = .str s) → D.beqs ds ds = true
  | [], _ => rfl
  | d :: ds, h => by
    obtain ⟨s, rfl⟩ := h d List.mem_cons_self
    show (decide (s = s) && D.beqs ds ds) = true
    rw [str_beq fun x hx => h x (List.mem_cons_of_mem _ hx), decide_eq_true rfl]
    rfl
theorem m_ref {s : Str} {n : Nat} (h : rfB s n = true) {Q : D → Mem → Prop} (hQ : Q (.bl true) M) : wR (inv (CC 39) "_law_refused" [.str s, .int (n : Int)] M) Q X := by
  unfold rfB at h
  have h1 := band h
  have h2 := band h1.1
  have h3 := band h2.1
  refine m_refused (k := 28) (l := s.cps.toList) (by have := of_decide_eq_true h3.2; omega) h3.1 (of_decide_eq_true h2.2) (n := n) ?_ hQ
  have h4 := h1.2
  split at h4
  · rename_i m e
    rw [e]
    have : m = n := by simpa using h4
    rw [this]
  · cases h4
theorem no_falseC {ys : List D} (h : ∀ y ∈ ys, y = .bl true) : cmpD .mem (.bl false) (.fl ys) M = some false := no_false (M := M) h
theorem tb_st {a b c : Nat} {d : D} (h : TB a b c d) : ∃ s, d = .str s := by
  obtain ⟨l, rfl, _⟩ := h
  exact ⟨_, rfl⟩
theorem get_end {o o' : MO} {Mx : Mem} : (o :: (Mx ++ [o']))[Mx.length + 1]? = some o' := by
  rw [List.getElem?_cons_succ]
  exact List.getElem?_concat_length
theorem app_last {o : MO} {Mx : Mem} {es : List D} {x : D} (hl : es.length < 16777216) : mthD .append (.ref (Mx.length + 1)) [x] (o :: (Mx ++ [.lst es])) = some (.non, o :: (Mx ++ [.lst (es ++ [x])])) := by
  rw [app_end get_end hl]
  congr 2
  show o :: (Mx ++ [MO.lst es]).set Mx.length _ = _
  rw [List.set_append_right _ _ (Nat.le_refl _), Nat.sub_self]
  rfl
def FX : List (Str × Nat) := [(Str.ofString "", 0), (Str.ofString " ", 1), (Str.ofString "(", 1), (Str.ofString "(1, )", 4), (Str.ofString "(1 2)", 3), (Str.ofString "(,)", 1), (Str.ofString ")", 0), (Str.ofString "1, 2", 1), (Str.ofString "a1", 1)]
def fxD (p : Str × Nat) : D := .tup [.str p.1, .int (p.2 : Int)]
theorem fx_ok : ∀ p ∈ FX, rfB p.1 p.2 = true := by
  have h : (FX.all fun p => rfB p.1 p.2) = true := by decide +kernel
  exact fun p hp => List.all_eq_true.mp h p hp
theorem rf1 : rfB (Str.ofString "(1, 2") 5 = true := by decide +kernel
theorem rf2 : rfB (Str.ofString "(1, 02)") 4 = true := by decide +kernel
theorem rf3 : rfB (Str.ofString "(1, - 2)") 4 = true := by decide +kernel
theorem rf4 : rfB (Str.ofString "aB") 1 = true := by decide +kernel
local macro_rules | `(tactic| array_mem_dec) => `(tactic| first
  | with_reducible refine vE_c ?_ | with_reducible refine vE_nope ?_ | with_reducible refine vE_var (by with_unfolding_all rfl) ?_ | with_reducible refine vE_bin ?_ | with_reducible refine vE_neg ?_ | with_reducible refine vE_cmp ?_ | with_reducible refine vE_not ?_ | with_reducible refine vE_and ?_ | with_reducible refine vE_or ?_ | with_reducible refine vE_ite ?_
  | with_reducible refine vE_tup ?_ | with_reducible refine vE_lst ?_ | with_reducible refine vE_nil ?_ | with_reducible refine vE_cons ?_ | with_reducible refine vE_idx ?_ | with_reducible refine vE_sli ?_ | with_reducible refine vE_mat ?_ | with_reducible refine vE_call ?_ | with_reducible refine vE_bi (by with_unfolding_all rfl) ?_ | with_reducible refine vE_mth ?_ | with_reducible refine vE_isi ?_
  | with_reducible refine vT_nope ?_ | with_reducible refine vT_var (by with_unfolding_all rfl) ?_ | with_reducible refine vT_cmp ?_ | with_reducible refine vT_not ?_ | with_reducible refine vT_and ?_ | with_reducible refine vT_or ?_ | with_reducible refine vT_call ?_ | with_reducible refine vT_bi (by with_unfolding_all rfl) ?_ | with_reducible refine vT_isi ?_ | with_reducible refine vT_idx ?_
  | with_reducible refine vI_seq ?_ | with_reducible refine vI_rng ?_
  | with_reducible refine vS_nil ?_ | with_reducible refine vS_skip ?_ | with_reducible refine vS_expr ?_ | with_reducible refine vS_asg ?_ | with_reducible refine vS_asgT ?_ | with_reducible refine vS_sub ?_ | with_reducible refine vS_ret ?_ | with_reducible refine vS_brk ?_ | with_reducible refine vS_cont ?_ | with_reducible refine vS_ife ?_ | with_reducible refine vS_for ?_
  | with_reducible refine vaft_nx ?_ | with_reducible refine vaft_rt ?_ | with_reducible refine vaft_bk ?_ | with_reducible refine vaft_ct ?_ | with_reducible refine vturn_nx ?_ | with_reducible refine vturn_ct ?_ | with_reducible refine vturn_bk ?_ | with_reducible refine vturn_rt ?_ | with_reducible refine vfin_rtQ ?_ | with_reducible refine vfin_nxQ ?_)
local macro_rules | `(tactic| array_get_dec) => `(tactic| repeat (first
  | with_reducible refine vE_c ?_ | with_reducible refine vE_nope ?_ | with_reducible refine vE_var (by with_unfolding_all rfl) ?_ | with_reducible refine vE_bin ?_ | with_reducible refine vE_neg ?_ | with_reducible refine vE_cmp ?_ | with_reducible refine vE_not ?_ | with_reducible refine vE_and ?_ | with_reducible refine vE_or ?_ | with_reducible refine vE_ite ?_
  | with_reducible refine vE_tup ?_ | with_reducible refine vE_lst ?_ | with_reducible refine vE_nil ?_ | with_reducible refine vE_cons ?_ | with_reducible refine vE_idx ?_ | with_reducible refine vE_sli ?_ | with_reducible refine vE_mat ?_ | with_reducible refine vE_call ?_ | with_reducible refine vE_bi (by with_unfolding_all rfl) ?_ | with_reducible refine vE_mth ?_ | with_reducible refine vE_isi ?_
  | with_reducible refine vT_nope ?_ | with_reducible refine vT_var (by with_unfolding_all rfl) ?_ | with_reducible refine vT_cmp ?_ | with_reducible refine vT_not ?_ | with_reducible refine vT_and ?_ | with_reducible refine vT_or ?_ | with_reducible refine vT_call ?_ | with_reducible refine vT_bi (by with_unfolding_all rfl) ?_ | with_reducible refine vT_isi ?_ | with_reducible refine vT_idx ?_
  | with_reducible refine vI_seq ?_ | with_reducible refine vI_rng ?_
  | with_reducible refine vS_nil ?_ | with_reducible refine vS_skip ?_ | with_reducible refine vS_expr ?_ | with_reducible refine vS_asg ?_ | with_reducible refine vS_asgT ?_ | with_reducible refine vS_sub ?_ | with_reducible refine vS_ret ?_ | with_reducible refine vS_brk ?_ | with_reducible refine vS_cont ?_ | with_reducible refine vS_ife ?_ | with_reducible refine vS_for ?_
  | with_reducible refine vaft_nx ?_ | with_reducible refine vaft_rt ?_ | with_reducible refine vaft_bk ?_ | with_reducible refine vaft_ct ?_ | with_reducible refine vturn_nx ?_ | with_reducible refine vturn_ct ?_ | with_reducible refine vturn_bk ?_ | with_reducible refine vturn_rt ?_ | with_reducible refine vfin_rtQ ?_ | with_reducible refine vfin_nxQ ?_))
theorem m_law (ns : List Int) : wR (CC 40 "law" [.sc (ns.map .int)] []) (fun v _ => v = .bl true) noE := by
  refine C_w (k := 39) k74_l_law rfl ?_
  show wSs _ k74_b_law [some (.sc (ns.map .int)), none, none, none, none, none, none, none] _ _
  unfold k74_b_law
  array_get_dec
  refine ⟨_, rfl, ?_⟩
  refine m_draws (k := 38) fun ns1 => ?_
  refine ⟨_, rfl, ?_⟩
  refine ⟨_, rfl, ?_⟩
  array_get_dec
  refine ⟨WR, rfl, by decide, .tl WR, rfl, ?_⟩
  array_get_dec
  refine ⟨0, 8, rfl, rfl, by decide, fun L env M => ∃ (ns : List Int) (Mx : Mem) (sc : D) (z3 z4 z5 z6 z7 : Option D), env = [some sc, some (.ref 0), some (.tl WR), z3, z4, z5, z6, z7] ∧ M = Dr ns :: Mx, fun _ _ _ _ => rfl, ⟨ns1, [], _, _, _, _, _, _, rfl, rfl⟩, ?_, ?_⟩
  · rintro x L env M ⟨ns, Mx, sc, z3, z4, z5, z6, z7, rfl, rfl⟩
    refine ⟨_, rfl, ?_⟩
    array_get_dec
    refine ⟨_, rfl, ?_⟩
    refine inv_dr (m_tree (k := 35)) rfl rfl fun t ns1 ht => ?_
    have htv := trb_val _ ht.tr
    array_get_dec
    refine ⟨[t], frzs_vals (by show (t.val && true) = true; rw [htv]; rfl), ?_⟩
    refine m_text (k := 38) ht.tr ht.na fun l hlo hlw => ?_
    have hB : Bd l 90 30 20 := by
      refine ⟨hlo, ?_, ?_, ?_⟩
      · have := hlw pA
        rw [cntA] at this
        have := ht.na
        omega
      · exact Nat.le_trans (hlw pD) ht.nd
      · exact Nat.le_trans (hlw pO) ht.no
    have hl3 : l.length ≤ 16777216 := by
      have := hB.len
      omega
    refine ⟨_, rfl, ?_⟩
    array_get_dec
    refine ⟨_, len_st hl3, ?_⟩
    array_get_dec
    refine ⟨_, add_ints, ?_⟩
    array_get_dec
    refine ⟨_, rfl, ?_⟩
    refine inv_dr (m_take (by omega)) rfl rfl fun w ns2 hw => ?_
    obtain ⟨j, rfl, hj⟩ := hw
    refine ⟨_, rfl, ?_⟩
    obtain ⟨cs, ec, ec1, ec2, ec3⟩ := com_eq
    obtain ⟨cs2, ed, ed1, ed2, ed3⟩ := com2_eq
    rw [ec, ed]
    array_get_dec
    refine ⟨_, rfl, ?_⟩
    refine inv_dr (m_edited (k := 36) hB (by omega) ec1 ec2 ec3) rfl rfl fun t1 ns3 h1 => ?_
    array_get_dec
    refine ⟨_, rfl, ?_⟩
    refine inv_dr (m_spaced (k := 36) hB (by omega)) rfl rfl fun t0 ns4 h0 => ?_
    obtain ⟨l0, rfl, hB0⟩ := h0
    array_get_dec
    refine ⟨_, rfl, ?_⟩
    refine inv_dr (m_edited (k := 36) hB0 (by omega) ed1 ed2 ed3) rfl rfl fun t2 ns5 h2 => ?_
    array_get_dec
    have hes : ∀ d ∈ [D.str (st l), t1, t2], TB 1000 60 30 d := fun d hd => by
      simp only [List.mem_cons, List.not_mem_nil, or_false] at hd
      rcases hd with rfl | rfl | rfl
      · exact ⟨l, rfl, hB.up (by omega) (by omega) (by omega)⟩
      · obtain ⟨l1, rfl, hb⟩ := h1
        exact ⟨l1, rfl, hb.up (by omega) (by omega) (by omega)⟩
      · obtain ⟨l1, rfl, hb⟩ := h2
        exact ⟨l1, rfl, hb.up (by omega) (by omega) (by omega)⟩
    refine ⟨[D.str (st l), t1, t2], frzs_vals (vals_of fun d hd => (hes d hd).val), by simp, _, rfl, _, rfl, ?_⟩
    show wSs _ _ [some sc, some (.ref 0), some (.tl WR), some x, some (.str (st l)), some (.int (j : Int)), some (.ref (Mx.length + 1)), z7] (Dr ns5 :: (Mx ++ [.lst [D.str (st l), t1, t2]])) _
    array_get_dec
    refine ⟨by show isLst _ _ = true; unfold isLst; rw [get_end], ?_⟩
    array_get_dec
    refine ⟨_, rfl, ?_⟩
    array_get_dec
    refine ⟨_, rfl, _, sli_to hl3, ?_⟩
    array_get_dec
    refine ⟨_, rfl, ?_⟩
    refine inv_dr (m_pick (k := 37) (by decide +kernel) (by decide) (by decide)) (by decide +kernel) rfl fun v ns6 hv => ?_
    obtain ⟨lv, rfl, hBv⟩ := wr_tb v hv
    have tl1 : (l.take j).length ≤ 90 := Nat.le_trans (List.take_sublist _ _).length_le hB.len
    have tl2 : (l.drop j).length ≤ 90 := Nat.le_trans (List.drop_sublist _ _).length_le hB.len
    have tl3 := hBv.len
    refine ⟨_, add_st (by omega), ?_⟩
    array_get_dec
    refine ⟨_, rfl, ?_⟩
    array_get_dec
    refine ⟨_, rfl, _, sli_from hl3, ?_⟩
    refine ⟨_, add_st (by rw [List.length_append]; omega), ?_⟩
    array_get_dec
    refine ⟨_, rfl, rfl, _, _, app_last (o := Dr ns6) (Mx := Mx) (es := [D.str (st l), t1, t2]) (by simp), ?_⟩
    array_get_dec
    refine ⟨by show isLst _ _ = true; unfold isLst; rw [get_end], ?_⟩
    array_get_dec
    refine ⟨EN, rfl, by decide, ?_⟩
    array_get_dec
    refine ⟨_, rfl, ?_⟩
    refine inv_dr (m_pick (k := 37) (by decide +kernel) (by decide) (by decide)) (by decide +kernel) rfl fun u ns7 hu => ?_
    obtain ⟨lu, rfl, hBu⟩ := en_tb u hu
    have tl4 := hBu.len
    have tl5 := hB.len
    refine ⟨_, add_st (by omega), ?_⟩
    array_get_dec
    refine ⟨_, rfl, rfl, _, _, app_last (o := Dr ns7) (Mx := Mx) (by simp), ?_⟩
    have hes2 : ∀ d ∈ [D.str (st l), t1, t2] ++ [D.str (st (l.take j ++ lv ++ l.drop j))] ++ [D.str (st (l ++ lu))], TB 1000 60 30 d := fun d hd => by
      rcases List.mem_append.mp hd with hd | hd
      · rcases List.mem_append.mp hd with hd | hd
        · exact hes d hd
        · rw [List.mem_singleton.mp hd]
          exact ⟨_, rfl, (hB.put hBv j j (Nat.le_refl _)).up (by omega) (by omega) (by omega)⟩
      · rw [List.mem_singleton.mp hd]
        exact ⟨_, rfl, (hB.app hBu).up (by omega) (by omega) (by omega)⟩
    generalize hE : [D.str (st l), t1, t2] ++ [D.str (st (l.take j ++ lv ++ l.drop j))] ++ [D.str (st (l ++ lu))] = es at hes2
    have hel : es.length = 5 := by
      rw [← hE]
      rfl
    clear hE
    array_get_dec
    refine comp_pure (l0 := es) (F0 := fun _ => .bl true) (by omega) ?_ ?_ ?_
    · array_get_dec
      refine ⟨es, ?_, rfl, ?_, rfl⟩
      · show seqOf (.ref (Mx.length + 1)) _ = _
        unfold seqOf
        dsimp only
        rw [get_end]
      · show watchOf (.ref (Mx.length + 1)) es _ = true
        unfold watchOf
        dsimp only
        rw [get_end]
        exact str_beq fun d hd => tb_st (hes2 d hd)
    · intro d hd
      obtain ⟨ld, rfl, hBd⟩ := hes2 d hd
      array_get_dec
      refine ⟨_, rfl, ?_⟩
      exact m_goes' hBd ⟨rfl, rfl⟩
    refine ⟨_, no_falseC (fun y hy => by obtain ⟨_, _, rfl⟩ := List.mem_map.mp hy; rfl), ?_⟩
    rw [if_neg Bool.false_ne_true]
    array_get_dec
    exact ⟨ns7, _, _, _, _, _, _, _, rfl, rfl⟩
  · rintro env M ⟨ns, Mx, sc, z3, z4, z5, z6, z7, rfl, rfl⟩
    array_get_dec
    iterate 9
      refine ⟨_, rfl, by simp, ?_⟩
      array_get_dec
    refine ⟨FX.map fxD, rfl, by decide, FX.map fxD, rfl, fun L env M => ∃ (fs : List (Str × Nat)) (z4 z7 : Option D), env = [some sc, some (.ref 0), some (.tl WR), z3, z4, z5, z6, z7] ∧ M = Dr ns :: Mx ∧ L = fs.map fxD ∧ ∀ p ∈ fs, rfB p.1 p.2 = true, fun _ _ _ _ => rfl, ⟨FX, _, _, rfl, rfl, rfl, fx_ok⟩, ?_, ?_⟩
    · rintro x L env M ⟨fs, z4, z7, rfl, rfl, el, hfs⟩
      cases fs with
      | nil => cases el
      | cons p fs =>
      obtain ⟨e1, e2⟩ := List.cons.inj el
      subst e1
      refine ⟨_, rfl, ?_⟩
      array_get_dec
      refine ⟨_, rfl, ?_⟩
      refine m_ref (hfs p List.mem_cons_self) ?_
      refine ⟨true, rfl, ?_⟩
      rw [if_neg (by decide)]
      array_get_dec
      exact ⟨fs, _, _, rfl, rfl, e2, fun q hq => hfs q (List.mem_cons_of_mem _ hq)⟩
    · rintro env M ⟨fs, z4, z7, rfl, rfl, el, hfs⟩
      array_get_dec
      refine ⟨_, rfl, ?_⟩
      refine m_ref (n := 5) rf1 ?_
      refine ⟨true, rfl, ?_⟩
      rw [if_pos rfl]
      array_get_dec
      refine ⟨_, rfl, ?_⟩
      refine m_ref (n := 4) rf2 ?_
      refine ⟨true, rfl, ?_⟩
      rw [if_pos rfl]
      array_get_dec
      refine ⟨_, rfl, ?_⟩
      refine m_ref (n := 4) rf3 ?_
      refine ⟨true, rfl, ?_⟩
      rw [if_pos rfl]
      array_get_dec
      refine ⟨_, rfl, ?_⟩
      refine m_ref (n := 1) rf4 ?_
      array_get_dec
      rfl
theorem k74_true (ns : List Int) : ∃ M, callK k74_P true 40 "law" [.sc (ns.map .int)] [] = some (.ok (.bl true) M) := by
  obtain ⟨v, M, e, rfl⟩ := wR.ok (m_law ns)
  unfold CC at e
  rw [CK_eq] at e
  exact ⟨M, e⟩
end Z
end
section
set_option Elab.async false
set_option linter.all false
open PySem PySem.W PySem.Calls PyProof.Rows in
theorem Z.k74_room : L2.Room 40 callerA := ⟨rfl, by decide, by decide⟩
theorem PySem.Challenge.cw_exchangetowers_k74_texts_of_trees_with_a_holds : PySem.Challenge.rw_exchangetowers_k74_texts_of_trees_with_a.Holds :=
  Z.k74_end Z.k74_P Z.k74_P_ok Z.k74_same 40 Z.k74_room Z.k74_true
end
