import PyProof.Rows.All
import Wide.All
import OpenK.AllK
import Wide.FinOn
import KE.KStateDown
import HandS.More
import HandS.Words
import HandS.WordsExc
import HandS.Defaults
import HandS.Head0
import HandS.Head1
import HandS.Head2
import HandS.ForMost
import HandS.Flow
import HandS.TupAny
import HandS.TupLe
import HandS.IsInst
import HandS.Conv
import HandS.Deep
import HandS.SortInts
import HandS.SortRule
import HandS.SetFor
import KE.SortData
import HandS.DictComp
import HandS.Iter
import HandS.TupMul
import HandS.Strs
import HandS.TupLen
import KE.KTupSum
import PyProof.WalkInts
import HandS.CallLocal
import HandS.Codes
import KE.GoesEnum
import HandS.Zip
import HandS.Star
import HandS.Style
import HandS.HeadEnd
import HandS.HeadHook2
import PySem.Challenge.RW_stayrows_k70_whole_words_of_stays
set_option Elab.async false
set_option linter.all false
set_option maxRecDepth 100000
/-! A small language over the kit's trees, and its interpreter: plain Lean. -/
namespace Ip
open PySem

abbrev D := PyData
/-- what a name holds, what an expression gives: a pure datum, a place of the store, a new container that nobody else holds, a def -/
inductive R where
  | d (x : D) | l (n : Nat) | f (x : D) | fn (k : Nat) | s0 (x : D)
  /-- a new list of new containers; a list of own places -/
  | fr (xs : List D) | rw (ks : List Nat)
/-- the script -/
abbrev R.s (ns : List Int) : R := .s0 (.list (ns.map .int))
abbrev Store := List D
abbrev Ev := List (Option R)

def LIM : Nat := 16777216

inductive Op | add | sub | mul | fdiv | mod | pow | shl | shr | band | bor
  deriving DecidableEq, Repr
inductive Cm | eq | ne | lt | le | gt | ge | isn | notn | mem | nmem
  deriving DecidableEq, Repr
inductive Bt | len | int | abs | min | max | sum | any | all | sorted | tuple | list | divmod | str | gcd | bool | dict
  deriving DecidableEq, Repr
inductive Ty | int | bool | str | tuple | list | dict
  deriving DecidableEq, Repr
/-- methods that change nothing -/
inductive Mt | index | count | join | split | startswith | endswith
  deriving DecidableEq, Repr
/-- methods that change their list -/
inductive Mm | append | extend | pop | remove | insert
  deriving DecidableEq, Repr

mutual
inductive Tg where
  | nm (i : Nat) | tup (ts : Tgs)
inductive Tgs where
  | nil | cons (t : Tg) (r : Tgs)
end

mutual
inductive IE where
  | cst (x : D) | var (i : Nat) | fn (k : Nat)
  | and_ (a b : IE) | or_ (a b : IE) | not_ (a : IE)
  | bin (o : Op) (a b : IE) | neg (a : IE)
  | ife (t a b : IE)
  | cmp (o : Cm) (a b : IE) | chain (o1 o2 : Cm) (a b c : IE)
  | chain3 (o1 o2 o3 : Cm) (a b c d : IE)
  | stw (a b : IE)
  | dsp (ps : List (Str × Str))
  | call (k : Nat) (perm : List Nat) (as : IEs)
  | callv (i : Nat) (as : IEs)
  | blt (b : Bt) (as : IEs)
  | isi (a : IE) (ts : List Ty)
  | sub (a i : IE) | slc (a : IE) (lo hi : IEs) | rev (a : IE)
  | tup (as : IEs) | lst (as : IEs)
  | tups (fl : List Bool) (as : IEs) | lsts (fl : List Bool) (as : IEs)
  | comp (e : IE) (own : List Nat) (g : Gs)
  | dcomp (t : Bool) (k v : IE) (own : List Nat) (g : Gs)
  | dnew (t : Bool)
  | dcst (s : Str) (i : Int)
  | compd (x : Nat) (e : IE) (own : List Nat) (t : Tg) (ifs : IEs)
  | lof (i : It) | tof (i : It)
  | tupn (a : IE)
  | tupk (as : IEs)
  | compr (e : IE) (own : List Nat) (t : Tg) (i : It)
  | rsub (x : Nat) (e : IE)
  | muto (m : Mm) (o : IE) (as : IEs)
  | sset (b : Bool) (a : IE)
  | mth (m : Mt) (o : IE) (as : IEs)
  | mut (m : Mm) (x : Nat) (as : IEs)
inductive IEs where
  | nil | cons (e : IE) (r : IEs)
inductive It where
  | ex (e : IE) | rng (as : IEs) | enum (e : IE) | zip (a b : IE)
inductive Gs where
  | nil | cons (t : Tg) (i : It) (ifs : IEs) (r : Gs)
end

mutual
inductive IS where
  | set (i : Nat) (m : Bool) (e : IE)
  | mv (i : Nat) (m : Bool) (j : Nat)
  | par (is : List (Nat × Bool)) (as : IEs)
  | unp (t : Tg) (e : IE)
  | seti (x : Nat) (i : IE) (e : IE)
  | setp (x : Nat) (i : IE) (t : Nat) (e : IE)
  | seto (o i e : IE) | retz (e : IE)
  | set3 (x : Nat) (i1 i2 i3 e : IE)
  | ex (e : IE) | ret (e : IE) | retn | pass | stuck
  | ite (c : IE) (a b : ISs)
  | for_ (t : Tg) (i : It) (b : ISs)
  | while_ (c : IE) (b : ISs)
inductive ISs where
  | nil | cons (s : IS) (r : ISs)
end

/-! ### data -/
def intsOf : List D → Option (List Int)
  | [] => some []
  | .int i :: r => (intsOf r).map (i :: ·)
  | _ => none
/-! dicts: one whose keys are tuples of whole numbers begins with (none, none) -/
def tkey : D → Option (List Int)
  | .tuple xs => intsOf xs
  | _ => none
def ikey : D → Option Int
  | .int i => some i
  | _ => none
def tupI (ns : List Int) : D := .tuple (ns.map .int)
def lookT (ns : List Int) : List (D × D) → Option D
  | [] => none
  | (k, v) :: r => if tkey k = some ns then some v else lookT ns r
def putT (ns : List Int) (v : D) (ds : List (D × D)) : List (D × D) := if (lookT ns ds).isSome then ds.map fun p => if tkey p.1 = some ns then (p.1, v) else p else ds ++ [(tupI ns, v)]
def lookI (i : Int) : List (D × D) → Option D
  | [] => none
  | (k, v) :: r => if ikey k = some i then some v else lookI i r
def putI (i : Int) (v : D) (ds : List (D × D)) : List (D × D) := if (lookI i ds).isSome then ds.map fun p => if ikey p.1 = some i then (p.1, v) else p else ds ++ [(.int i, v)]
def skey : D → Option Str
  | .str i => some i
  | _ => none
def lookS (i : Str) : List (D × D) → Option D
  | [] => none
  | (k, v) :: r => if skey k = some i then some v else lookS i r
def putS (i : Str) (v : D) (ds : List (D × D)) : List (D × D) := if (lookS i ds).isSome then ds.map fun p => if skey p.1 = some i then (p.1, v) else p else ds ++ [(.str i, v)]
def dgI (es : List (D × D)) : D → Option (Option D)
  | .str s => some (lookS s es)
  | x => (ikey x).map fun i => lookI i es
def dpI (es : List (D × D)) (v : D) : D → Option (List (D × D))
  | .str s => if es.length < LIM then some (putS s v es) else none
  | x => (ikey x).bind fun i => if es.length < LIM then some (putI i v es) else none
def dictGet (ds : List (D × D)) (x : D) : Option (Option D) := match ds with
  | (.none, .none) :: es => (tkey x).map fun ns => lookT ns es
  | es => dgI es x
def dictPut (ds : List (D × D)) (x v : D) : Option (List (D × D)) := match ds with
  | (.none, .none) :: es => (tkey x).bind fun ns => if es.length < LIM then some ((.none, .none) :: putT ns v es) else none
  | es => dpI es v x
def dict0 (t : Bool) : List (D × D) := if t then [(.none, .none)] else []
/-- from pairs -/
def dcStep (o : Option (List (D × D))) (y : D) : Option (List (D × D)) := o.bind fun ds => match y with
  | .tuple [k, v] => dictPut ds k v
  | _ => none
def dictOf (t : Bool) (ys : List D) : Option (List (D × D)) := ys.foldl dcStep (some (dict0 t))
def dictD (t : Bool) (ys : List D) : D := match dictOf t ys with
  | some ds => .dict ds
  | none => .none
def truthy : D → Bool
  | .none => false
  | .bool b => b
  | .int i => i != 0
  | .str s => (s.length : Int) != 0
  | .list xs => !xs.isEmpty
  | .tuple xs => !xs.isEmpty
  | .dict xs => !xs.isEmpty
/-- what can be read at a place: a list, a dict; else the place is shut -/
def alive : D → Option D
  | .list xs => some (.list xs)
  | .dict xs => some (.dict xs)
  | _ => none
def rd (S : Store) : R → Option D
  | .d x => some x
  | .f x => some x
  | .l n => (S[n]?).bind alive
  | .fn _ => none
  | .s0 (.tuple _) => none
  | .s0 x => some x
  | .fr _ => none
  | .rw _ => none
/-- .. but the script -/
def rdn (S : Store) : R → Option D
  | .s0 _ => none
  | r => rd S r
/-- .. of its type -/
def rdi (S : Store) : R → Option D
  | .s0 (.tuple ys) => some (.tuple ys)
  | r => rd S r
/-- .. by an operation: a known tuple is compared, looked into -/
def rdL : Cm → Store → R → Option D
  | .eq, S, r => rdi S r
  | .ne, S, r => rdi S r
  | _, S, r => rd S r
def rdR : Cm → Store → R → Option D
  | .eq, S, r => rdi S r
  | .ne, S, r => rdi S r
  | .mem, S, r => rdi S r
  | .nmem, S, r => rdi S r
  | _, S, r => rd S r
def pureR : R → Option D
  | .d x => some x
  | .f x => some x
  | _ => none
def tru (S : Store) (r : R) : Option Bool := (rd S r).bind fun x => match x with
  | .dict _ => none
  | .str s => if s.length ≤ LIM then some (truthy x) else none
  | x => some (truthy x)

def isCon : D → Bool
  | .list _ => true | .dict _ => true | _ => false

/-- tuple order over whole numbers alone -/
def boolsOf : List D → Option (List Bool)
  | [] => some []
  | .bool i :: r => (boolsOf r).map (i :: ·)
  | _ => none
def strsOf : List D → Option (List Str)
  | [] => some []
  | .str i :: r => (strsOf r).map (i :: ·)
  | _ => none

def cmulB (i j : Int) : Bool := decide (i.natAbs < 18446744073709551616) || decide (j.natAbs < 18446744073709551616)
def cpowB (i j : Int) : Bool := decide (0 ≤ j) && (decide (j ≤ 1000000) && decide (i.natAbs < 2 ^ 64))
def cdivB (j : Int) : Bool := decide (j ≠ 0) && decide (j.natAbs < 1073741824)

def opD : Op → D → D → Option R
  | .add, .int i, .int j => some (.d (.int (i + j)))
  | .add, .int i, .bool k => some (.d (.int (i + PyProof.Rows.b2i k)))
  | .add, .str i, .str j => if i.length + j.length ≤ LIM then some (.d (.str (i ++ j))) else none
  | .add, .tuple xs, .tuple ys => if xs.length + ys.length ≤ LIM then some (.d (.tuple (xs ++ ys))) else none
  | .add, .list xs, .list ys => if xs.length + ys.length ≤ LIM then some (.f (.list (xs ++ ys))) else none
  | .sub, .int i, .int j => some (.d (.int (i - j)))
  | .mul, .int i, .int j => if cmulB i j then some (.d (.int (i * j))) else none
  | .mul, .tuple xs, .int j => if 1 ≤ j && (j ≤ 1000 && xs.length ≤ 1000) then some (.d (.tuple (List.replicate j.toNat xs).flatten)) else none
  | .mul, .list xs, .int j => if j.natAbs ≤ LIM && xs.length * j.toNat ≤ LIM then some (.f (.list (List.replicate j.toNat xs).flatten)) else none
  | .fdiv, .int i, .int j => if cdivB j then some (.d (.int (i.fdiv j))) else none
  | .mod, .int i, .int j => if j ≠ 0 then some (.d (.int (i.fmod j))) else none
  | .pow, .int i, .int j => if cpowB i j then some (.d (.int (i ^ j.toNat))) else none
  | .shl, .int i, .int j => if cpowB i j then some (.d (.int (i * 2 ^ j.toNat))) else none
  | .shr, .int i, .int j => if 0 ≤ j then some (.d (.int (i / 2 ^ j.toNat))) else none
  | .band, .int i, .int j => some (.d (.int (Builtin.bitAnd i j)))
  | .bor, .int i, .int j => some (.d (.int (Builtin.bitOr i j)))
  | _, _, _ => none

def eqD (x y : D) : Option Bool := if SeqAt.shaped x && SeqAt.shaped y then some (PyData.eqv x y) else none
def ltD : D → D → Option Bool
  | .int i, .int j => some (decide (i < j))
  | .str i, .str j => some (decide (i.cps.toList < j.cps.toList))
  | .tuple xs, .tuple ys => (intsOf xs).bind fun ns => (intsOf ys).bind fun ms => some (HT.lexLt ns ms)
  | _, _ => none
def memD (x : D) : D → Option Bool
  | .list ys => if SeqAt.shaped x && SeqAt.shaped (.list ys) then some (ys.any fun z => PyData.eqv z x) else none
  | .tuple ys => if SeqAt.shaped x && SeqAt.shaped (.tuple ys) then some (ys.any fun z => PyData.eqv z x) else none
  | .dict ds => (dictGet ds x).map (·.isSome)
  | _ => none
def leD : D → D → Option Bool
  | .int i, .int j => some (decide (i ≤ j))
  | .tuple xs, .tuple ys => (intsOf xs).bind fun ns => (intsOf ys).bind fun ms => some (!HT.lexLt ms ns)
  | _, _ => none
def isNone : D → Bool
  | .none => true
  | _ => false
def cmD : Cm → D → D → Option Bool
  | .eq, x, y => eqD x y
  | .ne, x, y => (eqD x y).map (!·)
  | .lt, x, y => ltD x y
  | .le, x, y => leD x y
  | .gt, .int i, .int j => some (decide (j < i))
  | .ge, .int i, .int j => some (decide (j ≤ i))
  | .isn, x, .none => some (isNone x)
  | .notn, x, .none => some (!isNone x)
  | .isn, .bool a, .bool b => some (decide (a = b))
  | .notn, .bool a, .bool b => some (!decide (a = b))
  | .mem, x, y => memD x y
  | .nmem, x, y => (memD x y).map (!·)
  | _, _, _ => none

def insI (n : Int) : List Int → List Int
  | [] => [n]
  | m :: r => if n ≤ m then n :: m :: r else m :: insI n r
def sortI : List Int → List Int
  | [] => []
  | n :: r => insI n (sortI r)
def maxI : Int → List Int → Int
  | m, [] => m
  | m, n :: r => maxI (if n > m then n else m) r
def minI : Int → List Int → Int
  | m, [] => m
  | m, n :: r => minI (if n < m then n else m) r

/-- tuples of whole numbers, none of them empty -/
def tupsOf : List D → Option (List (List Int))
  | [] => some []
  | .tuple xs :: r => (intsOf xs).bind fun ns => match ns with
    | [] => none
    | _ :: _ => (tupsOf r).map (ns :: ·)
  | _ => none
def insT (n : List Int) : List (List Int) → List (List Int)
  | [] => [n]
  | m :: r => if HT.lexLt m n then m :: insT n r else n :: m :: r
def sortT : List (List Int) → List (List Int)
  | [] => []
  | n :: r => insT n (sortT r)
/-- data that are alike, any -/
def isTup1 : D → Bool
  | .tuple (_ :: _) => true
  | _ => false
def notTN : D → Bool
  | .none => false
  | .tuple _ => false
  | _ => true
def goodS (ys : List D) : Bool := SeqAt.shaped (.list ys) && (ys.all (fun x => ys.all fun y => PySem.W.alike x y) && (ys.all isTup1 || ys.all notTN))
noncomputable def sortG (ys : List D) : List D := ys.mergeSort (PySem.W.dataLe false id)
noncomputable def sortD (ys : List D) : Option R := match intsOf ys with
  | some ns => some (.f (.list ((sortI ns).map .int)))
  | none => match tupsOf ys with
    | some ks => some (.f (.list ((sortT ks).map tupI)))
    | none => if goodS ys then some (.f (.list (sortG ys))) else none
/-- of a tuple -/
def sortU (ys : List D) : Option R := match intsOf ys with
  | some ns => some (.f (.list ((sortI ns).map .int)))
  | none => (tupsOf ys).bind fun ks => some (.f (.list ((sortT ks).map tupI)))

/-- ascending, each once -/
def insU (n : Int) : List Int → List Int
  | [] => [n]
  | m :: r => if n < m then n :: m :: r else if n = m then m :: r else m :: insU n r
def uniqI : List Int → List Int
  | [] => []
  | n :: r => insU n (uniqI r)
/-- len(set(u)), sorted(set(u)) -/
def ssI (b : Bool) (ns : List Int) : Option R := if (uniqI ns).length < 64 && decide (ns.length ≤ 4000) then some (if b then .d (.int (uniqI ns).length) else .f (.list ((uniqI ns).map .int))) else none
def ssetD (b : Bool) : D → Option R
  | .list ys => (intsOf ys).bind (ssI b)
  | .tuple ys => (intsOf ys).bind (ssI b)
  | _ => none
/-- the truths of truths, of whole numbers -/
def truthsOf (ys : List D) : Option (List Bool) := match boolsOf ys with | some bs => some bs | none => (intsOf ys).map fun ns => ns.map fun n => n != 0
noncomputable def bltD : Bt → List D → Option R
  | .len, [.str y] => if y.length ≤ LIM then some (.d (.int y.length)) else none
  | .len, [.list ys] => some (.d (.int ys.length))
  | .len, [.tuple ys] => some (.d (.int ys.length))
  | .int, [.int i] => some (.d (.int i))
  | .int, [.bool k] => some (.d (.int (if k then 1 else 0)))
  | .abs, [.int i] => some (.d (.int (if i < 0 then -i else i)))
  | .min, [.int i, .int j] => some (.d (.int (if j < i then j else i)))
  | .max, [.int i, .int j] => some (.d (.int (if j > i then j else i)))
  | .min, [.list ys] => (intsOf ys).bind fun ns => match ns with | [] => none | n :: r => some (.d (.int (minI n r)))
  | .max, [.list ys] => (intsOf ys).bind fun ns => match ns with | [] => none | n :: r => some (.d (.int (maxI n r)))
  | .sum, [.list ys] => (intsOf ys).bind fun ns => some (.d (.int ns.sum))
  | .any, [.list ys] => (truthsOf ys).bind fun bs => some (.d (.bool (bs.any id)))
  | .all, [.list ys] => (truthsOf ys).bind fun bs => some (.d (.bool (bs.all id)))
  | .min, [.tuple ys] => (intsOf ys).bind fun ns => match ns with | [] => none | n :: r => some (.d (.int (minI n r)))
  | .max, [.tuple ys] => (intsOf ys).bind fun ns => match ns with | [] => none | n :: r => some (.d (.int (maxI n r)))
  | .sum, [.tuple ys] => (intsOf ys).bind fun ns => some (.d (.int ns.sum))
  | .any, [.tuple ys] => (truthsOf ys).bind fun bs => some (.d (.bool (bs.any id)))
  | .all, [.tuple ys] => (truthsOf ys).bind fun bs => some (.d (.bool (bs.all id)))
  | .sorted, [.list ys] => sortD ys
  | .sorted, [.tuple ys] => sortU ys
  | .sorted, [.dict ((.none, .none) :: es)] => (tupsOf (es.map (·.1))).bind fun ks => some (.f (.list ((sortT ks).map tupI)))
  | .len, [.dict ((.none, .none) :: es)] => some (.d (.int es.length))
  | .list, [.dict ((.none, .none) :: es)] => some (.f (.list (es.map (·.1))))
  | .dict, [.list ys] => (dictOf true ys).map fun ds => .f (.dict ds)
  | .tuple, [.list ys] => some (.d (.tuple ys))
  | .tuple, [.tuple ys] => some (.d (.tuple ys))
  | .list, [.list ys] => some (.f (.list ys))
  | .list, [.tuple ys] => some (.f (.list ys))
  | .divmod, [.int i, .int j] => if 0 < j && j < 1073741824 then some (.d (.tuple [.int (i / j), .int (i % j)])) else none
  | _, _ => none

def tyOf : D → Option Ty
  | .none => none
  | .bool _ => some .bool
  | .int _ => some .int
  | .str _ => some .str
  | .list _ => some .list
  | .tuple _ => some .tuple
  | .dict _ => some .dict
/-- isinstance: True is an int, too -/
def isTyO (o : Option Ty) (t : Ty) : Bool := match o with
  | none => false
  | some u => u == t || (u == .bool && t == .int)
def isTy (x : D) (t : Ty) : Bool := isTyO (tyOf x) t

def subD : D → D → Option D
  | .list xs, .int i => L2.atI xs i
  | .tuple xs, .int i => L2.atI xs i
  | .str z, .int i => if z.length ≤ LIM then (L2.atI z.cps.toList i).map fun c => .str ⟨#[c]⟩ else none
  | .dict ds, x => (dictGet ds x).bind id
  | _, _ => none
def cutD (xs : List D) (lo hi : Option Int) : List D := (xs.drop (HT.sIx xs.length 0 lo)).take (HT.sIx xs.length xs.length hi - HT.sIx xs.length 0 lo)
def slcD (x : D) (lo hi : Option Int) : Option R := match x with
  | .list xs => some (.f (.list (cutD xs lo hi)))
  | .tuple xs => some (.d (.tuple (cutD xs lo hi)))
  | .str z => if z.length ≤ LIM then some (.d (.str (L2.cutS z lo hi))) else none
  | _ => none

def isL : D → Bool
  | .list _ => true
  | _ => false
/-- the first place of an equal one -/
def indexD (y : D) : List D → Nat → Option Nat
  | [], _ => none
  | z :: r, k => if PyData.eqv z y then some k else indexD y r (k + 1)
def mthD : Mt → D → List D → Option R
  | .index, .list ys, [y] => if SeqAt.shaped (.list ys) && SeqAt.shaped y then (indexD y ys 0).map fun (k : Nat) => R.d (.int (k : Int)) else none
  | .count, .list ys, [y] => if SeqAt.shaped (.list ys) && SeqAt.shaped y then some (.d (.int ((ys.countP fun z => PyData.eqv z y : Nat) : Int))) else none
  | _, _, _ => none
/-- .. of a tuple -/
def mthT : Mt → List D → List D → Option R
  | .index, ys, [y] => if SeqAt.shaped (.tuple ys) && SeqAt.shaped y then (indexD y ys 0).map fun (k : Nat) => R.d (.int (k : Int)) else none
  | .count, ys, [y] => if SeqAt.shaped (.tuple ys) && SeqAt.shaped y then some (.d (.int ((ys.countP fun z => PyData.eqv z y : Nat) : Int))) else none
  | _, _, _ => none
/-- a change: the new content, the value -/
def mutD : Mm → D → List D → Option (D × D)
  | .append, .list xs, [y] => if xs.length < LIM then some (.list (xs ++ [y]), .none) else none
  | .extend, .list xs, [.list ys] => if xs.length + ys.length ≤ LIM then some (.list (xs ++ ys), .none) else none
  | .pop, .list xs, [] => (xs[xs.length - 1]?).map fun y => (.list xs.dropLast, y)
  | .pop, .list xs, [.int i] => if xs.length ≤ LIM then (L2.ixN xs.length i).bind fun k => (xs[k]?).map fun y => (.list (xs.eraseIdx k), y) else none
  | _, _, _ => none

def rngD (lo hi : Int) : List D := (List.range (hi - lo).toNat).map fun i => .int (lo + (i : Nat))
def inR (i : Int) : Bool := decide (i.natAbs < 4611686018427387904)
def enumD : Nat → List D → List D
  | _, [] => []
  | k, x :: r => .tuple [.int k, x] :: enumD (k + 1) r
def zipD : List D → List D → List D
  | x :: xs, y :: ys => .tuple [x, y] :: zipD xs ys
  | _, _ => []

mutual
def asg : Tg → D → Ev → Option Ev
  | .nm i, x, σ => some (σ.set i (some (.d x)))
  | .tup ts, .tuple xs, σ => asgs ts xs σ
  | _, _, _ => none
def asgs : Tgs → List D → Ev → Option Ev
  | .nil, [], σ => some σ
  | .cons t r, x :: xs, σ => (asg t x σ).bind fun σ1 => asgs r xs σ1
  | _, _, _ => none
end

mutual
/-- the names of a target -/
def tgn : Tg → List Nat
  | .nm i => [i]
  | .tup ts => tgns ts
def tgns : Tgs → List Nat
  | .nil => []
  | .cons t r => tgn t ++ tgns r
end

/-! ### iteration -/
/-- the list at place n is as it was -/
def still : Option (Nat × List D) → Store → Prop
  | none, _ => True
  | some (n, xs), S => S[n]? = some (.list xs)
open Classical in
/-- a comprehension's turns -/
noncomputable def lpC (k : Option (Nat × List D)) (f : D → Store → Option (List D × Store)) : List D → Store → Option (List D × Store)
  | [], S => if still k S then some ([], S) else none
  | x :: r, S => if still k S then (f x S).bind fun (ys, S1) => (lpC k f r S1).bind fun (zs, S2) => some (ys ++ zs, S2) else none

def wipe (σ : Ev) : List Nat → Ev
  | [] => σ
  | v :: vs => (wipe σ vs).set v none

def iterOf (S : Store) (r : R) : Option (List D × Option (Nat × List D)) := match r with
  | .d (.list xs) => some (xs, none)
  | .f (.list xs) => some (xs, none)
  | .d (.tuple xs) => some (xs, none)
  | .s0 (.list xs) => some (xs, none)
  | .s0 (.tuple xs) => some (xs, none)
  | .l n => (match S[n]? with
    | some (.list xs) => some (xs, some (n, xs))
    | _ => none)
  | _ => none

/-- by parameters; a new container is then no more than a datum -/
def depR : R → R
  | .f x => .d x
  | .fr xs => .d (.list xs)
  | r => r
def permR (rs : List R) : List Nat → Option (List R)
  | [] => some []
  | i :: is => (rs[i]?).bind fun r => (permR rs is).bind fun q => some (depR r :: q)
def rds (S : Store) : List R → Option (List D)
  | [] => some []
  | r :: rs => (rd S r).bind fun x => (rds S rs).bind fun q => some (x :: q)
/-- by a built-in: len alone takes a tuple that nobody else made -/
def rdsb (b : Bt) (S : Store) : List R → Option (List D)
  | [.s0 (.tuple ys)] => if b = .len then some [.tuple ys] else none
  | rs => rds S rs
def pures : List R → Option (List D)
  | [] => some []
  | r :: rs => (pureR r).bind fun x => (pures rs).bind fun q => some (x :: q)

/-- a display with stars: the flagged ones are taken apart -/
def splice : List Bool → List D → Option (List D)
  | [], [] => some []
  | false :: fl, x :: xs => (splice fl xs).map (x :: ·)
  | true :: fl, .tuple ys :: xs => (splice fl xs).map (ys ++ ·)
  | true :: fl, .list ys :: xs => (splice fl xs).map (ys ++ ·)
  | _, _ => none

abbrev Cf := Nat → List R → Store → Option (R × Store)
section
variable (cf : Cf)
mutual
noncomputable def ev : IE → Ev → Store → Option (R × Store)
  | .cst x, _, S => some (.d x, S)
  | .fn k, _, S => some (.fn k, S)
  | .var i, σ, S => (match σ[i]? with
    | some (some r) => some (r, S)
    | _ => none)
  | .and_ a b, σ, S => (ev a σ S).bind fun (x, S1) => (tru S1 x).bind fun k => if k then ev b σ S1 else some (x, S1)
  | .or_ a b, σ, S => (ev a σ S).bind fun (x, S1) => (tru S1 x).bind fun k => if k then some (x, S1) else ev b σ S1
  | .not_ a, σ, S => (ev a σ S).bind fun (x, S1) => (tru S1 x).bind fun k => some (.d (.bool (!k)), S1)
  | .bin o a b, σ, S => (ev a σ S).bind fun (x, S1) => (ev b σ S1).bind fun (y, S2) =>
      (rdn S2 x).bind fun u => (rdn S2 y).bind fun v => (opD o u v).bind fun r => some (r, S2)
  | .neg a, σ, S => (ev a σ S).bind fun (x, S1) => (match x with
    | .d (.int i) => some (.d (.int (-i)), S1)
    | _ => none)
  | .ife t a b, σ, S => (ev t σ S).bind fun (x, S1) => (tru S1 x).bind fun k => if k then ev a σ S1 else ev b σ S1
  | .cmp o a b, σ, S => (ev a σ S).bind fun (x, S1) => (ev b σ S1).bind fun (y, S2) =>
      (rdL o S2 x).bind fun u => (rdR o S2 y).bind fun v => (cmD o u v).bind fun k => some (.d (.bool k), S2)
  | .chain o1 o2 a b c, σ, S => (ev a σ S).bind fun (x, S1) => (ev b σ S1).bind fun (y, S2) =>
      (rd S2 x).bind fun u => (rd S2 y).bind fun v => (cmD o1 u v).bind fun k =>
        if k then (ev c σ S2).bind fun (z, S3) => (rd S3 y).bind fun v' => (rd S3 z).bind fun w => (cmD o2 v' w).bind fun k2 => some (.d (.bool k2), S3)
        else some (.d (.bool false), S2)
  | .chain3 o1 o2 o3 a b c d, σ, S => (ev a σ S).bind fun (x, S1) => (ev b σ S1).bind fun (y, S2) =>
      (rd S2 x).bind fun u => (rd S2 y).bind fun v => (cmD o1 u v).bind fun k =>
        if k then (ev c σ S2).bind fun (z, S3) => (rd S3 y).bind fun v' => (rd S3 z).bind fun w => (cmD o2 v' w).bind fun k2 =>
          if k2 then (ev d σ S3).bind fun (z2, S4) => (rd S4 z).bind fun w' => (rd S4 z2).bind fun t => (cmD o3 w' t).bind fun k3 => some (.d (.bool k3), S4)
          else some (.d (.bool false), S3)
        else some (.d (.bool false), S2)
  | .stw a b, σ, S => (ev a σ S).bind fun (x, S1) => (ev b σ S1).bind fun (y, S2) => (match x, y with
    | .d (.str s), .d (.str t) => some (.d (.bool (Txt.startswith s t)), S2)
    | _, _ => none)
  | .dsp ps, _, S => if ps.length ≤ 15 ∧ 0 < ps.length ∧ (ps.map (·.1)).Nodup then some (.f (.dict (ps.map fun p => (.str p.1, .str p.2))), S) else none
  | .call k perm as, σ, S => (evs as σ S).bind fun (rs, S1) => (match perm with
    | [] => cf k rs S1
    | _ => (permR rs perm).bind fun q => cf k q S1)
  | .callv i as, σ, S => (match σ[i]? with
    | some (some (.fn k)) => (evs as σ S).bind fun (rs, S1) => cf k rs S1
    | _ => none)
  | .blt b as, σ, S => (evs as σ S).bind fun (rs, S1) => (rdsb b S1 rs).bind fun xs => (bltD b xs).bind fun r => some (r, S1)
  | .isi a ts, σ, S => (ev a σ S).bind fun (x, S1) => (rdi S1 x).bind fun u => some (.d (.bool (ts.any (isTy u))), S1)
  | .sub a i, σ, S => (ev a σ S).bind fun (x, S1) => (ev i σ S1).bind fun (y, S2) =>
      (rdi S2 x).bind fun u => (rd S2 y).bind fun v => (subD u v).bind fun r => some (.d r, S2)
  | .slc a lo hi, σ, S => (ev a σ S).bind fun (x, S1) => (evp lo σ S1).bind fun (l, S2) => (evp hi σ S2).bind fun (h, S3) =>
      (rd S3 x).bind fun u => (slcD u l h).bind fun r => some (r, S3)
  | .rev a, σ, S => (ev a σ S).bind fun (x, S1) => (rd S1 x).bind fun u => (match u with
    | .list xs => some (.f (.list xs.reverse), S1)
    | .tuple xs => some (.d (.tuple xs.reverse), S1)
    | _ => none)
  | .tup as, σ, S => (evs as σ S).bind fun (rs, S1) => (pures rs).bind fun xs => if xs.length ≤ LIM then some (.d (.tuple xs), S1) else none
  | .lst as, σ, S => (evs as σ S).bind fun (rs, S1) => (pures rs).bind fun xs => if xs.length ≤ LIM then some (.f (.list xs), S1) else none
  | .tups fl as, σ, S => (evs as σ S).bind fun (rs, S1) => (pures rs).bind fun xs => (splice fl xs).bind fun ys => if ys.length ≤ LIM then some (.d (.tuple ys), S1) else none
  | .lsts fl as, σ, S => (evs as σ S).bind fun (rs, S1) => (pures rs).bind fun xs => (splice fl xs).bind fun ys => if ys.length ≤ LIM then some (.f (.list ys), S1) else none
  | .comp e own g, σ, S => (match g with
    | .nil => none
    | .cons t i ifs g' => (evi i σ S).bind fun (xs, k, S1) =>
        (lpC k (fun x S2 => (asg t x (wipe σ own)).bind fun σ1 => (tst ifs σ1 S2).bind fun (b, S3) => if b then evg (ev e) g' σ1 S3 else some ([], S3)) xs S1).bind fun (ys, S4) =>
          if ys.length ≤ LIM then some (.f (.list ys), S4) else none)
  | .dcomp t k v own g, σ, S => (match g with
    | .cons tg i ifs .nil => (evi i σ S).bind fun (xs, kk, S1) =>
        (lpC kk (fun x S2 => (asg tg x (wipe σ own)).bind fun σ1 => (tst ifs σ1 S2).bind fun (b, S3) => if b then (ev k σ1 S3).bind fun (y, S4) => (ev v σ1 S4).bind fun (z, S5) => (pureR y).bind fun y' => (pureR z).bind fun z' => some ([.tuple [y', z']], S5) else some ([], S3)) xs S1).bind fun (ys, S4) =>
          (dictOf t ys).bind fun ds => some (.f (.dict ds), S4)
    | _ => none)
  | .compd x e own t ifs, σ, S => (match σ[x]? with
    | some (some (.l n)) => (match S[n]? with
      | some (.dict ((.none, .none) :: es)) => (lpC none (fun y S2 => (asg t y (wipe σ own)).bind fun σ1 => (tst ifs σ1 S2).bind fun (b, S3) => if b then (ev e σ1 S3).bind fun (z, S5) => (pureR z).bind fun z' => some ([z'], S5) else some ([], S3)) (es.map (·.1)) (S.set n .none)).bind fun (ys, S4) => (match S4[n]? with
        | some .none => if ys.length ≤ LIM then some (.f (.list ys), S4.set n (.dict ((.none, .none) :: es))) else none
        | _ => none)
      | _ => none)
    | _ => none)
  | .dnew t, _, S => some (.f (.dict (dict0 t)), S)
  | .dcst s i, _, S => some (.f (.dict [(.str s, .int i)]), S)
  | .tupn a, σ, S => (ev a σ S).bind fun (x, S1) => (rd S1 x).bind fun u => (match u with
    | .list ys => some (.s0 (.tuple ys), S1)
    | _ => none)
  | .tupk as, σ, S => (evs as σ S).bind fun (rs, S1) => (pures rs).bind fun xs => if xs.length ≤ LIM then some (.s0 (.tuple xs), S1) else none
  | .compr e own t i, σ, S => (evi i σ S).bind fun (xs, k, S1) =>
      (lpC k (fun x S2 => (asg t x (wipe σ own)).bind fun σ1 => (ev e σ1 S2).bind fun (r, S3) => (match r with
        | .f z => some ([z], S3)
        | _ => none)) xs S1).bind fun (ys, S4) => if ys.length ≤ LIM then some (.fr ys, S4) else none
  | .rsub x e, σ, S => (match σ[x]? with
    | some (some (.rw ks)) => (ev e σ S).bind fun (y, S1) => (match y with
      | .d (.int k) => (L2.ixN ks.length k).bind fun j => (ks[j]?).bind fun n => some (.l n, S1)
      | _ => none)
    | _ => none)
  | .muto m o as, σ, S => (ev o σ S).bind fun (x, S1) => (match x with
    | .l n => (S1[n]?).bind fun u0 => if isL u0 then (evs as σ S1).bind fun (rs, S2) => (pures rs).bind fun ys => (S2[n]?).bind fun u => (mutD m u ys).bind fun (u', r) => some (.d r, S2.set n u') else none
    | _ => none)
  | .lof i, σ, S => (evi i σ S).bind fun (xs, _, S1) => if xs.length ≤ LIM then some (.f (.list xs), S1) else none
  | .tof i, σ, S => (evi i σ S).bind fun (xs, _, S1) => if xs.length ≤ LIM then some (.d (.tuple xs), S1) else none
  | .sset b a, σ, S => (ev a σ S).bind fun (x, S1) => (rd S1 x).bind fun u => (ssetD b u).bind fun r => some (r, S1)
  | .mth m o as, σ, S => (ev o σ S).bind fun (x, S1) => (match x with
    | .s0 (.tuple zs) => (evs as σ S1).bind fun (rs, S2) => (rds S2 rs).bind fun ys => (mthT m zs ys).bind fun r => some (r, S2)
    | x => (rd S1 x).bind fun u0 => if isL u0 then (evs as σ S1).bind fun (rs, S2) => (rd S2 x).bind fun u => (rds S2 rs).bind fun ys => (mthD m u ys).bind fun r => some (r, S2) else none)
  | .mut m x as, σ, S => (match σ[x]? with
    | some (some (.l n)) => (S[n]?).bind fun u0 => if isL u0 then (evs as σ S).bind fun (rs, S1) => (pures rs).bind fun ys => (S1[n]?).bind fun u => (mutD m u ys).bind fun (u', r) => some (.d r, S1.set n u') else none
    | _ => none)
noncomputable def evs : IEs → Ev → Store → Option (List R × Store)
  | .nil, _, S => some ([], S)
  | .cons e r, σ, S => (ev e σ S).bind fun (x, S1) => (evs r σ S1).bind fun (xs, S2) => some (x :: xs, S2)
/-- a part of a slice -/
noncomputable def evp : IEs → Ev → Store → Option (Option Int × Store)
  | .nil, _, S => some (none, S)
  | .cons e .nil, σ, S => (ev e σ S).bind fun (x, S1) => (match x with
    | .d (.int i) => some (some i, S1)
    | _ => none)
  | .cons _ (.cons _ _), _, _ => none
/-- what is walked: the items, the place of the list -/
noncomputable def evi : It → Ev → Store → Option (List D × Option (Nat × List D) × Store)
  | .ex e, σ, S => (ev e σ S).bind fun (x, S1) => (iterOf S1 x).bind fun (xs, k) => some (xs, k, S1)
  | .rng as, σ, S => (evs as σ S).bind fun (rs, S1) => (match rs with
    | [.d (.int j)] => if inR j then some (rngD 0 j, none, S1) else none
    | [.d (.int i), .d (.int j)] => if inR i && inR j then some (rngD i j, none, S1) else none
    | _ => none)
  | .enum e, σ, S => (ev e σ S).bind fun (x, S1) => (iterOf S1 x).bind fun (xs, k) => some (enumD 0 xs, k, S1)
  | .zip a b, σ, S => (ev a σ S).bind fun (x, S1) => (ev b σ S1).bind fun (y, S2) => (match pureR x, pureR y with
    | some (.tuple xs), some (.tuple ys) => some (zipD xs ys, none, S2)
    | some (.list xs), some (.list ys) => some (zipD xs ys, none, S2)
    | _, _ => none)
/-- the further clauses of a comprehension -/
noncomputable def evg (fe : Ev → Store → Option (R × Store)) : Gs → Ev → Store → Option (List D × Store)
  | .nil, σ, S => (fe σ S).bind fun (x, S1) => (pureR x).bind fun y => some ([y], S1)
  | .cons t i ifs g, σ, S => (evi i σ S).bind fun (xs, k, S1) =>
      lpC k (fun x S2 => (asg t x (wipe σ (tgn t))).bind fun σ1 => (tst ifs σ1 S2).bind fun (b, S3) => if b then evg fe g σ1 S3 else some ([], S3)) xs S1
noncomputable def tst : IEs → Ev → Store → Option (Bool × Store)
  | .nil, _, S => some (true, S)
  | .cons c r, σ, S => (ev c σ S).bind fun (x, S1) => (tru S1 x).bind fun k => if k then tst r σ S1 else some (false, S1)
end
end
end Ip

set_option Elab.async false
set_option linter.all false
set_option maxRecDepth 100000
/-! Statements, defs. -/
namespace Ip
open PySem

inductive Ou where
  | nx (σ : Ev) | rt (r : R)

/-- a name is stored; B: the places from B on are the frame's own; L: places that a loop walks -/
def setv (B : Nat) (L : List Nat) (m : Bool) (σ : Ev) (S : Store) (i : Nat) (r : R) : Option (Ev × Store) := match r with
  | .f x => if m then (match σ[i]? with
      | some (some (.l n)) => if B ≤ n && !L.contains n then some (σ, S.set n x) else some (σ.set i (some (.l S.length)), S ++ [x])
      | _ => some (σ.set i (some (.l S.length)), S ++ [x]))
    else some (σ.set i (some (.d x)), S)
  | .l n => if n < B then some (σ.set i (some (.l n)), S) else none
  | .d x => some (σ.set i (some (.d x)), S)
  | .fn k => some (σ.set i (some (.fn k)), S)
  | .s0 x => some (σ.set i (some (.s0 x)), S)
  | .fr xs => some (σ.set i (some (.rw (List.range' S.length xs.length))), S ++ xs)
  | .rw _ => none
def ent : List Bool → List R → Store → Ev × Store
  | true :: ms, .f x :: rs, S => (some (.l S.length) :: (ent ms rs (S ++ [x])).1, (ent ms rs (S ++ [x])).2)
  | _ :: ms, .f x :: rs, S => (some (.d x) :: (ent ms rs S).1, (ent ms rs S).2)
  | _ :: ms, r :: rs, S => (some r :: (ent ms rs S).1, (ent ms rs S).2)
  | [], _, S => ([], S)
  | _, [], S => ([], S)
/-- several names at once -/
def setAll : Ev → List Nat → List (Option R) → Ev
  | σ, [], _ => σ
  | σ, _ :: _, [] => σ
  | σ, i :: is, o :: os => setAll (σ.set i o) is os
/-- no own place -/
def base (B : Nat) : R → Bool
  | .l n => decide (n < B)
  | .fr _ => false
  | .rw _ => false
  | _ => true
/-- what can be passed -/
def okA : R → Bool
  | .fr _ => false
  | .rw _ => false
  | _ => true
/-- own places taken as data, where a def ends -/
def rowsOf (B : Nat) (S : Store) : List Nat → Option (List D)
  | [] => some []
  | k :: ks => if B ≤ k then (S[k]?).bind fun x => (alive x).bind fun y => (rowsOf B S ks).bind fun ys => some (y :: ys) else none
def thawR (B : Nat) (S : Store) : Option R → Option R
  | some (.l n) => if n < B then some (.l n) else none
  | some (.rw ks) => (rowsOf B S ks).map fun xs => .d (.list xs)
  | o => o
/-- xs[i] = v -/
def putD (u i v : D) : Option D := match u, i with
  | .list xs, .int k => (L2.ixN xs.length k).map fun j => .list (xs.set j v)
  | .dict ds, k => (dictPut ds k v).map .dict
  | _, _ => none
def lk : Option (Nat × List D) → List Nat → List Nat
  | none, L => L
  | some (n, _), L => n :: L

section
variable (cf : Cf) (W B : Nat)
open Classical in
noncomputable def lpS (k : Option (Nat × List D)) (f : D → Ev → Store → Option (Ou × Store)) : List D → Ev → Store → Option (Ou × Store)
  | [], σ, S => if still k S then some (.nx σ, S) else none
  | x :: r, σ, S => if still k S then (f x σ S).bind fun (o, S1) => (match o with
      | .nx σ1 => lpS k f r σ1 S1
      | .rt v => some (.rt v, S1)) else none
def lpW (fc : Ev → Store → Option (Bool × Store)) (fb : Ev → Store → Option (Ou × Store)) : Nat → Ev → Store → Option (Ou × Store)
  | 0, _, _ => none
  | n + 1, σ, S => (fc σ S).bind fun (b, S1) => if b then (fb σ S1).bind fun (o, S2) => (match o with
      | .nx σ1 => lpW fc fb n σ1 S2
      | .rt v => some (.rt v, S2)) else some (.nx σ, S1)
/-- a test -/
noncomputable def tv (c : IE) (σ : Ev) (S : Store) : Option (Bool × Store) := (ev cf c σ S).bind fun (x, S1) => (tru S1 x).bind fun k => some (k, S1)
mutual
noncomputable def ex : IS → List Nat → Ev → Store → Option (Ou × Store)
  | .set i m e, L, σ, S => (ev cf e σ S).bind fun (r, S1) => (setv B L m σ S1 i r).bind fun (σ1, S2) => some (.nx σ1, S2)
  | .mv i m j, L, σ, S => (match σ[j]? with
    | some (some (.l n)) => if i = j then none else some (.nx ((σ.set j none).set i (some (.l n))), S)
    | some (some r) => (setv B L m σ S i r).bind fun (σ1, S2) => some (.nx σ1, S2)
    | _ => none)
  | .par is as, L, σ, S => (evs cf as σ S).bind fun (rs, S1) => if is.length = rs.length ∧ rs.all (base B) = true then some (.nx (setAll σ (is.map (·.1)) (ent (is.map (·.2)) rs S1).1), (ent (is.map (·.2)) rs S1).2) else none
  | .unp t e, L, σ, S => (ev cf e σ S).bind fun (r, S1) => (pureR r).bind fun x => (asg t x σ).bind fun σ1 => some (.nx σ1, S1)
  | .seti x i e, L, σ, S => (ev cf e σ S).bind fun (r, S1) => (pureR r).bind fun v => (match σ[x]? with
    | some (some (.l n)) => (ev cf i σ S1).bind fun (q, S2) => (rd S2 q).bind fun k => (S2[n]?).bind fun u => (putD u k v).bind fun u' => some (.nx σ, S2.set n u')
    | _ => none)
  | .setp x i t e, L, σ, S => (ev cf e σ S).bind fun (r, S1) => (pureR r).bind fun p => (match p with
    | .tuple [v, w] => (match σ[x]? with
      | some (some (.l n)) => (ev cf i σ S1).bind fun (q, S2) => (rd S2 q).bind fun k => (S2[n]?).bind fun u => (putD u k v).bind fun u' => some (.nx (σ.set t (some (.d w))), S2.set n u')
      | _ => none)
    | _ => none)
  | .set3 x i1 i2 i3 e, L, σ, S => (ev cf e σ S).bind fun (r, S1) => (pureR r).bind fun p => (match p with
    | .tuple [v1, v2, v3] => (match σ[x]? with
      | some (some (.l n)) =>
        (ev cf i1 σ S1).bind fun (r1, S2) => (rd S2 r1).bind fun k1 => (S2[n]?).bind fun u1 => (putD u1 k1 v1).bind fun w1 =>
        (ev cf i2 σ (S2.set n w1)).bind fun (r2, S3) => (rd S3 r2).bind fun k2 => (S3[n]?).bind fun u2 => (putD u2 k2 v2).bind fun w2 =>
        (ev cf i3 σ (S3.set n w2)).bind fun (r3, S4) => (rd S4 r3).bind fun k3 => (S4[n]?).bind fun u3 => (putD u3 k3 v3).bind fun w3 => some (.nx σ, S4.set n w3)
      | _ => none)
    | _ => none)
  | .seto o i e, L, σ, S => (ev cf e σ S).bind fun (r, S1) => (pureR r).bind fun v => (ev cf o σ S1).bind fun (x, S2) => (match x with
    | .l n => (ev cf i σ S2).bind fun (q, S3) => (rd S3 q).bind fun k => (S3[n]?).bind fun u => (putD u k v).bind fun u' => some (.nx σ, S3.set n u')
    | _ => none)
  | .retz e, L, σ, S => (ev cf e (σ.map (thawR B S)) (S.take B)).bind fun (r, S1) => some (.rt r, S1)
  | .ex e, L, σ, S => (ev cf e σ S).bind fun (_, S1) => some (.nx σ, S1)
  | .ret e, L, σ, S => (ev cf e σ S).bind fun (r, S1) => some (.rt r, S1)
  | .retn, L, σ, S => some (.rt (.d .none), S)
  | .pass, L, σ, S => some (.nx σ, S)
  | .stuck, _, _, _ => none
  | .ite c a b, L, σ, S => (tv cf c σ S).bind fun (k, S1) => if k then exs a L σ S1 else exs b L σ S1
  | .for_ t i b, L, σ, S => (evi cf i σ S).bind fun (xs, k, S1) => lpS k (fun x σ1 S2 => (asg t x σ1).bind fun σ2 => exs b (lk k L) σ2 S2) xs σ S1
  | .while_ c b, L, σ, S => lpW (tv cf c) (fun σ1 S1 => exs b L σ1 S1) W σ S
noncomputable def exs : ISs → List Nat → Ev → Store → Option (Ou × Store)
  | .nil, L, σ, S => some (.nx σ, S)
  | .cons s r, L, σ, S => (ex s L σ S).bind fun (o, S1) => (match o with
    | .nx σ1 => exs r L σ1 S1
    | .rt v => some (.rt v, S1))
end
end

/-- a def: how many parameters, which of them are changed, how many names, the body -/
structure Fn where
  np : Nat
  mu : List Bool
  ns : Nat
  body : ISs

def leave (B : Nat) (o : Ou) (S : Store) : Option (R × Store) := match o with
  | .nx _ => some (.d .none, S.take B)
  | .rt (.l n) => if n < B then some (.l n, S.take B) else (S[n]?).bind fun x => (alive x).map fun y => (.f y, S.take B)
  | .rt (.rw _) => none
  | .rt r => some (r, S.take B)
noncomputable def run (fns : List Fn) (W : Nat) : Nat → Cf
  | 0, _, _, _ => none
  | n + 1, k, rs, S => (fns[k]?).bind fun F => if (rs.length = F.np ∧ F.mu.length = F.np) ∧ rs.all okA = true then
      (exs (run fns W n) W S.length F.body [] ((ent F.mu rs S).1 ++ List.replicate (F.ns - F.np) none) (ent F.mu rs S).2).bind fun (o, S1) => leave S.length o S1
    else none
end Ip

set_option Elab.async false
set_option linter.all false
set_option maxRecDepth 100000
set_option maxHeartbeats 1000000
/-! What stands in the abstract heap for the interpreter's data. -/
namespace Ip
open PySem PySem.Spec PyProof.Rows L2

abbrev Mk := Addr → Prop
/-- keys of a dict: texts and whole numbers -/
inductive KeyD : Key → D → Prop
  | int (i : Int) : KeyD (.inl i) (.int i)
  | str (x : Str) : KeyD (.inr x) (.str x)
mutual
/-- v is the pure datum d: nothing of it stands at an address of M -/
inductive Pu (K : PySem.W.Frag) (H : Hp) (M : Mk) : V → D → Prop
  | non : Pu K H M .non .none
  | bl (b : Bool) : Pu K H M (.bl b) (.bool b)
  | int (i : Int) : Pu K H M (.int i) (.int i)
  | str (x : Str) : Pu K H M (.str x) (.str x)
  | lst {a : Addr} {xs : List V} {ds : List D} : H a = some (.lst xs) → ¬ M a → PuA K H M xs ds → Pu K H M (.ref a) (.list ds)
  | tup {a : Addr} {xs : List V} {ds : List D} : H a = some (.tup xs) → ¬ M a → PuA K H M xs ds → Pu K H M (.ref a) (.tuple ds)
  /-- a constant of the module: a tuple of texts -/
  | tupK {a : Addr} {zs : List Str} : zs ≠ [] → SqT K (fun _ => none) a (zs.map V.str) → Pu K H M (.ref a) (.tuple (zs.map .str))
  | dctT {a : Addr} {kvs : List (List Key × V)} {ds : List (D × D)} : H a = some (.dT kvs) → ¬ M a → PuT K H M kvs ds → Pu K H M (.ref a) (.dict ((.none, .none) :: ds))
  | dct {a : Addr} {kvs : List (Key × V)} {ds : List (D × D)} : H a = some (.dK kvs) → ¬ M a → PuK K H M kvs ds → Pu K H M (.ref a) (.dict ds)
inductive PuA (K : PySem.W.Frag) (H : Hp) (M : Mk) : List V → List D → Prop
  | nil : PuA K H M [] []
  | cons {v : V} {vs : List V} {d : D} {ds : List D} : Pu K H M v d → PuA K H M vs ds → PuA K H M (v :: vs) (d :: ds)
/-- a dict whose keys are tuples of whole numbers -/
inductive PuT (K : PySem.W.Frag) (H : Hp) (M : Mk) : List (List Key × V) → List (D × D) → Prop
  | nil : PuT K H M [] []
  | cons {ns : List Int} {v : V} {vs : List (List Key × V)} {e : D} {ds : List (D × D)} : Pu K H M v e → PuT K H M vs ds → PuT K H M ((ns.map Sum.inl, v) :: vs) ((tupI ns, e) :: ds)
inductive PuK (K : PySem.W.Frag) (H : Hp) (M : Mk) : List (Key × V) → List (D × D) → Prop
  | nil : PuK K H M [] []
  | cons {k : Key} {v : V} {vs : List (Key × V)} {d e : D} {ds : List (D × D)} : KeyD k d → Pu K H M v e → PuK K H M vs ds → PuK K H M ((k, v) :: vs) ((d, e) :: ds)
end

section
variable {K : PySem.W.Frag} {H H' : Hp} {M M' : Mk}
mutual
theorem Pu.mono (h : ∀ b o, H b = some o → ¬ M b → H' b = some o) (hm : ∀ b o, H b = some o → M' b → M b) : ∀ {d : D} {v : V}, Pu K H M v d → Pu K H' M' v d
  | .none, _, .non => .non
  | .bool _, _, .bl _ => .bl _
  | .int _, _, .int _ => .int _
  | .str _, _, .str _ => .str _
  | .list _, _, .lst e n p => .lst (h _ _ e n) (fun z => n (hm _ _ e z)) (PuA.mono h hm p)
  | .tuple _, _, .tup e n p => .tup (h _ _ e n) (fun z => n (hm _ _ e z)) (PuA.mono h hm p)
  | .tuple _, _, .tupK n e => .tupK n e
  | .dict _, _, .dct e n p => .dct (h _ _ e n) (fun z => n (hm _ _ e z)) (PuK.mono h hm p)
  | .dict _, _, .dctT e n p => .dctT (h _ _ e n) (fun z => n (hm _ _ e z)) (PuT.mono h hm p)
theorem PuA.mono (h : ∀ b o, H b = some o → ¬ M b → H' b = some o) (hm : ∀ b o, H b = some o → M' b → M b) : ∀ {ds : List D} {vs : List V}, PuA K H M vs ds → PuA K H' M' vs ds
  | [], _, .nil => .nil
  | _ :: _, _, .cons p q => .cons (Pu.mono h hm p) (PuA.mono h hm q)
theorem PuK.mono (h : ∀ b o, H b = some o → ¬ M b → H' b = some o) (hm : ∀ b o, H b = some o → M' b → M b) : ∀ {ds : List (D × D)} {vs : List (Key × V)}, PuK K H M vs ds → PuK K H' M' vs ds
  | [], _, .nil => .nil
  | _ :: _, _, .cons k p q => .cons k (Pu.mono h hm p) (PuK.mono h hm q)
theorem PuT.mono (h : ∀ b o, H b = some o → ¬ M b → H' b = some o) (hm : ∀ b o, H b = some o → M' b → M b) : ∀ {ds : List (D × D)} {vs : List (List Key × V)}, PuT K H M vs ds → PuT K H' M' vs ds
  | [], _, .nil => .nil
  | _ :: _, _, .cons p q => .cons (Pu.mono h hm p) (PuT.mono h hm q)
end
/-- the heap has grown alone -/
def Ext (H H' : Hp) : Prop := ∀ b o, H b = some o → H' b = some o
theorem Ext.refl : Ext H H := fun _ _ e => e
theorem Ext.upd {p : Addr} {o : HO} (n : H p = none) : Ext H (upd H p o) := fun b u e => by rw [upd_ne (ne_of_none e n)]; exact e
theorem Pu.ext (x : Ext H H') {d : D} {v : V} (p : Pu K H M v d) : Pu K H' M v d := p.mono (fun b o e _ => x b o e) fun _ _ _ z => z
theorem PuA.ext (x : Ext H H') {d : List D} {v : List V} (p : PuA K H M v d) : PuA K H' M v d := p.mono (fun b o e _ => x b o e) fun _ _ _ z => z
theorem PuT.ext (x : Ext H H') {d : List (D × D)} {v : List (List Key × V)} (p : PuT K H M v d) : PuT K H' M v d := p.mono (fun b o e _ => x b o e) fun _ _ _ z => z
theorem PuK.ext (x : Ext H H') {d : List (D × D)} {v : List (Key × V)} (p : PuK K H M v d) : PuK K H' M v d := p.mono (fun b o e _ => x b o e) fun _ _ _ z => z

theorem SqT.k {a : Addr} {xs : List V} (h : SqT K (fun _ => none) a xs) : SqT K H a xs := by
  rcases h with h | h
  · rcases h with h | ⟨o, h⟩ <;> cases h
  · exact .inr h
theorem PuA.length : ∀ {vs : List V} {ds : List D}, PuA K H M vs ds → vs.length = ds.length
  | _, _, .nil => rfl
  | _, _, .cons _ q => by simp [PuA.length q]
theorem PuA.get : ∀ {vs : List V} {ds : List D} {i : Nat} {d : D}, PuA K H M vs ds → ds[i]? = some d → ∃ v, vs[i]? = some v ∧ Pu K H M v d
  | _, _, _, _, .nil, e => by simp at e
  | _, _, 0, _, .cons p _, e => by simp at e; subst e; exact ⟨_, rfl, p⟩
  | _, _, i + 1, _, .cons _ q, e => by
    obtain ⟨v, h1, h2⟩ := PuA.get (i := i) q (by simpa using e)
    exact ⟨v, by simpa using h1, h2⟩
theorem PuA.append : ∀ {vs ws : List V} {ds es : List D}, PuA K H M vs ds → PuA K H M ws es → PuA K H M (vs ++ ws) (ds ++ es)
  | _, _, _, _, .nil, q => q
  | _, _, _, _, .cons p r, q => .cons p (PuA.append r q)
theorem PuA.take : ∀ {vs : List V} {ds : List D} (n : Nat), PuA K H M vs ds → PuA K H M (vs.take n) (ds.take n)
  | _, _, 0, _ => .nil
  | _, _, _ + 1, .nil => .nil
  | _, _, n + 1, .cons p q => .cons p (PuA.take n q)
theorem PuA.drop : ∀ {vs : List V} {ds : List D} (n : Nat), PuA K H M vs ds → PuA K H M (vs.drop n) (ds.drop n)
  | _, _, 0, p => p
  | _, _, _ + 1, .nil => .nil
  | _, _, n + 1, .cons _ q => PuA.drop n q
theorem PuA.set {v : V} {d : D} (p : Pu K H M v d) : ∀ {vs : List V} {ds : List D} (n : Nat), PuA K H M vs ds → PuA K H M (vs.set n v) (ds.set n d)
  | _, _, _, .nil => .nil
  | _, _, 0, .cons _ q => .cons p q
  | _, _, n + 1, .cons r q => .cons r (PuA.set p n q)
theorem PuA.erase : ∀ {vs : List V} {ds : List D} (n : Nat), PuA K H M vs ds → PuA K H M (vs.eraseIdx n) (ds.eraseIdx n)
  | _, _, _, .nil => .nil
  | _, _, 0, .cons _ q => q
  | _, _, n + 1, .cons p q => .cons p (PuA.erase n q)
theorem PuA.dropLast : ∀ {vs : List V} {ds : List D}, PuA K H M vs ds → PuA K H M vs.dropLast ds.dropLast
  | _, _, .nil => .nil
  | [_], [_], .cons _ .nil => .nil
  | _ :: _ :: _, _ :: _ :: _, .cons p (.cons q r) => .cons p (PuA.dropLast (.cons q r))
theorem PuA.reverse : ∀ {vs : List V} {ds : List D}, PuA K H M vs ds → PuA K H M vs.reverse ds.reverse
  | _, _, .nil => .nil
  | _, _, .cons p q => by simp only [List.reverse_cons]; exact (PuA.reverse q).append (.cons p .nil)
theorem PuA.ints : ∀ (ns : List Int), PuA K H M (ns.map V.int) (ns.map PyData.int)
  | [] => .nil
  | _ :: r => .cons (.int _) (PuA.ints r)
theorem PuA.ints_inv : ∀ {ds : List D} {vs : List V} {ns : List Int}, PuA K H M vs ds → intsOf ds = some ns → vs = ns.map V.int
  | [], _, _, .nil, e => by cases e; rfl
  | .int i :: r, _, ns, .cons p q, e => by
    cases p
    simp only [intsOf, Option.map_eq_some_iff] at e
    obtain ⟨ms, e, rfl⟩ := e
    rw [PuA.ints_inv q e]; rfl
  | .none :: _, _, _, _, e => by simp [intsOf] at e
  | .bool _ :: _, _, _, _, e => by simp [intsOf] at e
  | .str _ :: _, _, _, _, e => by simp [intsOf] at e
  | .list _ :: _, _, _, _, e => by simp [intsOf] at e
  | .tuple _ :: _, _, _, _, e => by simp [intsOf] at e
  | .dict _ :: _, _, _, _, e => by simp [intsOf] at e
theorem intsOf_map : ∀ {ds : List D} {ns : List Int}, intsOf ds = some ns → ds = ns.map PyData.int
  | [], _, e => by cases e; rfl
  | .int i :: r, ns, e => by
    simp only [intsOf, Option.map_eq_some_iff] at e
    obtain ⟨ms, e, rfl⟩ := e
    rw [intsOf_map e]; rfl
  | .none :: _, _, e => by simp [intsOf] at e
  | .bool _ :: _, _, e => by simp [intsOf] at e
  | .str _ :: _, _, e => by simp [intsOf] at e
  | .list _ :: _, _, e => by simp [intsOf] at e
  | .tuple _ :: _, _, e => by simp [intsOf] at e
  | .dict _ :: _, _, e => by simp [intsOf] at e
theorem PuA.bools_inv : ∀ {ds : List D} {vs : List V} {ns : List Bool}, PuA K H M vs ds → boolsOf ds = some ns → vs = ns.map V.bl
  | [], _, _, .nil, e => by cases e; rfl
  | .bool i :: r, _, ns, .cons p q, e => by
    cases p
    simp only [boolsOf, Option.map_eq_some_iff] at e
    obtain ⟨ms, e, rfl⟩ := e
    rw [PuA.bools_inv q e]; rfl
  | .none :: _, _, _, _, e => by simp [boolsOf] at e
  | .int _ :: _, _, _, _, e => by simp [boolsOf] at e
  | .str _ :: _, _, _, _, e => by simp [boolsOf] at e
  | .list _ :: _, _, _, _, e => by simp [boolsOf] at e
  | .tuple _ :: _, _, _, _, e => by simp [boolsOf] at e
  | .dict _ :: _, _, _, _, e => by simp [boolsOf] at e

/-- a container at a -/
def Ct (K : PySem.W.Frag) (H : Hp) (M : Mk) (a : Addr) : D → Prop
  | .list ds => ∃ vs, H a = some (.lst vs) ∧ PuA K H M vs ds
  | .dict ds => (∃ vs, H a = some (.dK vs) ∧ PuK K H M vs ds) ∨ ∃ vs es, ds = (.none, .none) :: es ∧ H a = some (.dT vs) ∧ PuT K H M vs es
  | _ => False
theorem Ct.dom {a : Addr} {x : D} (c : Ct K H M a x) : H a ≠ none := by
  cases x with
  | list ds => obtain ⟨vs, e, _⟩ := c; rw [e]; simp
  | dict ds =>
    rcases c with ⟨vs, e, _⟩ | ⟨vs, es, _, e, _⟩
    · rw [e]; simp
    · rw [e]; simp
  | _ => exact c.elim
theorem Ct.mono {a : Addr} {x : D} (h : ∀ b o, H b = some o → ¬ M b → H' b = some o) (hm : ∀ b o, H b = some o → M' b → M b) (ha : ∀ o, H a = some o → H' a = some o) (c : Ct K H M a x) : Ct K H' M' a x := by
  cases x with
  | list ds => obtain ⟨vs, e, p⟩ := c; exact ⟨vs, ha _ e, p.mono h hm⟩
  | dict ds =>
    rcases c with ⟨vs, e, p⟩ | ⟨vs, es, e0, e, p⟩
    · exact .inl ⟨vs, ha _ e, p.mono h hm⟩
    · exact .inr ⟨vs, es, e0, ha _ e, p.mono h hm⟩
  | _ => exact c.elim
/-- v is read as the datum u; strictly: an object that is tracked -/
def Vs (K : PySem.W.Frag) (H : Hp) (M : Mk) (v : V) (u : D) : Prop := Pu K H M v u ∨ ∃ a, v = .ref a ∧ Ct K H M a u
def Va (K : PySem.W.Frag) (H : Hp) (M : Mk) (v : V) (u : D) : Prop := Vs K H M v u ∨ ∃ (a : Addr) (ns : List Int), v = .ref a ∧ u = .list (ns.map .int) ∧ SqL K H a (ns.map V.int)
theorem Pu.va {v : V} {u : D} (p : Pu K H M v u) : Va K H M v u := .inl (.inl p)
theorem Vs.ext (x : Ext H H') {v : V} {u : D} (p : Vs K H M v u) : Vs K H' M v u := by
  rcases p with p | ⟨a, e, c⟩
  · exact .inl (p.ext x)
  · exact .inr ⟨a, e, c.mono (fun b o e _ => x b o e) (fun _ _ _ z => z) fun o e => x a o e⟩
/-- a list that is read -/
theorem Va.list {v : V} {ds : List D} (p : Va K H M v (.list ds)) : ∃ a vs, v = .ref a ∧ SqL K H a vs ∧ PuA K H M vs ds := by
  rcases p with (p | ⟨a, e, vs, h, q⟩) | ⟨a, ns, e, e2, h⟩
  · cases p with
    | lst e n q => exact ⟨_, _, rfl, .of e, q⟩
  · exact ⟨a, vs, e, .of h, q⟩
  · cases e2; exact ⟨a, _, e, h, PuA.ints ns⟩
theorem Vs.list {v : V} {ds : List D} (p : Vs K H M v (.list ds)) : ∃ a vs, v = .ref a ∧ H a = some (.lst vs) ∧ PuA K H M vs ds := by
  rcases p with p | ⟨a, e, vs, h, q⟩
  · cases p with
    | lst e n q => exact ⟨_, _, rfl, e, q⟩
  · exact ⟨a, vs, e, h, q⟩
theorem PuA.strs : ∀ (ns : List Str), PuA K H M (ns.map V.str) (ns.map PyData.str)
  | [] => .nil
  | _ :: r => .cons (.str _) (PuA.strs r)
theorem Pu.tuple {v : V} {ds : List D} (p : Pu K H M v (.tuple ds)) : ∃ a vs, v = .ref a ∧ SqT K H a vs ∧ PuA K H M vs ds := by
  cases p with
  | tup e n q => exact ⟨_, _, rfl, .of e, q⟩
  | tupK n e => exact ⟨_, _, rfl, SqT.k e, PuA.strs _⟩
/-- .. as it stands -/
theorem Pu.tupS {v : V} {ds : List D} (p : Pu K H M v (.tuple ds)) (hs : ∀ (z : Str) (r : List D), ds ≠ .str z :: r) : ∃ a vs, v = .ref a ∧ H a = some (.tup vs) ∧ PuA K H M vs ds := by
  cases p with
  | tup e n q => exact ⟨_, _, rfl, e, q⟩
  | @tupK _ zs n e =>
    cases zs with
    | nil => exact absurd rfl n
    | cons z r => exact absurd rfl (hs z (r.map .str))
theorem Va.pu {v : V} {u : D} (p : Va K H M v u) (hl : ∀ ds, u ≠ .list ds) (hd : ∀ ds, u ≠ .dict ds) : Pu K H M v u := by
  rcases p with (p | ⟨a, e, c⟩) | ⟨a, ns, e, e2, h⟩
  · exact p
  · cases u with
    | list ds => exact absurd rfl (hl ds)
    | dict ds => exact absurd rfl (hd ds)
    | _ => exact c.elim
  · exact absurd e2 (hl _)
theorem Va.tuple {v : V} {ds : List D} (p : Va K H M v (.tuple ds)) : ∃ a vs, v = .ref a ∧ SqT K H a vs ∧ PuA K H M vs ds := (p.pu (fun _ z => nomatch z) fun _ z => nomatch z).tuple
/-- .. or a tuple that is known -/
def Vz (K : PySem.W.Frag) (H : Hp) (M : Mk) (v : V) (u : D) : Prop := Va K H M v u ∨ ∃ (a : Addr) (ys : List D) (ws : List V), v = .ref a ∧ u = .tuple ys ∧ SqT K H a ws ∧ PuA K H M ws ys
theorem Vz.tuple {v : V} {ds : List D} (p : Vz K H M v (.tuple ds)) : ∃ a vs, v = .ref a ∧ SqT K H a vs ∧ PuA K H M vs ds := by
  rcases p with p | ⟨a, ys, ws, e, e2, h, q⟩
  · exact p.tuple
  · cases e2; exact ⟨a, ws, e, h, q⟩
theorem Vz.va {v : V} {u : D} (p : Vz K H M v u) (h : ∀ ys, u ≠ .tuple ys) : Va K H M v u := by
  rcases p with p | ⟨a, ys, ws, e, e2, _⟩
  · exact p
  · exact absurd e2 (h ys)
/-- what a comparison asks of its sides -/
def VcL (o : Cm) (K : PySem.W.Frag) (H : Hp) (M : Mk) (v : V) (u : D) : Prop := match o with | .eq => Vz K H M v u | .ne => Vz K H M v u | _ => Va K H M v u
def VcR (o : Cm) (K : PySem.W.Frag) (H : Hp) (M : Mk) (v : V) (u : D) : Prop := match o with | .eq => Vz K H M v u | .ne => Vz K H M v u | .mem => Vz K H M v u | .nmem => Vz K H M v u | _ => Va K H M v u
theorem Va.cl {o : Cm} {v : V} {u : D} (p : Va K H M v u) : VcL o K H M v u := by cases o <;> first | exact p | exact .inl p
theorem Va.cr {o : Cm} {v : V} {u : D} (p : Va K H M v u) : VcR o K H M v u := by cases o <;> first | exact p | exact .inl p
theorem Va.int {v : V} {i : Int} (p : Va K H M v (.int i)) : v = .int i := by cases p.pu (fun _ z => nomatch z) fun _ z => nomatch z; rfl
theorem Va.bool {v : V} {i : Bool} (p : Va K H M v (.bool i)) : v = .bl i := by cases p.pu (fun _ z => nomatch z) fun _ z => nomatch z; rfl
theorem Va.str {v : V} {i : Str} (p : Va K H M v (.str i)) : v = .str i := by cases p.pu (fun _ z => nomatch z) fun _ z => nomatch z; rfl
theorem Va.none {v : V} (p : Va K H M v .none) : v = .non := by cases p.pu (fun _ z => nomatch z) fun _ z => nomatch z; rfl

theorem dp_strs : ∀ ns : List Str, DpAll K H (ns.map V.str) (ns.map PyData.str)
  | [] => .nil
  | _ :: r => .cons (.str _) (dp_strs r)
mutual
theorem Pu.dp : ∀ {d : D} {v : V}, Pu K H M v d → SeqAt.shaped d = true → Dp K H v d
  | .none, _, .non, _ => .non
  | .bool _, _, .bl _, _ => .bl _
  | .int _, _, .int _, _ => .int _
  | .str _, _, .str _, _ => .str _
  | .list _, _, .lst e _ p, h => .lst (.of e) (PuA.dp p (by simpa only [PyData.canLay0] using SeqAt.canLay_of_shaped h))
  | .tuple _, _, .tup e _ p, h => .tup (.of e) (PuA.dp p (by simpa only [PyData.canLay0] using SeqAt.canLay_of_shaped h))
  | .tuple _, _, .tupK _ e, h => .tup (SqT.k e) (dp_strs _)
  | .dict _, _, .dct _ _ _, h => by have := SeqAt.canLay_of_shaped h; simp [PyData.canLay0] at this
  | .dict _, _, .dctT _ _ _, h => by have := SeqAt.canLay_of_shaped h; simp [PyData.canLay0] at this
theorem PuA.dp : ∀ {ds : List D} {vs : List V}, PuA K H M vs ds → PyData.canLayAll0 ds = true → DpAll K H vs ds
  | [], _, .nil, _ => .nil
  | d :: ds, _, .cons p q, h => by
    simp only [PyData.canLayAll0, Bool.and_eq_true] at h
    exact .cons (Pu.dp' p h.1) (PuA.dp q h.2)
theorem Pu.dp' : ∀ {d : D} {v : V}, Pu K H M v d → PyData.canLay0 d = true → Dp K H v d
  | .none, _, .non, _ => .non
  | .bool _, _, .bl _, _ => .bl _
  | .int _, _, .int _, _ => .int _
  | .str _, _, .str _, _ => .str _
  | .list _, _, .lst e _ p, h => .lst (.of e) (PuA.dp p (by simpa only [PyData.canLay0] using h))
  | .tuple _, _, .tup e _ p, h => .tup (.of e) (PuA.dp p (by simpa only [PyData.canLay0] using h))
  | .tuple _, _, .tupK _ e, h => .tup (SqT.k e) (dp_strs _)
  | .dict _, _, .dct _ _ _, h => by simp [PyData.canLay0] at h
  | .dict _, _, .dctT _ _ _, h => by simp [PyData.canLay0] at h
end
theorem Va.dp {v : V} {d : D} (p : Va K H M v d) (h : SeqAt.shaped d = true) : Dp K H v d := by
  cases d with
  | list ds =>
    obtain ⟨a, vs, rfl, hs, q⟩ := p.list
    exact .lst hs (q.dp (by simpa only [PyData.canLay0] using SeqAt.canLay_of_shaped h))
  | dict ds => have := SeqAt.canLay_of_shaped h; simp [PyData.canLay0] at this
  | _ => exact (p.pu (fun _ z => nomatch z) fun _ z => nomatch z).dp h
theorem Vz.dp {v : V} {d : D} (p : Vz K H M v d) (h : SeqAt.shaped d = true) : Dp K H v d := by
  rcases p with p | ⟨a, ys, ws, rfl, rfl, hs, q⟩
  · exact p.dp h
  · exact .tup hs (q.dp (by simpa only [PyData.canLay0] using SeqAt.canLay_of_shaped h))
end
end Ip

set_option Elab.async false
set_option linter.all false
set_option maxRecDepth 100000
set_option maxHeartbeats 1000000
/-! Dicts that are read, that are written. -/
namespace Ip
open PySem PySem.Spec PyProof.Rows L2
section
variable {K : PySem.W.Frag} {H : Hp} {M : Mk}
theorem intsOf_ints : ∀ ns : List Int, intsOf (ns.map PyData.int) = some ns
  | [] => rfl
  | n :: r => by simp [intsOf, intsOf_ints r]
@[simp] theorem tkey_tupI (ns : List Int) : tkey (tupI ns) = some ns := intsOf_ints ns
theorem inl_inj : ∀ {a b : List Int}, a.map (Sum.inl : Int → Key) = b.map Sum.inl → a = b
  | [], [], _ => rfl
  | [], _ :: _, h => by cases h
  | _ :: _, [], h => by cases h
  | x :: a, y :: b, h => by
    simp only [List.map_cons, List.cons.injEq] at h
    rw [inl_inj h.2, Sum.inl.inj h.1]
theorem kV_ints (ns : List Int) : (ns.map (Sum.inl : Int → Key)).map kV = ns.map V.int := by
  rw [List.map_map]; rfl
theorem PuT.length : ∀ {vs : List (List Key × V)} {ds : List (D × D)}, PuT K H M vs ds → vs.length = ds.length
  | _, _, .nil => rfl
  | _, _, .cons _ q => by simp [PuT.length q]
theorem PuK.length : ∀ {vs : List (Key × V)} {ds : List (D × D)}, PuK K H M vs ds → vs.length = ds.length
  | _, _, .nil => rfl
  | _, _, .cons _ _ q => by simp [PuK.length q]
/-- what is found -/
def Fd (K : PySem.W.Frag) (H : Hp) (M : Mk) (o : Option V) (d : Option D) : Prop := (d = none ∧ o = none) ∨ ∃ v x, o = some v ∧ d = some x ∧ Pu K H M v x
theorem Fd.isSome {o : Option V} {d : Option D} (f : Fd K H M o d) : o.isSome = d.isSome := by
  rcases f with ⟨rfl, rfl⟩ | ⟨v, x, rfl, rfl, _⟩ <;> rfl
theorem PuT.look (ns : List Int) : ∀ {vs : List (List Key × V)} {ds : List (D × D)}, PuT K H M vs ds → Fd K H M (valV vs (ns.map Sum.inl)) (lookT ns ds)
  | _, _, .nil => .inl ⟨rfl, rfl⟩
  | _, _, .cons (ns := ms) (v := v) (e := e) p q => by
    simp only [lookT, tkey_tupI, Option.some.injEq]
    by_cases h : ms = ns
    · subst h
      rw [if_pos rfl, valV_pos rfl]
      exact .inr ⟨v, e, rfl, rfl, p⟩
    · rw [if_neg h, valV_neg (fun z => h (inl_inj z))]
      exact PuT.look ns q
theorem PuK.look (i : Int) : ∀ {vs : List (Key × V)} {ds : List (D × D)}, PuK K H M vs ds → Fd K H M (valV vs (.inl i)) (lookI i ds)
  | _, _, .nil => .inl ⟨rfl, rfl⟩
  | _, _, .cons (v := v) (e := e) (.int j) p q => by
    simp only [lookI, ikey, Option.some.injEq]
    by_cases h : j = i
    · subst h
      rw [if_pos rfl, valV_pos rfl]
      exact .inr ⟨v, e, rfl, rfl, p⟩
    · rw [if_neg h, valV_neg (fun z => h (Sum.inl.inj z))]
      exact PuK.look i q
  | _, _, .cons (v := v) (e := e) (.str x) p q => by
    have h : ¬ ikey (.str x) = some i := by simp [ikey]
    rw [lookI, if_neg h, valV_neg (fun z => by cases z)]
    exact PuK.look i q
theorem PuT.repl (ns : List Int) {w : V} {x : D} (pw : Pu K H M w x) : ∀ {vs : List (List Key × V)} {ds : List (D × D)}, PuT K H M vs ds → PuT K H M (vs.map fun kv => if kv.1 = ns.map Sum.inl then (kv.1, w) else kv) (ds.map fun p => if tkey p.1 = some ns then (p.1, x) else p)
  | _, _, .nil => .nil
  | _, _, .cons (ns := ms) (v := v) (e := e) p q => by
    simp only [List.map_cons, tkey_tupI, Option.some.injEq]
    by_cases h : ms = ns
    · subst h
      rw [if_pos rfl, if_pos rfl]
      exact .cons pw (PuT.repl ms pw q)
    · rw [if_neg h, if_neg (fun z => h (inl_inj z))]
      exact .cons p (PuT.repl ns pw q)
theorem PuT.snoc {ns : List Int} {w : V} {x : D} (pw : Pu K H M w x) : ∀ {vs : List (List Key × V)} {ds : List (D × D)}, PuT K H M vs ds → PuT K H M (vs ++ [(ns.map Sum.inl, w)]) (ds ++ [(tupI ns, x)])
  | _, _, .nil => .cons pw .nil
  | _, _, .cons p q => .cons p (PuT.snoc pw q)
theorem PuT.put (ns : List Int) {w : V} {x : D} (pw : Pu K H M w x) {vs : List (List Key × V)} {ds : List (D × D)} (p : PuT K H M vs ds) : PuT K H M (putK vs (ns.map Sum.inl) w) (putT ns x ds) := by
  unfold putK putT
  rw [valV_any, (p.look ns).isSome]
  split
  · exact p.repl ns pw
  · exact p.snoc pw
theorem PuK.repl (i : Int) {w : V} {x : D} (pw : Pu K H M w x) : ∀ {vs : List (Key × V)} {ds : List (D × D)}, PuK K H M vs ds → PuK K H M (vs.map fun kv => if kv.1 = .inl i then (kv.1, w) else kv) (ds.map fun p => if ikey p.1 = some i then (p.1, x) else p)
  | _, _, .nil => .nil
  | _, _, .cons (v := v) (e := e) (.int j) p q => by
    simp only [List.map_cons]
    by_cases h : j = i
    · subst h
      rw [if_pos rfl, if_pos (show ikey (.int j) = some j from rfl)]
      exact .cons (.int j) pw (PuK.repl j pw q)
    · rw [if_neg (fun z => h (Sum.inl.inj z)), if_neg (show ¬ ikey (.int j) = some i from fun z => h (Option.some.inj z))]
      exact .cons (.int j) p (PuK.repl i pw q)
  | _, _, .cons (v := v) (e := e) (.str s) p q => by
    simp only [List.map_cons]
    rw [if_neg (fun z => by cases z), if_neg (show ¬ ikey (.str s) = some i from fun z => by cases z)]
    exact .cons (.str s) p (PuK.repl i pw q)
theorem PuK.snoc {i : Int} {w : V} {x : D} (pw : Pu K H M w x) : ∀ {vs : List (Key × V)} {ds : List (D × D)}, PuK K H M vs ds → PuK K H M (vs ++ [(.inl i, w)]) (ds ++ [(.int i, x)])
  | _, _, .nil => .cons (.int i) pw .nil
  | _, _, .cons k p q => .cons k p (PuK.snoc pw q)
theorem PuK.put (i : Int) {w : V} {x : D} (pw : Pu K H M w x) {vs : List (Key × V)} {ds : List (D × D)} (p : PuK K H M vs ds) : PuK K H M (putK vs (.inl i) w) (putI i x ds) := by
  unfold putK putI
  rw [valV_any, (p.look i).isSome]
  split
  · exact p.repl i pw
  · exact p.snoc pw
theorem PuK.sLook (i : Str) : ∀ {vs : List (Key × V)} {ds : List (D × D)}, PuK K H M vs ds → Fd K H M (valV vs (.inr i)) (lookS i ds)
  | _, _, .nil => .inl ⟨rfl, rfl⟩
  | _, _, .cons (v := v) (e := e) (.str j) p q => by
    simp only [lookS, skey, Option.some.injEq]
    by_cases h : j = i
    · subst h
      rw [if_pos rfl, valV_pos rfl]
      exact .inr ⟨v, e, rfl, rfl, p⟩
    · rw [if_neg h, valV_neg (fun z => h (Sum.inr.inj z))]
      exact PuK.sLook i q
  | _, _, .cons (v := v) (e := e) (.int x) p q => by
    have h : ¬ skey (.int x) = some i := by simp [skey]
    rw [lookS, if_neg h, valV_neg (fun z => by cases z)]
    exact PuK.sLook i q
theorem PuK.sRepl (i : Str) {w : V} {x : D} (pw : Pu K H M w x) : ∀ {vs : List (Key × V)} {ds : List (D × D)}, PuK K H M vs ds → PuK K H M (vs.map fun kv => if kv.1 = .inr i then (kv.1, w) else kv) (ds.map fun p => if skey p.1 = some i then (p.1, x) else p)
  | _, _, .nil => .nil
  | _, _, .cons (v := v) (e := e) (.str j) p q => by
    simp only [List.map_cons]
    by_cases h : j = i
    · subst h
      rw [if_pos rfl, if_pos (show skey (.str j) = some j from rfl)]
      exact .cons (.str j) pw (PuK.sRepl j pw q)
    · rw [if_neg (fun z => h (Sum.inr.inj z)), if_neg (show ¬ skey (.str j) = some i from fun z => h (Option.some.inj z))]
      exact .cons (.str j) p (PuK.sRepl i pw q)
  | _, _, .cons (v := v) (e := e) (.int s) p q => by
    simp only [List.map_cons]
    rw [if_neg (fun z => by cases z), if_neg (show ¬ skey (.int s) = some i from fun z => by cases z)]
    exact .cons (.int s) p (PuK.sRepl i pw q)
theorem PuK.sSnoc {i : Str} {w : V} {x : D} (pw : Pu K H M w x) : ∀ {vs : List (Key × V)} {ds : List (D × D)}, PuK K H M vs ds → PuK K H M (vs ++ [(.inr i, w)]) (ds ++ [(.str i, x)])
  | _, _, .nil => .cons (.str i) pw .nil
  | _, _, .cons k p q => .cons k p (PuK.sSnoc pw q)
theorem PuK.sPut (i : Str) {w : V} {x : D} (pw : Pu K H M w x) {vs : List (Key × V)} {ds : List (D × D)} (p : PuK K H M vs ds) : PuK K H M (putK vs (.inr i) w) (putS i x ds) := by
  unfold putK putS
  rw [valV_any, (p.sLook i).isSome]
  split
  · exact p.sRepl i pw
  · exact p.sSnoc pw
/-- a dict that is read: its content -/
def Dc (K : PySem.W.Frag) (H : Hp) (M : Mk) (a : Addr) (ds : List (D × D)) : Prop := (∃ vs, H a = some (.dK vs) ∧ PuK K H M vs ds) ∨ ∃ vs es, ds = (.none, .none) :: es ∧ H a = some (.dT vs) ∧ PuT K H M vs es
theorem Va.dict {v : V} {ds : List (D × D)} (p : Va K H M v (.dict ds)) : ∃ a, v = .ref a ∧ Dc K H M a ds := by
  rcases p with (p | ⟨a, e, c⟩) | ⟨a, ns, e, e2, h⟩
  · cases p with
    | dct e n q => exact ⟨_, rfl, .inl ⟨_, e, q⟩⟩
    | dctT e n q => exact ⟨_, rfl, .inr ⟨_, _, rfl, e, q⟩⟩
  · exact ⟨a, e, c⟩
  · cases e2
theorem PuK.nomark {vs : List (Key × V)} {es : List (D × D)} (p : PuK K H M vs ((.none, .none) :: es)) : False := by
  cases p with
  | cons k _ _ => cases k
/-- a key of whole numbers -/
theorem tkey_at {y : V} {x : D} {ns : List Int} (p : Va K H M y x) (e : tkey x = some ns) : ∃ b, y = .ref b ∧ H b = some (.tup ((ns.map (Sum.inl : Int → Key)).map kV)) := by
  unfold tkey at e
  split at e
  · obtain ⟨b, vs, rfl, hb, pa⟩ := (p.pu (fun _ z => nomatch z) fun _ z => nomatch z).tupS (fun z r q => by rw [q] at e; simp [intsOf] at e)
    rw [pa.ints_inv e] at hb
    rw [kV_ints]
    exact ⟨b, rfl, hb⟩
  · cases e
theorem ikey_at {y : V} {x : D} {i : Int} (p : Va K H M y x) (e : ikey x = some i) : y = kV (.inl i) := by
  unfold ikey at e
  split at e
  · cases e
    exact p.int
  · cases e
/-- d[y], y in d -/
theorem dict_get {v y : V} {ds : List (D × D)} {x : D} {o : Option D} (p : Va K H M v (.dict ds)) (py : Va K H M y x) (e : dictGet ds x = some o) : ∃ a ov, v = .ref a ∧ DGet H a y ov ∧ Fd K H M ov o := by
  obtain ⟨a, rfl, c⟩ := p.dict
  unfold dictGet at e
  split at e
  · rw [Option.map_eq_some_iff] at e
    obtain ⟨ns, e1, rfl⟩ := e
    obtain ⟨b, rfl, hb⟩ := tkey_at py e1
    rcases c with ⟨vs, _, q⟩ | ⟨vs, es', e2, h, q⟩
    · exact q.nomark.elim
    · cases e2
      exact ⟨a, _, rfl, .t h hb, q.look ns⟩
  · rename_i hne
    unfold dgI at e
    split at e
    · rename_i t
      cases e
      rw [py.str, show V.str t = kV (.inr t) from rfl]
      rcases c with ⟨vs, h, q⟩ | ⟨vs, es', e2, h, q⟩
      · exact ⟨a, _, rfl, .k h, q.sLook t⟩
      · exact absurd e2 (hne _)
    rw [Option.map_eq_some_iff] at e
    obtain ⟨i, e1, rfl⟩ := e
    rw [ikey_at py e1]
    rcases c with ⟨vs, h, q⟩ | ⟨vs, es', e2, h, q⟩
    · exact ⟨a, _, rfl, .k h, q.look i⟩
    · exact absurd e2 (hne _)
/-- d[y] = v -/
theorem dict_put {a : Addr} {y v : V} {ds ds' : List (D × D)} {x z : D} (c : Ct K H M a (.dict ds)) (py : Va K H M y x) (pv : Pu K H M v z) (e : dictPut ds x z = some ds') :
    ∃ o, DPut H a y v (upd H a o) ∧ ∀ H2, (∀ b u, H b = some u → ¬ M b → H2 b = some u) → H2 a = some o → Ct K H2 M a (.dict ds') := by
  have line : LIM = sizeLine := by rw [sizeLine_eq]; rfl
  unfold dictPut at e
  split at e
  · simp only [Option.bind_eq_some_iff] at e
    obtain ⟨ns, e1, e2⟩ := e
    split at e2
    · rename_i few
      cases e2
      obtain ⟨b, rfl, hb⟩ := tkey_at py e1
      rcases c with ⟨vs, _, q⟩ | ⟨vs, es', e3, h, q⟩
      · exact q.nomark.elim
      · cases e3
        refine ⟨_, .t h hb (by rw [q.length, ← line]; exact few), fun H2 kp e4 => .inr ⟨_, _, rfl, e4, ?_⟩⟩
        exact (q.put ns pv).mono kp fun _ _ _ z => z
    · cases e2
  · rename_i hne
    unfold dpI at e
    split at e
    · rename_i t
      split at e
      · rename_i few
        cases e
        rw [py.str, show V.str t = kV (.inr t) from rfl]
        rcases c with ⟨vs, h, q⟩ | ⟨vs, es', e3, h, q⟩
        · refine ⟨_, .k h (by rw [q.length, ← line]; exact few), fun H2 kp e4 => .inl ⟨_, e4, ?_⟩⟩
          exact (q.sPut t pv).mono kp fun _ _ _ z => z
        · exact absurd e3 (hne _)
      · cases e
    simp only [Option.bind_eq_some_iff] at e
    obtain ⟨i, e1, e2⟩ := e
    split at e2
    · rename_i few
      cases e2
      rw [ikey_at py e1]
      rcases c with ⟨vs, h, q⟩ | ⟨vs, es', e3, h, q⟩
      · refine ⟨_, .k h (by rw [q.length, ← line]; exact few), fun H2 kp e4 => .inl ⟨_, e4, ?_⟩⟩
        exact (q.put i pv).mono kp fun _ _ _ z => z
      · exact absurd e3 (hne _)
    · cases e2
end
end Ip

set_option Elab.async false
set_option linter.all false
set_option maxRecDepth 100000
set_option maxHeartbeats 4000000
/-! {k: v for ..} for keys of either kind. -/
namespace Ip
open PySem PySem.Spec PyProof.Rows L2
section
variable {X : Cx} {pins : List (Addr × Obj)} {s : Shared} {σ : L2.St} {H H' : Hp} {E : Value → Shared → Prop}
/-- a comprehension puts v under y -/
theorem d_dictSetP {D : Addr} {y v : V} {u r : Value} {R : Unit → Shared → Prop} (room : X.A.units < cLine) (I : Inv X pins σ H s) (g : DPut H D y v H') (ry : RelV y u) (rv : RelV v r)
    (q : ∀ s', Inv X pins σ H' s' → R () s') : wpAny (model X.prog X.w) X.A (dictSet D u r) R E s := by
  rcases g with ⟨kvs, k, e, rfl, few, rfl⟩ | ⟨kvs, k, b, e, rfl, eb, few, rfl⟩
  · exact d_dictSet I e few ry rv q
  · obtain rfl : u = Value.ref b := ry
    obtain ⟨z, nsys, xs, rel, dd⟩ := dt_of I.hok e
    have z2 : xs.length ≤ sizeLine := by rwa [← Paired.length rel]
    have z3 : (putK kvs k v).length ≤ sizeLine := by
      have := length_putK kvs k v
      omega
    refine wpAny_dictSet_heap (hsz := z2) (show (tupleKind (mixKind X.prog X.w)).room X.A from room) (key_of I.hok eb) dd fun g' dd' sb => q _ ?_
    obtain ⟨o, es, ep, h1, h2, h3, h4, _, h5⟩ := dd'
    have keep : ∀ c ys, H c = some (.tup ys) → (upd H D (.dT (putK kvs k v))) c = some (.tup ys) := by
      intro c ys ec
      rw [upd_ne (ne_of ec e (fun z => nomatch z))]
      exact ec
    exact d_write I (by rw [e]; exact True.intro) sb ⟨o, h1⟩ ⟨z3, nsys, _, (rel.put k eb rv).keeps keep, o, es, ep, h1, h2, h3, h4, h5⟩
/-- what a turn asks -/
def tDcE (D : Addr) (tk tv : TE) (Nx : Hp → Prop) (σ2 : L2.St) (H3 : Hp) : Prop := tk σ2 H3 fun y H4 => tv σ2 H4 fun z H5 => ∃ H6, DPut H5 D y z H6 ∧ Nx H6
/-- {k: v for target in iter if ..}: D the new dict, u0 what it is held as -/
def tDcP (u0 : HO) (wi : TI) (g : TG) (tt : TT) (tk tv : TE) (vs : List Nat) : TE := fun σ H Q => wi σ H fun J H1 => ∀ D, H1 D = none →
  ∃ W : Nat → Nat → Hp → Prop, (∃ m, W 0 m (upd H1 D u0)) ∧ ∀ i m H, W i m H → (J.stop i H ∧ Q (.ref D) H) ∨
    (J.go i H ∧ ∃ Nx : Hp → Prop, (∀ H', Nx H' → ∃ m', m' < m ∧ W (i + 1) m' H') ∧
      ∀ x H', J.yld i H x H' → g x (L2.wipe σ vs) H' fun σ2 H2 => L2.wipe σ2 vs = L2.wipe σ vs ∧ tt σ2 H2 fun b H3 => if b = true then tDcE D tk tv Nx σ2 H3 else Nx H3)
abbrev dObj : Obj := { cls := .type "dict", data := .dict #[] }
theorem dcP_core {u0 : HO} (hu0 : u0 = .dT [] ∨ u0 = .dK []) {Q : VK} {kx vx tg iter : Expr} {ifs : List Expr} {scope : Scope} {own : List (Str × Nat)} {pos pos2 : Pos} {wi : TI} {g : TG} {tt : TT} {tk tv : TE} {use : Option (Value → Sem Unit)} {Qf : Value → Shared → Prop}
    (room : X.A.units < cLine) (calm : X.calm = true) (nd : X.N.Nodup) (I : Inv X pins σ H s) (hi : PI X tg iter wi) (ok : BlkOk X.N X.env.scope scope own)
    (hg : ∀ s H C cl fp, PG (X.blk s H scope (compEnvC scope cl C X.env) fp) tg g) (ht : ∀ s H C cl fp, PTs (X.blk s H scope (compEnvC scope cl C X.env) fp) ifs tt)
    (hk : ∀ s H C cl fp, PE (X.blk s H scope (compEnvC scope cl C X.env) fp) kx tk) (hv : ∀ s H C cl fp, PE (X.blk s H scope (compEnvC scope cl C X.env) fp) vx tv) (hs : ∀ x, foldedSetIterable iter X.env x = pure x)
    (h : tDcP u0 wi g tt tk tv (own.map (·.2)) σ H Q)
    (over1 : ∀ D C z m G, Inv X pins σ G z → Q (.ref D) G → z.heap.Ns C m → FpOk X pins G C → compPost (model X.prog X.w) X.A X.xe use Qf (.ref D) C (.ok .next) z) :
    wpAny (model X.prog X.w) X.A (comprehension (.DictComp kx vx [⟨tg, iter, ifs, 0⟩] scope pos) scope X.env pos2 newDict false (eval iter X.env) use) Qf X.xe s := by
  have cap : ∀ y ∈ scope.names, y.2 = .free → ∃ c, X.env.cells.lookup y.1 = some c := by
    intro y hy e
    rcases ok.free y hy e with k | k
    · exact I.ok.has _ (.inl k)
    · exact I.ok.has _ (.inr k)
  refine wpAny_comprehension_free (use := use) rfl hs (closure_ok cap) ok.kind (fun y hy e => by rw [ok.uniq y hy, e]) ?_
  refine thn (hi.run pins s σ H _ I h) fun xv s1 hx => thn hx fun iv s2 h2 => ?_
  obtain ⟨it, fp, tn, J, H2, rfl, I2, T, st2, f2, q⟩ := h2
  refine (wpAny_newObj_type (newEnv_comp ?_))
  generalize hD : s2.heap.objs.size = D
  have fresh : H2 D = none := I2.hok.fresh (Nat.le_of_eq hD)
  obtain ⟨W, ⟨m0, w0⟩, turn⟩ := q D fresh
  generalize hs3 : ({ s2 with heap := s2.heap.push dObj } : Shared) = s3
  have hp3 : s3.heap = s2.heap.push dObj := by rw [← hs3]
  have I3 : Inv X pins σ (upd H2 D u0) s3 := by
    rw [← hs3, ← hD]
    refine I2.laid (t' := s2.toks) (fun b o e => Heap.get?_push_of_some _ e) (Nat.le_refl _) ?_
    rcases hu0 with rfl | rfl
    · exact dt_empty s2.heap I2.big
    · exact dk_empty s2.heap I2.big
  have below : ∀ b ∈ fp, b < s2.heap.objs.size := by
    intro b hb
    obtain ⟨o, e, _⟩ := T.obj _ _ st2 b hb
    exact Heap.lt_size e
  have f3 : ∀ b ∈ fp, FpOk X pins (upd H2 D u0) b ∧ b < s3.heap.objs.size := by
    intro b hb
    have lt := below b hb
    refine ⟨⟨?_, (f2 b hb).2⟩, ?_⟩
    · rw [upd_ne (show b ≠ D from by rw [← hD]; exact Nat.ne_of_lt lt)]
      exact (f2 b hb).1
    · rw [hp3, Heap.size_push]
      exact Nat.lt_succ_of_lt lt
  have st3 : tn 0 s3.heap := T.keep _ _ _ st2 fun b _ o e => by
    rw [hp3]
    exact Heap.get?_push_of_some _ e
  have I4 := block_start I3 ok nd f3
  generalize hcl : cellsFrom (s3.heap.objs.size + 1) scope.names (cloFrom X.env.cells scope.names []) = cl at I4
  have pg := hg s3 (upd H2 D u0) s3.heap.objs.size cl fp
  have pt := ht s3 (upd H2 D u0) s3.heap.objs.size cl fp
  have pk := hk s3 (upd H2 D u0) s3.heap.objs.size cl fp
  have pv := hv s3 (upd H2 D u0) s3.heap.objs.size cl fp
  show codeAny _ _ (.compStart (.DictComp kx vx [⟨tg, iter, ifs, 0⟩] scope pos) 0 (.ref it) (.ref D) (compEnvC scope cl s3.heap.objs.size X.env))
      (compPost (model X.prog X.w) X.A X.xe use Qf (.ref D) s3.heap.objs.size) { s3 with heap := pushCells (s3.heap.push dObj) scope.names }
  have out3 : ∀ b ∈ fp, (upd H2 D u0) b = none := fun b hb => (f3 b hb).1.1
  generalize hce : compEnvC scope cl s3.heap.objs.size X.env = ce at I4 pg pt pk pv ⊢
  have own0 : ce.locals = s3.heap.objs.size := by
    subst hce
    rfl
  generalize hH3 : upd H2 D u0 = H3 at I3 I4 pg pt pk pv w0 out3 f3
  generalize hs4 : ({ s3 with heap := pushCells (s3.heap.push dObj) scope.names } : Shared) = s4 at I4 ⊢
  have st4 : tn 0 s4.heap := T.keep _ _ _ st3 fun b _ o e => by
    rw [← hs4]
    exact pushCells_keeps _ _ _ _ (Heap.get?_push_of_some _ e)
  have fps : ∀ {τ : L2.St} {G : Hp} {z : Shared}, Inv (X.blk s3 H3 scope ce fp) [] τ G z → (∀ b ∈ fp, G b = none) → ∀ b ∈ fp, FpOk (X.blk s3 H3 scope ce fp) [] G b := by
    intro τ G z J1 out b hb
    refine ⟨out b hb, (J1.ok.exf b hb).1, J1.ok.exfs b hb, .inl hb, fun x c e => (J1.ok.exf b hb).2 x c e, fun p hp => ?_⟩
    exact absurd (show p ∈ ([] : List (Addr × Obj)) ++ [] from hp) (by simp)
  have loop : codeAny (model X.prog X.w) X.A (.compLoop (.DictComp kx vx [⟨tg, iter, ifs, 0⟩] scope pos) 0 (.ref it) (.ref D) ce)
      (compPost (model X.prog X.w) X.A X.xe use Qf (.ref D) s3.heap.objs.size) s4 := by
    refine compLoop_anyD (fun n z => ∃ i G, Inv (X.blk s3 H3 scope ce fp) [] (L2.wipe σ (own.map (·.2))) G z ∧ tn i z.heap ∧ (∀ b ∈ fp, G b = none) ∧ W i n G) ?_ m0 ⟨0, H3, I4, st4, out3, w0⟩
    rintro n s5 ⟨i, H5, I5, st5, out5, w5⟩
    rcases turn i n H5 w5 with ⟨stop, qq⟩ | ⟨go, Nx, hNx, step⟩
    · have fin0 := T.done (X.blk s3 H3 scope ce fp) rfl rfl rfl calm i [] s5 _ H5 (fun _ _ => False) I5 (fps I5 out5) st5 stop
      refine thnF fin0 fun r s6 ⟨hr, I6⟩ => ?_
      subst hr
      have I7 : Inv X pins σ H5 s6 := I3.call' (ch := fp) I6.os I6.base I6.hok I6.bare fun b hb =>
        ⟨(f3 b hb).1.2.2.2.1, (f3 b hb).1.2.1, (f3 b hb).1.2.2.2.2.1, (f3 b hb).1.2.2.2.2.2⟩
      have noC : H5 s3.heap.objs.size = none := by
        have z : H5 ce.locals = none := I6.free
        rwa [own0] at z
      obtain ⟨m, hn, _⟩ := I6.loc
      have hn : s6.heap.Ns ce.locals m := hn
      rw [own0] at hn
      exact over1 D s3.heap.objs.size s6 m H5 I7 qq hn (I3.fpOk (Nat.le_refl _) noC)
    · have next := T.item (X.blk s3 H3 scope ce fp) rfl rfl rfl calm i [] s5 _ H5 (fun _ _ => False) I5 (fps I5 out5) st5 go
      refine thnF next fun r s6 ⟨u, hr, h6⟩ => ?_
      subst hr
      refine thnF h6 fun _ s7 ⟨x, H7, I7, r7, y7, st7, n7⟩ => ?_
      have pinned := I7.pinned (fps I7 n7) (T.obj _ _ st7)
      refine thnF (pg.run _ s7 _ H7 x u _ pinned r7 (step x H7 y7)) fun _ s8 ⟨σ8, H8, I8, hw8, q8⟩ => ?_
      refine thnF (pt.run _ s8 σ8 H8 _ I8 q8) fun b s9 ⟨H9, I9, q9⟩ => ?_
      have over : ∀ {z : Shared} {G : Hp}, Inv (X.blk s3 H3 scope ce fp) ([] ++ pinsAt fp s7.heap) σ8 G z → Nx G →
          ∃ m, m < n ∧ ∃ i G, Inv (X.blk s3 H3 scope ce fp) [] (L2.wipe σ (own.map (·.2))) G z ∧ tn i z.heap ∧ (∀ b ∈ fp, G b = none) ∧ W i m G := by
        intro z G J1 nx
        obtain ⟨m2, lt2, w2⟩ := hNx G nx
        have still2 : ∀ b ∈ fp, ∀ o, s7.heap.get? b = some o → z.heap.get? b = some o ∧ G b = none := by
          intro b hb o e
          have k := J1.pin (b, o) (List.mem_append_right _ (List.mem_append_right _ (mem_pinsAt hb e)))
          exact ⟨k.1, k.2.1⟩
        have len2 : (L2.wipe σ (own.map (·.2))).length = σ8.length := by rw [← hw8, wipe_length]
        refine ⟨m2, lt2, i + 1, G, (J1.unpinned (pins := [])).weak len2 ?_, T.keep _ _ _ st7 fun b hb o e => (still2 b hb o e).1, ?_, w2⟩
        · intro j v e
          rw [← hw8] at e
          exact (L2.wipe_some e).1
        · intro b hb
          obtain ⟨o, e, _⟩ := T.obj _ _ st7 b hb
          exact (still2 b hb o e).2
      cases b with
      | false =>
        simp only [Bool.false_eq_true, if_false] at q9 ⊢
        exact over I9 q9
      | true =>
        simp only [if_true] at q9 ⊢
        refine thnF (pk.run _ s9 σ8 H9 _ I9 q9) fun z s10 ⟨yk, H10, I10, r10, q10⟩ => ?_
        refine thnF (pv.run _ s10 σ8 H10 _ I10 q10) fun z2 s11 ⟨yv, H11, I11, r11, H12, put, nx⟩ => ?_
        exact d_dictSetP (X := X.blk s3 H3 scope ce fp) room I11 put r10 r11 fun s12 I12 => over I12 nx
  exact codeAny_compStart_dict loop (T.self X.A 0 _ _ _ st4 loop)
/-- as a value -/
theorem pe_dcP {u0 : HO} (hu0 : u0 = .dT [] ∨ u0 = .dK []) {kx vx tg iter : Expr} {ifs : List Expr} {scope : Scope} {own : List (Str × Nat)} {pos : Pos} {wi : TI} {g : TG} {tt : TT} {tk tv : TE} (room : X.A.units < cLine) (calm : X.calm = true) (nd : X.N.Nodup) (hi : PI X tg iter wi) (ok : BlkOk X.N X.env.scope scope own)
    (hg : ∀ s H C cl fp, PG (X.blk s H scope (compEnvC scope cl C X.env) fp) tg g) (ht : ∀ s H C cl fp, PTs (X.blk s H scope (compEnvC scope cl C X.env) fp) ifs tt)
    (hk : ∀ s H C cl fp, PE (X.blk s H scope (compEnvC scope cl C X.env) fp) kx tk) (hv : ∀ s H C cl fp, PE (X.blk s H scope (compEnvC scope cl C X.env) fp) vx tv) (hs : ∀ x, foldedSetIterable iter X.env x = pure x) :
    PE X (.DictComp kx vx [⟨tg, iter, ifs, 0⟩] scope pos) (tDcP u0 wi g tt tk tv (own.map (·.2))) := by
  refine ⟨fun pins s σ H Q I h => ?_⟩
  rw [arm_eval_DictComp]
  refine dcP_core hu0 room calm nd I hi ok hg ht hk hv hs h fun D C z m G J q hn f => ⟨m, hn, fun h8 sb => ?_⟩
  obtain ⟨e0, e1, e2, e3, e4, e5⟩ := f
  exact ⟨.ref D, G, J.turned (t' := z.toks) (fun b o hb e => (sb.2 b hb).trans e) e0 e1 e3 e4 e5, rfl, q⟩
/-- name = {..} on one line, the name a local -/
theorem ps_setDcP {u0 : HO} (hu0 : u0 = .dT [] ∨ u0 = .dK []) {i : Nat} {y : Str} {py : Pos} {kx vx tg iter : Expr} {ifs : List Expr} {scope : Scope} {own : List (Str × Nat)} {pos spos : Pos} {wi : TI} {g : TG} {tt : TT} {tk tv : TE} (room : X.A.units < cLine) (calm : X.calm = true) (nd : X.N.Nodup) (hy : X.N[i]? = some y) (hyl : X.env.scope.names.lookup y = some .local)
    (hsw : swapsWith (.DictComp kx vx [⟨tg, iter, ifs, 0⟩] scope pos) (some (.Name y py)) spos.line X.env = pure true) (hi : PI X tg iter wi) (ok : BlkOk X.N X.env.scope scope own)
    (hg : ∀ s H C cl fp, PG (X.blk s H scope (compEnvC scope cl C X.env) fp) tg g) (ht : ∀ s H C cl fp, PTs (X.blk s H scope (compEnvC scope cl C X.env) fp) ifs tt)
    (hk : ∀ s H C cl fp, PE (X.blk s H scope (compEnvC scope cl C X.env) fp) kx tk) (hv : ∀ s H C cl fp, PE (X.blk s H scope (compEnvC scope cl C X.env) fp) vx tv) (hs : ∀ x, foldedSetIterable iter X.env x = pure x) :
    PS X (.Assign [.Name y py] (.DictComp kx vx [⟨tg, iter, ifs, 0⟩] scope pos) spos) (tAsg (tDcP u0 wi g tt tk tv (own.map (·.2))) (gName i)) := by
  refine ⟨fun pins s σ H D I h => ?_⟩
  rw [exec_Assign_Name_used _ _ _ _ hsw]
  apply wpAny_bind
  apply wpAny_standAt
  apply wpAny_bind
  show wpAny _ X.A (do let _ ← comprehension (.DictComp kx vx [⟨tg, iter, ifs, 0⟩] scope pos) scope X.env (firstIterPos [⟨tg, iter, ifs, 0⟩] pos) newDict false (eval iter X.env) (some (assign (.Name y py) X.env))) _ _ s
  have h : tDcP u0 wi g tt tk tv (own.map (·.2)) σ H (fun x H1 => gName i x σ H1 D.nx) := h
  refine wpAny_bind (thn (dcP_core (Qf := fun _ z => SP X pins D .next z) hu0 room calm nd I hi ok hg ht hk hv hs h fun L C z m G J q hn f => ?_) fun _ z hq => wpAny_pure (wpAny_pure hq))
  show wpAny _ _ (assign (.Name y py) X.env (.ref L)) _ _ _
  refine wpAny_assign_Name (store_ok2 (v := V.ref L) J nd hy (.inl hyl) rfl (fun s2 I2 ⟨a, sb, ha⟩ => ?_) (.inr hyl))
  obtain ⟨e0, e1, e2, e3, e4, e5⟩ := f
  have other : C ≠ a := by
    rcases ha with z | z
    · rw [z]
      exact e1
    · exact fun e => e4 y a z e.symm
  refine ⟨m, hn.sameBut sb other, fun h3 sb3 => ?_⟩
  exact ⟨_, G, I2.turned (t' := s2.toks) (fun b o hb e => (sb3.2 b hb).trans e) e0 e1 e3 e4 e5, q⟩
end
end Ip

set_option Elab.async false
set_option linter.all false
set_option maxRecDepth 100000
set_option maxHeartbeats 1000000
/-! Operations by values. -/
namespace Ip
open PySem PySem.Spec PyProof.Rows L2

/-- what an operation at H gives, at H' -/
def Rs (K : PySem.W.Frag) (H H' : Hp) (M : Mk) (r : R) (z : V) : Prop := match r with
  | .d x => Pu K H' M z x
  | .f x => ∃ a, z = .ref a ∧ H a = none ∧ Ct K H' (fun b => M b ∨ b = a) a x
  | _ => False
def Dom (H : Hp) (M : Mk) : Prop := ∀ b, M b → H b ≠ none ∧ ∀ xs, H b ≠ some (.tup xs)
theorem lim_line {n : Nat} (h : n ≤ LIM) : n ≤ sizeLine := by rw [sizeLine_eq]; exact h

def opOf : Op → Operator
  | .add => .Add | .sub => .Sub | .mul => .Mult | .fdiv => .FloorDiv | .mod => .Mod | .pow => .Pow | .shl => .LShift | .shr => .RShift | .band => .BitAnd | .bor => .BitOr
def rOp (K : PySem.W.Frag) (o : Op) : R2 := fun x y H Q => ∃ (M : Mk) (u v : D) (r : R), Dom H M ∧ Vs K H M x u ∧ Vs K H M y v ∧ opD o u v = some r ∧ ∀ z H', Ext H H' → Rs K H H' M r z → Q z H'

section
variable {X : Cx}
theorem cmul_of {i j : Int} (h : cmulB i j = true) : CMul i j := by
  simp only [cmulB, Bool.or_eq_true, decide_eq_true_eq] at h
  rcases h with h | h
  · exact .inl (by omega)
  · exact .inr (by omega)
theorem cpow_of {i j : Int} (h : cpowB i j = true) : CPow i j := by
  simp only [cpowB, Bool.and_eq_true, decide_eq_true_eq] at h
  exact h
theorem cdiv_of {i j : Int} (h : cdivB j = true) : CDivN i j := by
  simp only [cdivB, Bool.and_eq_true, decide_eq_true_eq] at h
  exact h
theorem vsI {K : PySem.W.Frag} {H : Hp} {M : Mk} {v : V} {i : Int} (p : Vs K H M v (.int i)) : v = .int i := Va.int (.inl p)
theorem vsB {K : PySem.W.Frag} {H : Hp} {M : Mk} {v : V} {i : Bool} (p : Vs K H M v (.bool i)) : v = .bl i := Va.bool (.inl p)
theorem vsS {K : PySem.W.Frag} {H : Hp} {M : Mk} {v : V} {i : Str} (p : Vs K H M v (.str i)) : v = .str i := Va.str (.inl p)
theorem vsT {K : PySem.W.Frag} {H : Hp} {M : Mk} {v : V} {ds : List D} (p : Vs K H M v (.tuple ds)) : Pu K H M v (.tuple ds) := Va.pu (.inl p) (fun _ z => nomatch z) fun _ z => nomatch z
theorem not_m {H : Hp} {M : Mk} {p : Addr} (dm : Dom H M) (n : H p = none) : ¬ M p := fun z => (dm p z).1 n
/-- a new tuple, a new list -/
theorem Rs.tup {K : PySem.W.Frag} {H : Hp} {M : Mk} {p : Addr} {vs : List V} {ds : List D} (dm : Dom H M) (n : H p = none) (q : PuA K H M vs ds) : Rs K H (upd H p (.tup vs)) M (.d (.tuple ds)) (.ref p) :=
  Pu.tup upd_same (not_m dm n) (q.ext (.upd n))
theorem Rs.lst {K : PySem.W.Frag} {H : Hp} {M : Mk} {p : Addr} {vs : List V} {ds : List D} (dm : Dom H M) (n : H p = none) (q : PuA K H M vs ds) : Rs K H (upd H p (.lst vs)) M (.f (.list ds)) (.ref p) :=
  ⟨p, rfl, n, vs, upd_same, q.mono (fun b o e _ => Ext.upd n b o e) fun b o e z => by
    rcases z with z | rfl
    · exact z
    · rw [n] at e; cases e⟩
theorem tuple_mul1 (l : Addr) (items : Array Value) (n : Nat) (dd : Option Addr) (sl : Array (Option Value)) (x : Int) (u : Tok) (c0 : (decide (x < -(2 ^ 63)) || decide (x ≥ 2 ^ 63)) = false) (c1 : (items.isEmpty || x == 1) = true) :
    Meets (Builtin.«tuple.__mul__» ⟨[.ref l, .int x u], []⟩) (fun _ R s => s.heap.get? l = some { cls := .type "tuple", dict := dd, data := .seq items n, slots := sl } ∧ R (.ok (.ret (Value.ref l))) s) :=
  .of_wp fun prog w A R s h => by
    obtain ⟨hp, g, d, tk, os⟩ := s
    obtain ⟨hl, h⟩ := h
    have f1 := AutoSeq1.idx_int
    have hx : hp.get? l = some { cls := .type "tuple", dict := dd, data := .seq items n, slots := sl } := hl
    wp_walk using wpAny_loadPart' hl
    repeat (first
      | (refine wpAny_ite_false (decide_eq_false (by rw [c0]; exact Bool.false_ne_true)) ?_; wp_walk using wpAny_loadPart' hl)
      | (refine wpAny_ite_true (decide_eq_true c1) ?_; wp_walk using wpAny_loadPart' hl))
    exact ⟨_, rfl, h⟩
/-- tuple * k, k no less than one -/
theorem op_mulT {pins : List (Addr × Obj)} {s : Shared} {σ : L2.St} {H : Hp} {l : Addr} {k : Int} {xs : List V} {v u : Value} {Q : VK} (I : Inv X pins σ H s) (rx : RelV (.ref l) v) (ry : RelV (.int k) u) (hT : SqT X.K H l xs) (h1 : 1 ≤ k) (h2 : k ≤ 1000) (hz : xs.length ≤ 1000)
    (q1 : xs = [] ∨ k = 1 → Q (.ref l) H) (q2 : ∀ p, H p = none → Q (.ref p) (upd H p (.tup (List.replicate k.toNat xs).flatten))) : wpAny (model X.prog X.w) X.A (binaryOp .Mult v u) (EP X pins σ Q) X.xe s := by
  by_cases c : xs = [] ∨ k = 1
  · cases rx
    obtain ⟨t, rfl⟩ := ry
    obtain ⟨its, r, ⟨⟨cls, dd, data, sl⟩, ho, hc, n, hd⟩, hs⟩ := I.tuple hT
    simp only at hc hd
    subst hc hd
    have c0 : (decide (k < -(2 ^ 63)) || decide (k ≥ 2 ^ 63)) = false := by
      rw [decide_eq_false (by omega), decide_eq_false (by omega)] <;> rfl
    have c1 : (its.toArray.isEmpty || k == 1) = true := by
      rcases c with rfl | rfl
      · cases r; rfl
      · simp
    refine wpAny_binaryOp_repeat_ref (T := "tuple") (U := "int") (by decide) ⟨_, ho, rfl⟩ (fun s' => typeIs_int s' k t) noFill_tuple_mul F.fills_int_mul F.slot_int_rmul repeat_tuple F.slot_int_index.lookup
      (call_meets F.slot_int_rmul (typeIs_int s k t) F.entry_int_rmul (F.args_int_rmul_2 _ _) (int_rmul_tuple k t l its.toArray n dd sl)
        ⟨ho, rfl, ⟨_, ho, rfl⟩, call_meets F.slot_tuple_mul ⟨_, ho, rfl⟩ F.entry_tuple_mul (F.args_tuple_mul_2 _ _) (tuple_mul1 l its.toArray n dd sl k t c0 c1) ⟨ho, ?_⟩⟩)
    exact ⟨.ref l, H, I.tok _, rfl, q1 c⟩
  · have c' : xs ≠ [] ∧ k ≠ 1 := ⟨fun z => c (.inl z), fun z => c (.inr z)⟩
    exact op_repT pins s σ H _ _ v u Q I rx ry ⟨l, k, xs, rfl, rfl, hT, c'.1, by omega, h2, hz, q2⟩
theorem PuA.rep {K : PySem.W.Frag} {H : Hp} {M : Mk} {vs : List V} {ds : List D} (p : PuA K H M vs ds) : ∀ n : Nat, PuA K H M (List.replicate n vs).flatten (List.replicate n ds).flatten
  | 0 => .nil
  | n + 1 => by
    rw [List.replicate_succ, List.replicate_succ, List.flatten_cons, List.flatten_cons]
    exact p.append (PuA.rep p n)
theorem op_all (o : Op) : OpR X (binaryOp (opOf o)) (rOp X.K o) := by
  intro pins s σ H x y v u Q I rx ry ⟨M, d, e, r, dm, px, py, h, q⟩
  have int : ∀ (i : Int), r = .d (.int i) → Q (.int i) H := fun i e => q _ _ .refl (by rw [e]; exact .int i)
  unfold opD at h
  split at h
  · cases h; rw [vsI px] at rx; rw [vsI py] at ry
    exact op_add pins s σ H _ _ v u Q I rx ry ⟨_, _, rfl, rfl, int _ rfl⟩
  · cases h; rw [vsI px] at rx; rw [vsB py] at ry
    exact op_add_ib pins s σ H _ _ v u Q I rx ry ⟨_, _, rfl, rfl, int _ rfl⟩
  · split at h
    · cases h; rw [vsS px] at rx; rw [vsS py] at ry
      exact op_add_str pins s σ H _ _ v u Q I rx ry ⟨_, _, rfl, rfl, lim_line (by assumption), q _ _ .refl (.str _)⟩
    · cases h
  · split at h
    · cases h
      obtain ⟨a, vs, rfl, ha, pa⟩ := (vsT px).tuple
      obtain ⟨b, ws, rfl, hb, pb⟩ := (vsT py).tuple
      refine op_catA pins s σ H _ _ v u Q I rx ry ⟨_, _, _, _, rfl, rfl, ha, hb, by rw [pa.length, pb.length]; exact lim_line (by assumption), fun e => ?_, fun e1 e2 => ?_, fun e1 e2 p n => ?_⟩
      · subst e; cases pa; exact q _ _ .refl (vsT py)
      · subst e2; cases pb; exact q _ _ .refl (by rw [List.append_nil]; exact vsT px)
      · exact q _ _ (.upd n) (Rs.tup dm n (pa.append pb))
    · cases h
  · split at h
    · cases h
      obtain ⟨a, vs, rfl, ha, pa⟩ := px.list
      obtain ⟨b, ws, rfl, hb, pb⟩ := py.list
      exact op_cat pins s σ H _ _ v u Q I rx ry ⟨_, _, _, _, rfl, rfl, ha, hb, by rw [pa.length, pb.length]; exact lim_line (by assumption), fun p n => q _ _ (.upd n) (Rs.lst dm n (pa.append pb))⟩
    · cases h
  · cases h; rw [vsI px] at rx; rw [vsI py] at ry
    exact op_sub pins s σ H _ _ v u Q I rx ry ⟨_, _, rfl, rfl, int _ rfl⟩
  · split at h
    · cases h; rw [vsI px] at rx; rw [vsI py] at ry
      exact op_mul pins s σ H _ _ v u Q I rx ry ⟨_, _, rfl, rfl, cmul_of (by assumption), int _ rfl⟩
    · cases h
  · split at h
    · rename_i c
      simp only [Bool.and_eq_true, decide_eq_true_eq] at c
      cases h
      obtain ⟨a, vs, rfl, ha, pa⟩ := (vsT px).tuple
      rw [vsI py] at ry
      refine op_mulT I rx ry ha c.1 c.2.1 (by rw [pa.length]; exact c.2.2) (fun e => ?_) fun p n => q _ _ (.upd n) (Rs.tup dm n (pa.rep _))
      rcases e with rfl | rfl
      · cases pa
        exact q _ _ .refl (by simpa [Rs] using vsT px)
      · exact q _ _ .refl (by simpa [Rs] using vsT px)
    · cases h
  · split at h
    · rename_i c
      simp only [Bool.and_eq_true, decide_eq_true_eq] at c
      cases h
      obtain ⟨a, vs, rfl, ha, pa⟩ := px.list
      rw [vsI py] at ry
      have c1 : _ ≤ LIM := c.1
      have hL : LIM = 16777216 := rfl
      exact op_rep pins s σ H _ _ v u Q I rx ry ⟨_, _, _, rfl, rfl, ha, by omega, by omega, by rw [pa.length]; exact lim_line c.2, fun p n => q _ _ (.upd n) (Rs.lst dm n (pa.rep _))⟩
    · cases h
  · split at h
    · cases h; rw [vsI px] at rx; rw [vsI py] at ry
      exact op_fdivN pins s σ H _ _ v u Q I rx ry ⟨_, _, rfl, rfl, cdiv_of (by assumption), int _ rfl⟩
    · cases h
  · split at h
    · cases h; rw [vsI px] at rx; rw [vsI py] at ry
      exact op_modN pins s σ H _ _ v u Q I rx ry ⟨_, _, rfl, rfl, by assumption, int _ rfl⟩
    · cases h
  · split at h
    · cases h; rw [vsI px] at rx; rw [vsI py] at ry
      exact op_pow pins s σ H _ _ v u Q I rx ry ⟨_, _, rfl, rfl, cpow_of (by assumption), int _ rfl⟩
    · cases h
  · split at h
    · cases h; rw [vsI px] at rx; rw [vsI py] at ry
      exact op_shl pins s σ H _ _ v u Q I rx ry ⟨_, _, rfl, rfl, cpow_of (by assumption), int _ rfl⟩
    · cases h
  · split at h
    · cases h; rw [vsI px] at rx; rw [vsI py] at ry
      exact op_shr pins s σ H _ _ v u Q I rx ry ⟨_, _, rfl, rfl, by assumption, int _ rfl⟩
    · cases h
  · cases h; rw [vsI px] at rx; rw [vsI py] at ry
    exact op_and pins s σ H _ _ v u Q I rx ry ⟨_, _, rfl, rfl, int _ rfl⟩
  · cases h; rw [vsI px] at rx; rw [vsI py] at ry
    exact op_or pins s σ H _ _ v u Q I rx ry ⟨_, _, rfl, rfl, int _ rfl⟩
  · cases h

/-! ### comparisons -/
def cmOf : Cm → CmpOp
  | .eq => .Eq | .ne => .NotEq | .lt => .Lt | .le => .LtE | .gt => .Gt | .ge => .GtE | .isn => .Is | .notn => .IsNot | .mem => .In | .nmem => .NotIn
def rCm (K : PySem.W.Frag) (o : Cm) : R2 := fun x y H Q => ∃ (M : Mk) (u v : D) (k : Bool), VcL o K H M x u ∧ VcR o K H M y v ∧ cmD o u v = some k ∧ Q (.bl k) H
theorem eqD_some {x y : D} {k : Bool} (h : eqD x y = some k) : SeqAt.shaped x = true ∧ SeqAt.shaped y = true ∧ PyData.eqv x y = k := by
  unfold eqD at h
  split at h
  · rename_i c
    rw [Bool.and_eq_true] at c
    exact ⟨c.1, c.2, Option.some.inj h⟩
  · cases h
theorem lex_le_not : ∀ (ns ms : List Int) (i : Nat) (e r : Nat → Bool), (∀ j, j < min ns.length ms.length → e (i + j) = decide (ns.getD j 0 = ms.getD j 0)) →
    (∀ j, j < min ns.length ms.length → r (i + j) = decide (ns.getD j 0 ≤ ms.getD j 0)) → Ob.lexAt e r (decide (ns.length ≤ ms.length)) i (min ns.length ms.length) = !HT.lexLt ms ns
  | [], [], i, e, r, _, _ => by simp [Ob.lexAt, HT.lexLt]
  | [], _ :: _, i, e, r, _, _ => by simp [Ob.lexAt, HT.lexLt]
  | _ :: _, [], i, e, r, _, _ => by simp [Ob.lexAt, HT.lexLt]
  | x :: xs, y :: ys, i, e, r, he, hr => by
    have em : min (x :: xs).length (y :: ys).length = min xs.length ys.length + 1 := by simp only [List.length_cons]; omega
    rw [em] at he hr ⊢
    rw [Ob.lexAt_succ]
    have e0 := he 0 (by omega)
    have r0 := hr 0 (by omega)
    simp only [Nat.add_zero, List.getD_cons_zero] at e0 r0
    have ih := lex_le_not xs ys (i + 1) e r (fun j hj => by
      have := he (j + 1) (by omega)
      rw [show i + (j + 1) = i + 1 + j by omega] at this
      simpa using this) (fun j hj => by
      have := hr (j + 1) (by omega)
      rw [show i + (j + 1) = i + 1 + j by omega] at this
      simpa using this)
    have ed : decide ((x :: xs).length ≤ (y :: ys).length) = decide (xs.length ≤ ys.length) := by simp
    rw [ed, e0, r0]
    unfold HT.lexLt
    by_cases h : x = y
    · subst h; simp [ih]
    · have h' : ¬ y = x := fun z => h z.symm
      simp only [h, h', decide_false, Bool.false_eq_true, if_false]
      rw [Bool.eq_iff_iff]; simp only [decide_eq_true_eq, Bool.not_eq_true', decide_eq_false_iff_not]; omega
theorem va_isn {K : PySem.W.Frag} {H : Hp} {M : Mk} {x : V} {u : D} (p : Va K H M x u) : decide (x = .non) = isNone u := by
  cases u with
  | none => rw [p.none]; rfl
  | bool b => rw [p.bool]; rfl
  | int b => rw [p.int]; rfl
  | str b => rw [p.str]; rfl
  | list b => obtain ⟨a, vs, rfl, _⟩ := p.list; rfl
  | tuple b => obtain ⟨a, vs, rfl, _⟩ := p.tuple; rfl
  | dict ds =>
    rcases p with (p | ⟨a, rfl, c⟩) | ⟨a, ns, e, e2, _⟩
    · cases p <;> rfl
    · rfl
    · cases e2
theorem in_tupD (hu : X.A.units + 65 < cLine) {pins : List (Addr × Obj)} {s : Shared} {σ : L2.St} {H : Hp} {x y : V} {v u : Value} {Q : VK} {d : D} {ds : List D} (I : Inv X pins σ H s) (rx : RelV x v) (ry : RelV y u)
    (hd : Dp X.K H x d) (he : Dp X.K H y (.tuple ds)) (sd : SeqAt.shaped d = true) (se : SeqAt.shaped (.tuple ds) = true) (q : Q (.bl (ds.any fun z => PyData.eqv z d)) H) :
    wpAny (model X.prog X.w) X.A (compareOp .In v u) (EP X pins σ Q) X.xe s := by
  obtain ⟨as, r1⟩ := Dp.reads I d x v hd rx
  obtain ⟨bs, r2⟩ := Dp.reads I (.tuple ds) y u he ry
  exact SeqAt.in_tuple_reads r2 r1 (SeqAt.canLay_of_shaped se) (SeqAt.canLay_of_shaped sd) (room_in_shaped sd hu) ⟨.bl _, H, I, rfl, q⟩
theorem notIn_tupD (hu : X.A.units + 65 < cLine) {pins : List (Addr × Obj)} {s : Shared} {σ : L2.St} {H : Hp} {x y : V} {v u : Value} {Q : VK} {d : D} {ds : List D} (I : Inv X pins σ H s) (rx : RelV x v) (ry : RelV y u)
    (hd : Dp X.K H x d) (he : Dp X.K H y (.tuple ds)) (sd : SeqAt.shaped d = true) (se : SeqAt.shaped (.tuple ds) = true) (q : Q (.bl (!ds.any fun z => PyData.eqv z d)) H) :
    wpAny (model X.prog X.w) X.A (compareOp .NotIn v u) (EP X pins σ Q) X.xe s := by
  obtain ⟨as, r1⟩ := Dp.reads I d x v hd rx
  obtain ⟨bs, r2⟩ := Dp.reads I (.tuple ds) y u he ry
  exact SeqAt.notIn_tuple_reads r2 r1 (SeqAt.canLay_of_shaped se) (SeqAt.canLay_of_shaped sd) (room_in_shaped sd hu) ⟨.bl _, H, I, rfl, q⟩
theorem cm_all (o : Cm) (hu : X.A.units + 65 < cLine) : OpR X (compareOp (cmOf o)) (rCm X.K o) := by
  intro pins s σ H x y v u Q I rx ry ⟨M, d, e, k, px, py, h, q⟩
  unfold cmD at h
  split at h
  · obtain ⟨h1, h2, h3⟩ := eqD_some h
    subst h3
    exact op_eqD (by omega) pins s σ H x y v u Q I rx ry ⟨_, _, px.dp h1, py.dp h2, h1, h2, q⟩
  · rw [Option.map_eq_some_iff] at h
    obtain ⟨k', h, rfl⟩ := h
    obtain ⟨h1, h2, h3⟩ := eqD_some h
    subst h3
    exact op_neD (by omega) pins s σ H x y v u Q I rx ry ⟨_, _, px.dp h1, py.dp h2, h1, h2, q⟩
  · unfold ltD at h
    split at h
    · cases h; rw [px.int] at rx; rw [py.int] at ry
      exact op_lt pins s σ H _ _ v u Q I rx ry ⟨_, _, rfl, rfl, q⟩
    · cases h; rw [px.str] at rx; rw [py.str] at ry
      exact op_lt_str pins s σ H _ _ v u Q I rx ry ⟨_, _, rfl, rfl, q⟩
    · simp only [Option.bind_eq_some_iff] at h
      obtain ⟨ns, e1, ms, e2, e3⟩ := h
      cases e3
      obtain ⟨a, vs, rfl, ha, pa⟩ := px.tuple
      obtain ⟨b, ws, rfl, hb, pb⟩ := py.tuple
      rw [pa.ints_inv e1] at ha
      rw [pb.ints_inv e2] at hb
      exact op_ltT (by omega) pins s σ H _ _ v u Q I rx ry ⟨_, _, _, _, rfl, rfl, ha, hb, q⟩
    · cases h
  · unfold leD at h
    split at h
    · cases h; rw [px.int] at rx; rw [py.int] at ry
      exact op_le pins s σ H _ _ v u Q I rx ry ⟨_, _, rfl, rfl, q⟩
    · simp only [Option.bind_eq_some_iff] at h
      obtain ⟨ns, e1, ms, e2, e3⟩ := h
      cases e3
      obtain ⟨a, vs, rfl, ha, pa⟩ := px.tuple
      obtain ⟨b, ws, rfl, hb, pb⟩ := py.tuple
      rw [pa.ints_inv e1] at ha
      rw [pb.ints_inv e2] at hb
      refine op_leT (by omega) pins s σ H _ _ v u Q I rx ry ⟨_, _, _, _, rfl, rfl, ha, hb, ?_⟩
      rw [lex_le_not ns ms 0 _ _ (fun j _ => by simp) (fun j _ => by simp)]
      exact q
    · cases h
  · cases h; rw [px.int] at rx; rw [py.int] at ry
    exact op_gt pins s σ H _ _ v u Q I rx ry ⟨_, _, rfl, rfl, q⟩
  · cases h; rw [px.int] at rx; rw [py.int] at ry
    exact op_ge pins s σ H _ _ v u Q I rx ry ⟨_, _, rfl, rfl, q⟩
  · cases h; rw [py.none] at ry
    exact op_isN pins s σ H _ _ v u Q I rx ry ⟨rfl, by rw [va_isn px]; exact q⟩
  · cases h; rw [py.none] at ry
    exact op_notN pins s σ H _ _ v u Q I rx ry ⟨rfl, by rw [va_isn px]; exact q⟩
  · cases h; rw [px.bool] at rx; rw [py.bool] at ry
    exact op_is_bl pins s σ H _ _ v u Q I rx ry ⟨_, _, rfl, rfl, q⟩
  · cases h; rw [px.bool] at rx; rw [py.bool] at ry
    exact op_isnot_bl pins s σ H _ _ v u Q I rx ry ⟨_, _, rfl, rfl, q⟩
  · unfold memD at h
    split at h
    · split at h
      · rename_i c
        rw [Bool.and_eq_true] at c
        cases h
        exact op_inD hu pins s σ H _ _ v u Q I rx ry ⟨_, _, px.dp c.1, py.dp c.2, c.1, c.2, q⟩
      · cases h
    · split at h
      · rename_i c
        rw [Bool.and_eq_true] at c
        cases h
        exact in_tupD hu I rx ry (px.dp c.1) (py.dp c.2) c.1 c.2 q
      · cases h
    · rw [Option.map_eq_some_iff] at h
      obtain ⟨ov, e, rfl⟩ := h
      obtain ⟨a, w, rfl, g, f⟩ := dict_get (Vz.va py fun _ z => nomatch z) px e
      cases ry
      exact d_in (by omega) I g rx fun s' J => ⟨.bl _, H, J, rfl, by rw [f.isSome]; exact q⟩
    · cases h
  · rw [Option.map_eq_some_iff] at h
    obtain ⟨k', h, rfl⟩ := h
    unfold memD at h
    split at h
    · split at h
      · rename_i c
        rw [Bool.and_eq_true] at c
        cases h
        exact op_notInD hu pins s σ H _ _ v u Q I rx ry ⟨_, _, px.dp c.1, py.dp c.2, c.1, c.2, q⟩
      · cases h
    · split at h
      · rename_i c
        rw [Bool.and_eq_true] at c
        cases h
        exact notIn_tupD hu I rx ry (px.dp c.1) (py.dp c.2) c.1 c.2 q
      · cases h
    · rw [Option.map_eq_some_iff] at h
      obtain ⟨ov, e, rfl⟩ := h
      obtain ⟨a, w, rfl, g, f⟩ := dict_get (Vz.va py fun _ z => nomatch z) px e
      cases ry
      exact d_notIn (by omega) I g rx fun s' J => ⟨.bl _, H, J, rfl, by rw [f.isSome]; exact q⟩
    · cases h
  · cases h

/-! ### truth, subscripts -/
theorem va_tru {K : PySem.W.Frag} {H : Hp} {M : Mk} {S : Store} {r : R} {x : V} {k : Bool} (h : tru S r = some k) (p : ∀ u, rd S r = some u → Va K H M x u) : TruV K x H k := by
  unfold tru at h
  simp only [Option.bind_eq_some_iff] at h
  obtain ⟨u, e, h⟩ := h
  have q := p u e
  cases u with
  | none => rw [q.none]; cases h; rfl
  | bool b => rw [q.bool]; cases h; rfl
  | int b => rw [q.int]; cases h; rfl
  | str b =>
    rw [q.str]
    simp only at h
    split at h
    · cases h; exact ⟨lim_line (by assumption), rfl⟩
    · cases h
  | list ds =>
    obtain ⟨a, vs, rfl, hs, pa⟩ := q.list
    cases h
    exact .inl ⟨vs, hs, by cases pa <;> rfl⟩
  | tuple ds =>
    obtain ⟨a, vs, rfl, hs, pa⟩ := q.tuple
    cases h
    exact .inr (.inl ⟨vs, hs, by cases pa <;> rfl⟩)
  | dict ds => cases h
theorem atI_pu {K : PySem.W.Frag} {H : Hp} {M : Mk} {vs : List V} {ds : List D} {i : Int} {d : D} (p : PuA K H M vs ds) (h : atI ds i = some d) : ∃ v, atI vs i = some v ∧ Pu K H M v d := by
  unfold atI at h ⊢
  rw [p.length]
  cases e : ixN ds.length i with
  | none => rw [e] at h; cases h
  | some j =>
    rw [e] at h
    obtain ⟨v, h1, h2⟩ := p.get (i := j) (by simpa using h)
    exact ⟨v, by simpa using h1, h2⟩
def rSub (K : PySem.W.Frag) : R2 := fun x y H Q => ∃ (M : Mk) (u v r : D), Vz K H M x u ∧ Va K H M y v ∧ subD u v = some r ∧ ∀ z, Pu K H M z r → Q z H
theorem ix_all (hu : X.A.units + 65 < cLine) : IxR X (rSub X.K) := by
  intro value slice pins s σ H x y v u Q I rx ry ⟨M, d, e, r, px, py, h, q⟩ hs
  unfold subD at h
  split at h
  · obtain ⟨a, vs, rfl, ha, pa⟩ := (px.va fun _ z => nomatch z).list
    rw [py.int] at ry
    obtain ⟨w, h1, h2⟩ := atI_pu pa h
    exact ix_list value slice pins s σ H _ _ v u Q I rx ry ⟨_, _, _, _, rfl, rfl, ha, h1, q _ h2⟩ hs
  · obtain ⟨a, vs, rfl, ha, pa⟩ := px.tuple
    rw [py.int] at ry
    obtain ⟨w, h1, h2⟩ := atI_pu pa h
    exact ix_tup value slice pins s σ H _ _ v u Q I rx ry ⟨_, _, _, _, rfl, rfl, ha, h1, q _ h2⟩ hs
  · rw [(px.va fun _ z => nomatch z).str] at rx
    rw [py.int] at ry
    split at h
    · rw [Option.map_eq_some_iff] at h
      obtain ⟨c, h, rfl⟩ := h
      exact ix_str value slice pins s σ H _ _ v u Q I rx ry ⟨_, _, _, rfl, rfl, lim_line (by assumption), h, q _ (.str _)⟩ hs
    · cases h
  · simp only [Option.bind_eq_some_iff, id] at h
    obtain ⟨o, e1, rfl⟩ := h
    obtain ⟨a, w, rfl, g, f⟩ := dict_get (px.va fun _ z => nomatch z) py e1
    rcases f with ⟨f, _⟩ | ⟨z, d1, rfl, e2, pz⟩
    · cases f
    · cases e2
      cases rx
      exact tail_any (dict_typeIs I g) PySem.F.slot_dict_getitem.lookup (d_getItem (by omega) I g ry fun w' s3 J rw' => ⟨z, H, J, rw', q _ pz⟩) hs
  · cases h
def rSlc (K : PySem.W.Frag) : V → Option Int → Option Int → Hp → VK → Prop := fun x lo hi H Q => ∃ (M : Mk) (u : D) (r : R), Dom H M ∧ Va K H M x u ∧ slcD u lo hi = some r ∧ ∀ z H', Ext H H' → Rs K H H' M r z → Q z H'
theorem cut_pu {K : PySem.W.Frag} {H : Hp} {M : Mk} {vs : List V} {ds : List D} (p : PuA K H M vs ds) (lo hi : Option Int) : PuA K H M (cutV vs lo hi) (cutD ds lo hi) := by
  unfold cutV cutD
  rw [p.length]
  exact (p.drop _).take _
theorem sl_all : SlR X (rSlc X.K) := by
  intro pins s σ H x v vl vu lo hi sl Q I rx hs pl pu ⟨M, d, r, dm, px, h, q⟩
  unfold slcD at h
  split at h
  · cases h
    obtain ⟨a, vs, rfl, ha, pa⟩ := px.list
    exact sl_list pins s σ H _ v vl vu lo hi sl Q I rx hs pl pu ⟨a, vs, rfl, ha, fun p n => q _ _ (.upd n) (Rs.lst dm n (cut_pu pa lo hi))⟩
  · cases h
    rename_i ds
    have pt : Pu X.K H M x (.tuple ds) := px.pu (fun _ z => nomatch z) fun _ z => nomatch z
    obtain ⟨a, vs, rfl, ha, pa⟩ := pt.tuple
    refine sl_tupA pins s σ H _ v vl vu lo hi sl Q I rx hs pl pu ⟨a, vs, rfl, ha, fun e => ?_, fun _ p n => q _ _ (.upd n) (Rs.tup dm n (cut_pu pa lo hi))⟩
    have ee : cutD ds lo hi = ds := by
      unfold cutD
      rw [← pa.length, e.1, e.2, List.drop_zero, Nat.sub_zero, pa.length, List.take_length]
    rw [ee] at q
    exact q _ _ .refl pt
  · split at h
    · cases h
      rw [px.str] at rx
      exact sl_str pins s σ H _ v vl vu lo hi sl Q I rx hs pl pu ⟨_, rfl, lim_line (by assumption), q _ _ .refl (.str _)⟩
    · cases h
  · cases h
end
end Ip

set_option Elab.async false
set_option linter.all false
set_option maxRecDepth 100000
set_option maxHeartbeats 1000000
namespace SrtO
open PySem PyProof.Rows Srt
section
variable {prog : Program} {w : World} {A : Around} {E : Value → Shared → Prop} {s : Shared}
/-- a list or a tuple of these stands there -/
def Sq (g : Heap) (l : Addr) (us : List Value) : Prop := g.IsList l us.toArray ∨ IsTup g l us.toArray
abbrev gath (g : Heap) (us : List Value) : Heap :=
  Heap.update (g.push (seqObj "list" #[] 0))
    g.objs.size (Obj.mapSeq (· ++ us.toArray))
theorem gath_tup {l : Addr} {us : List Value} {R : List Value → Shared → Prop} (ht : IsTup s.heap l us.toArray) (few : us.length ≤ sizeLine)
    (q : R us { s with heap := gath s.heap us }) : wpAny (model prog w) A (collect (.ref l)) R E s := by
  obtain ⟨o, e0, ec, m, ed⟩ := ht
  have e1 : (s.heap.push (seqObj "list" #[] 0)).get? l = some o := Heap.get?_push_of_some _ e0
  have e2 : (s.heap.push (seqObj "list" #[] 0)).get? s.heap.objs.size = some (seqObj "list" #[] 0) := Heap.get?_push_size _ rfl
  have isl : (Value.type "tuple" == Value.type "tuple") = true := by rfl
  have room : ((#[] : Array Value) ++ us.toArray).size ≤ sizeLine + 1 := by
    rw [Array.size_append, List.size_toArray]
    show 0 + us.length ≤ sizeLine + 1
    omega
  unfold collect
  apply wpAny_bind
  apply wpAny_runValue
  apply codeAny_builtin entry_proto_collect'
  show wpAny _ _ (do again (.builtin "list.__iadd__" ⟨[← newList [], .ref l], []⟩)) _ _ s
  refine wpAny_bind (wpAny_newList (wpAny_pure ?_) (Nat.zero_le _))
  refine ⟨Code.quiet_builtin _ (by decide +kernel), ?_⟩
  apply codeAny_builtin entry_list_iadd'
  show wpAny _ _ (Builtin.List.listExtendWith (.ref s.heap.objs.size) (.ref l) (.ref s.heap.objs.size)) _ _
      { s with heap := s.heap.push (seqObj "list" #[] 0) }
  unfold Builtin.List.listExtendWith
  refine wpAny_bind (wpAny_typeOf (T := "tuple") (v := .ref l) ⟨o, e1, ec⟩ ?_)
  rw [if_pos (by rw [isl]; simp)]
  apply wpAny_bind
  apply listItems_at e1 ed
  apply wpAny_bind
  apply listItems_at e2 rfl
  rw [if_neg (by simp)]
  apply wpAny_bind
  refine listUpdate_at e2 rfl ?_ (Nat.zero_le _) room
  apply wpAny_pure
  show wpAny (model prog w) A (do
      let b ← load s.heap.objs.size
      match b.data with
      | .seq xs _ => pure xs.toList
      | _ => unsupported "internal:collect") R E
      { s with heap := gath s.heap us }
  apply wpAny_bind
  refine wpAny_load (get?_update_seq e2 _) ?_
  show wpAny _ _ (pure ((#[] : Array Value) ++ us.toArray).toList) R E _
  have : ((#[] : Array Value) ++ us.toArray).toList = us := by simp
  rw [this]
  exact wpAny_pure q
theorem gath_sq {l : Addr} {us : List Value} {R : List Value → Shared → Prop} (h : Sq s.heap l us) (few : us.length ≤ sizeLine)
    (q : R us { s with heap := gath s.heap us }) : wpAny (model prog w) A (collect (.ref l)) R E s := by
  rcases h with h | h
  · exact collect_list h q few
  · exact gath_tup h few q
/-- sorted(x), x a list or a tuple -/
theorem sorted_sq {l : Addr} {us : List Value} {lt : Value → Value → Bool} {R : Value → Shared → Prop} (O : Swo lt) (hx : Sq s.heap l us) (few : us.length ≤ sizeLine)
    (can : 2 ≤ us.length → ∀ (g : Heap) (a : Addr), g.get? a = some (seqObj "list" us.toArray 0) →
      (∀ b o, s.heap.get? b = some o → b ≠ a ∧ g.get? b = some o) → SortableO prog w A.in1.in1 { s with heap := g } a us lt)
    (q : ∀ out : List Value, Srtd lt out → Stb lt out us →
      R (.ref (s.heap.objs.size + 1)) { s with heap := sortedAll s.heap us out.toArray }) :
    wpAny (model prog w) A (call (.builtin "sorted") [.ref l]) R E s := by
  have sz : (gath s.heap us).objs.size = s.heap.objs.size + 1 := by
    unfold gath
    rw [Heap.size_update, size_push']
  have at1 : ((gath s.heap us).push (seqObj "list" us.toArray 0)).get? (s.heap.objs.size + 1) = some (seqObj "list" us.toArray 0) := by
    rw [← sz]
    exact Heap.get?_push_size _ rfl
  have kp : ∀ b o, s.heap.get? b = some o → b ≠ s.heap.objs.size + 1 ∧ ((gath s.heap us).push (seqObj "list" us.toArray 0)).get? b = some o := by
    intro b o e
    have lt : b < s.heap.objs.size := Heap.lt_size e
    refine ⟨Nat.ne_of_lt (Nat.lt_succ_of_lt lt), ?_⟩
    apply Heap.get?_push_of_some
    unfold gath
    rw [Heap.get?_update_ne _ _ _ _ (Nat.ne_of_lt lt)]
    exact Heap.get?_push_of_some _ e
  apply Calls.call_function_entry kind_sorted plain_sorted entry_sorted (args_sorted1 _)
  unfold Builtin.«sorted»
  apply wpAny_bind (m := checkCount "sorted" 1 1 _)
  apply wpAny_pure
  apply wpAny_bind
  apply gath_sq hx few
  apply wpAny_bind
  refine wpAny_newList ?_ few
  show wpAny _ _ _ _ _ { s with heap := (gath s.heap us).push (seqObj "list" us.toArray 0) }
  rw [sz]
  apply wpAny_bind
  apply wpAny_holding
  refine wpAny_call_entry slot_list_sort ⟨_, at1, rfl⟩ entry_list_sort ?_ (args_list_sort _)
  refine list_sort_ord O at1 few (fun two => can two _ _ at1 kp) fun out so st => ⟨_, rfl, ?_⟩
  exact wpAny_pure ⟨_, rfl, q out so st⟩
end
end SrtO
/-! sorted of tuples of whole numbers, of any length and number. -/
namespace Ip
open PySem PySem.Spec PyProof.Rows L2

theorem lex_asym : ∀ xs ys : List Int, HT.lexLt xs ys = true → HT.lexLt ys xs = false
  | [], [], h => by simp [HT.lexLt] at h
  | [], _ :: _, _ => rfl
  | _ :: _, [], h => by simp [HT.lexLt] at h
  | x :: xs, y :: ys, h => by
    rw [HT.lexLt_cons] at h ⊢
    by_cases e : x = y
    · rw [if_pos e] at h; rw [if_pos e.symm]; exact lex_asym xs ys h
    · rw [if_neg e] at h; rw [if_neg (fun z => e z.symm)]
      have := of_decide_eq_true h
      exact decide_eq_false (by omega)
theorem lex_ntr : ∀ xs ys zs : List Int, HT.lexLt xs ys = false → HT.lexLt ys zs = false → HT.lexLt xs zs = false
  | [], [], [], _, _ => rfl
  | [], [], _ :: _, _, h => by simp [HT.lexLt] at h
  | [], _ :: _, _, h, _ => by simp [HT.lexLt] at h
  | _ :: _, _, [], _, _ => rfl
  | _ :: _, [], _ :: _, _, h => by simp [HT.lexLt] at h
  | x :: xs, y :: ys, z :: zs, h1, h2 => by
    rw [HT.lexLt_cons] at h1 h2 ⊢
    by_cases e : x = y
    · subst e
      rw [if_pos rfl] at h1
      by_cases e2 : x = z
      · subst e2
        rw [if_pos rfl] at h2 ⊢
        exact lex_ntr xs ys zs h1 h2
      · rw [if_neg e2] at h2 ⊢; exact h2
    · rw [if_neg e] at h1
      have a := of_decide_eq_false h1
      by_cases e2 : y = z
      · subst e2
        rw [if_neg e]; exact h1
      · rw [if_neg e2] at h2
        have b := of_decide_eq_false h2
        rw [if_neg (by omega)]
        exact decide_eq_false (by omega)
/-- equal by the order: equal -/
theorem lex_eq : ∀ xs ys : List Int, HT.lexLt xs ys = false → HT.lexLt ys xs = false → xs = ys
  | [], [], _, _ => rfl
  | [], _ :: _, h, _ => by simp [HT.lexLt] at h
  | _ :: _, [], _, h => by simp [HT.lexLt] at h
  | x :: xs, y :: ys, h1, h2 => by
    rw [HT.lexLt_cons] at h1 h2
    by_cases e : x = y
    · subst e
      rw [if_pos rfl] at h1 h2
      rw [lex_eq xs ys h1 h2]
    · rw [if_neg e] at h1; rw [if_neg (fun z => e z.symm)] at h2
      have := of_decide_eq_false h1
      have := of_decide_eq_false h2
      omega
theorem swo_lexI {α : Type} (k : α → List Int) : SrtO.Swo fun v u => HT.lexLt (k v) (k u) :=
  ⟨fun _ _ h => lex_asym _ _ h, fun x y z h1 h2 => lex_ntr (k z) (k y) (k x) h2 h1⟩

section
variable {prog : Program} {w : World} {A : Around} {E : Value → Shared → Prop} {s : Shared}
theorem kl_ints {Q : Bool → Shared → Prop} {b fin : Bool} {xs ys : List Value} {ns ms : List Int} (i : Nat) (hx : IntsAre xs ns) (hy : IntsAre ys ms) (hf : fin = decide (ns.length < ms.length))
    (h : Q (HT.lexLt ns ms) s) : PySem.W.KatLex prog w A b fin Q (xs.zip ys) i s := by
  induction hx generalizing ys ms i with
  | nil =>
    refine PySem.W.kat_nil ?_
    cases hy with
    | nil => rw [hf]; exact h
    | cons q u hy => rw [hf]; exact h
  | @cons p t xs ns hx ih =>
    cases hy with
    | nil => refine PySem.W.kat_nil ?_; rw [hf]; exact h
    | @cons q u ys ms hy =>
      show PySem.W.KatLex prog w A b fin Q ((Value.int p t, Value.int q u) :: xs.zip ys) i s
      refine PySem.W.kat_cons (wpAny_eqBool_int ?_)
      rw [HT.lexLt_cons] at h
      by_cases e : p = q
      · subst e
        rw [beq_self_eq_true]
        rw [if_pos rfl] at h
        refine PySem.W.kat_yes (ih (i + 1) hy ?_ h)
        rw [hf]; simp
      · rw [show (p == q) = false from beq_eq_false_iff_ne.mpr e]
        rw [if_neg e] at h
        exact PySem.W.kat_no (TS.oneLt_ints _ h)
def IsTI (h : Heap) (k : Value → List Int) (vs : List Value) : Prop := ∀ v ∈ vs, TS.TupInts h v (k v) ∧ k v ≠ []
theorem firsts_ti {h : Heap} {k : Value → List Int} : ∀ vs : List Value, IsTI h k vs → ∃ fs, PySem.W.KatTups h vs fs ∧ fs.length = vs.length ∧ ∀ f, f ∈ fs → ∃ n t, f = Value.int n t
  | [], _ => ⟨[], PySem.W.KatTups.nil, rfl, fun f hf => by simp at hf⟩
  | v :: vs, x => by
    obtain ⟨fs, kk, hl, hi⟩ := firsts_ti vs fun u hu => x u (List.mem_cons_of_mem _ hu)
    obtain ⟨⟨a, xs, e0, ⟨o, ho, hc, n, hdt⟩, i⟩, hn⟩ := x v (List.mem_cons_self ..)
    subst e0
    obtain ⟨y, ys, e⟩ : ∃ y ys, xs.toList = y :: ys := by
      cases q : xs.toList with
      | nil =>
        rw [q] at i
        have l := i.length
        rw [List.length_nil] at l
        exact absurd (List.eq_nil_of_length_eq_zero l.symm) hn
      | cons y ys => exact ⟨y, ys, rfl⟩
    obtain ⟨m, t, hy⟩ := i.all y (by rw [e]; exact List.mem_cons_self ..)
    refine ⟨y :: fs, PySem.W.KatTups.cons ho hc hdt ?_ kk, by simp [hl], ?_⟩
    · have z := congrArg (fun l : List Value => l[0]?) e
      simpa using z
    · intro f hf
      rcases List.mem_cons.mp hf with rfl | hf
      · exact ⟨m, t, hy⟩
      · exact hi f hf
theorem ti_cmp {vs : List Value} {k : Value → List Int} (hp : IsTI s.heap k vs) : SrtO.Cmp prog w A s (tuples' true) (fun p => p.1 ∈ vs) (SrtO.lt2 fun v u => HT.lexLt (k v) (k u)) := by
  intro p q hm hm'
  obtain ⟨h1, _⟩ := hp _ hm
  obtain ⟨h2, _⟩ := hp _ hm'
  show wpAny (model prog w) A (keyLt' (tuples' true) p.1 q.1) (fun r s' => s' = s ∧ r = HT.lexLt (k p.1) (k q.1)) (fun _ _ => False) s
  generalize k p.1 = x at h1 ⊢
  generalize k q.1 = y at h2 ⊢
  obtain ⟨a, xs, e, ⟨o, ho, hc, n, hd⟩, i1⟩ := h1
  obtain ⟨a', xs', e', ⟨o', ho', hc', n', hd'⟩, i2⟩ := h2
  rw [e, e']
  refine PySem.W.kat_lt ho hd ho' hd' (kl_ints 0 i1 i2 ?_ ⟨rfl, rfl⟩)
  have l1 := i1.length
  have l2 := i2.length
  rw [Array.length_toList] at l1 l2
  rw [← l1, ← l2]
theorem ti_sortable {a : Addr} {vs : List Value} {k : Value → List Int} (h0 : 0 < vs.length) (hp : IsTI s.heap k vs) (ha : ∀ o, s.heap.get? a = some o → o.cls ≠ .type "tuple") : SrtO.SortableO prog w A s a vs fun v u => HT.lexLt (k v) (k u) := by
  intro h' keep
  have hp' : IsTI h' k vs := fun v hm => ⟨(hp v hm).1.keeps fun b o e c => keep b o (fun z => by subst z; exact ha o e c) e, (hp v hm).2⟩
  obtain ⟨fs, h1, h2, h3⟩ := firsts_ti vs hp'
  refine ⟨tuples' true, fun Q E hq => ?_, ti_cmp hp'⟩
  refine PySem.W.kat_kind (T := .type "int") h1 (by omega) (fun f hm => ?_) (by rfl) ?_
  · obtain ⟨x, t, rfl⟩ := h3 f hm
    exact PySem.W.Looks.of_pure rfl
  · have e : (Value.type "int" != Value.type "tuple") = true := by first | decide +kernel | rfl | decide
    rw [e]
    exact hq
theorem sorted_ti {l : Addr} {vs : List Value} {k : Value → List Int} {Q : Value → Shared → Prop} (hl : SrtO.Sq s.heap l vs) (hz : vs.length ≤ sizeLine) (hp : IsTI s.heap k vs)
    (h : ∀ (h' : Heap) (d : Addr) (out : List Value), SrtO.Srtd (fun v u => HT.lexLt (k v) (k u)) out → SrtO.Stb (fun v u => HT.lexLt (k v) (k u)) out vs → (∀ b o, s.heap.get? b = some o → h'.get? b = some o) → s.heap.objs.size ≤ d → (∃ n, h'.get? d = some (seqObj "list" out.toArray n)) → Q (.ref d) { s with heap := h' }) :
    wpAny (model prog w) A (call (.builtin "sorted") [.ref l]) Q E s := by
  refine SrtO.sorted_sq (swo_lexI k) hl hz (fun h2 h₁ a ha kk => ?_) fun out hs hb => ?_
  · refine ti_sortable (s := { s with heap := h₁ }) (by omega) (fun v hm => ⟨(hp v hm).1.keeps fun b o e _ => (kk b o e).2, (hp v hm).2⟩) fun o e => ?_
    have e' : some o = some (seqObj "list" vs.toArray 0) := e.symm.trans ha
    cases e'
    intro c
    exact absurd (Value.type.inj c) (by decide)
  · exact h _ _ out hs hb (fun b o e => PyProof.Rows.sortedAll_old e) (Nat.le_succ _) (PyProof.Rows.sortedAll_at s.heap vs out.toArray)
end
end Ip
namespace Ip
open PySem PySem.Spec PyProof.Rows L2
theorem ints_vals : ∀ {ns : List Int} {us : List Value}, Vals (ns.map V.int) us → IntsAre us ns
  | [], _, .nil => .nil
  | n :: ns, _, .cons r t => by
    obtain ⟨tk, rfl⟩ := r
    exact .cons n tk (ints_vals t)
/-- sorted(xs), xs a list of tuples of ints, none of them empty -/
def rSortedTI (K : PySem.W.Frag) : List V → Hp → VK → Prop := fun vs H Q => ∃ (a : Addr) (xs : List V) (k : V → List Int), vs = [V.ref a] ∧ SqL K H a xs ∧ (∀ x ∈ xs, ∃ t, x = V.ref t ∧ SqT K H t ((k x).map V.int) ∧ k x ≠ []) ∧
  ∀ ys p, SrtO.Srtd (fun x y => HT.lexLt (k x) (k y)) ys → SrtO.Stb (fun x y => HT.lexLt (k x) (k y)) ys xs → H p = none → Q (.ref p) (upd H p (.lst ys))
theorem cr_sortedTI {X : Cx} : CallR X (.builtin "sorted") (rSortedTI X.K) := by
  intro pins s σ H vs us Q I r h
  obtain ⟨a, xs, k, rfl, hs, hx, q⟩ := h
  obtain ⟨its, rv, hl, hz⟩ := I.list hs
  obtain ⟨u, rfl, ru⟩ := vals1 r
  obtain rfl : u = Value.ref a := ru
  obtain ⟨e1, e2⟩ := refs_back rv fun x m => by
    obtain ⟨t, e, _⟩ := hx x m
    exact ⟨t, e⟩
  refine sorted_ti (k := fun u => k (backV u)) (.inl hl.isList) (by rw [← rv.length]; exact hz) (fun v hv => ?_) fun h' d out h1 h2 kp hd hn => ?_
  · obtain ⟨t, rfl⟩ := e2 v hv
    have hm : V.ref t ∈ xs := by rw [e1]; exact List.mem_map.mpr ⟨_, hv, rfl⟩
    obtain ⟨t', e, ht, hne⟩ := hx _ hm
    cases e
    obtain ⟨its2, r2, ht2, _⟩ := I.tuple ht
    exact ⟨⟨t, its2.toArray, rfl, ht2, (by have z := ints_vals r2; simpa using (show IntsAre its2 (k (backV (Value.ref t))) from z))⟩, hne⟩
  · have h3 : ∀ u ∈ out, ∃ a, u = Value.ref a := fun u hu => e2 u (h2.perm.mem_iff.mp hu)
    obtain ⟨n, hn⟩ := hn
    have hb : SrtO.Stb (fun x y => HT.lexLt (k x) (k y)) (out.map backV) xs := by
      rw [e1]
      exact SrtO.Stb.map (swo_lexI k) backV h2
    refine ⟨.ref d, upd H d (.lst (out.map backV)), I.laid (t' := s.toks) kp hd ⟨?_, out, n, vals_back h3, hn⟩, rfl, q _ d (SrtO.srtd_map h1) hb (I.hok.fresh hd)⟩
    rw [hb.len]
    exact hz
end Ip
namespace Ip
open PySem PySem.Spec PyProof.Rows L2
theorem insT_perm (n : List Int) : ∀ l, (insT n l).Perm (n :: l)
  | [] => .refl _
  | m :: r => by
    unfold insT
    split
    · exact ((insT_perm n r).cons m).trans (.swap n m r)
    · exact .refl _
theorem sortT_perm : ∀ l, (sortT l).Perm l
  | [] => .refl _
  | n :: r => (insT_perm n (sortT r)).trans ((sortT_perm r).cons n)
abbrev leT (x y : List Int) : Prop := HT.lexLt y x = false
theorem leT_trans {x y z : List Int} (h1 : leT x y) (h2 : leT y z) : leT x z := lex_ntr _ _ _ h2 h1
theorem insT_sorted (n : List Int) : ∀ l, l.Pairwise leT → (insT n l).Pairwise leT
  | [], _ => by simp [insT]
  | m :: r, h => by
    unfold insT
    obtain ⟨h1, h2⟩ := List.pairwise_cons.mp h
    split
    · rename_i c
      refine List.pairwise_cons.mpr ⟨fun y hy => ?_, insT_sorted n r h2⟩
      rcases List.mem_cons.mp ((insT_perm n r).mem_iff.mp hy) with rfl | hy
      · exact lex_asym _ _ c
      · exact h1 y hy
    · rename_i c
      have c' : leT n m := by simpa using c
      exact List.pairwise_cons.mpr ⟨fun y hy => by
        rcases List.mem_cons.mp hy with rfl | hy
        · exact c'
        · exact leT_trans c' (h1 y hy), h⟩
theorem sortT_sorted : ∀ l, (sortT l).Pairwise leT
  | [] => .nil
  | n :: r => insT_sorted n _ (sortT_sorted r)
theorem sortT_uniq {ns l : List (List Int)} (p : ns.Perm l) (h : ns.Pairwise leT) : ns = sortT l :=
  List.Perm.eq_of_pairwise (fun _ _ _ _ a b => lex_eq _ _ b a) h (sortT_sorted l) (p.trans (sortT_perm l).symm)
theorem tupsOf_map : ∀ {ds : List D} {ks : List (List Int)}, tupsOf ds = some ks → ds = ks.map tupI ∧ ∀ k ∈ ks, k ≠ []
  | [], _, e => by cases e; exact ⟨rfl, fun _ h => by cases h⟩
  | .tuple xs :: r, ks, e => by
    simp only [tupsOf, Option.bind_eq_some_iff] at e
    obtain ⟨ns, e1, e⟩ := e
    cases ns with
    | nil => cases e
    | cons n ns =>
      simp only [Option.map_eq_some_iff] at e
      obtain ⟨ms, e2, rfl⟩ := e
      obtain ⟨h1, h2⟩ := tupsOf_map e2
      refine ⟨by rw [intsOf_map e1, h1]; rfl, fun k hk => ?_⟩
      rcases List.mem_cons.mp hk with rfl | hk
      · simp
      · exact h2 k hk
  | .none :: _, _, e | .bool _ :: _, _, e | .int _ :: _, _, e | .str _ :: _, _, e | .list _ :: _, _, e | .dict _ :: _, _, e => by cases e
theorem _root_.L2.Inv.sq {X : Cx} {pins : List (Addr × Obj)} {s : Shared} {σ : L2.St} {H : Hp} {a : Addr} {xs : List V} (I : Inv X pins σ H s) (hs : SqL X.K H a xs ∨ SqT X.K H a xs) : ∃ its : List Value, Vals xs its ∧ SrtO.Sq s.heap a its ∧ xs.length ≤ sizeLine := by
  rcases hs with hs | hs
  · obtain ⟨its, rv, hl, hz⟩ := I.list hs
    exact ⟨its, rv, .inl hl.isList, hz⟩
  · obtain ⟨its, rv, hl, hz⟩ := I.tuple hs
    exact ⟨its, rv, .inr hl, hz⟩
/-- sorted(xs) of ints, a list or a tuple -/
theorem sorted_intsQ {X : Cx} {pins : List (Addr × Obj)} {s : Shared} {σ : L2.St} {H : Hp} {a : Addr} {ns : List Int} {Q : VK} (I : Inv X pins σ H s) (hs : SqL X.K H a (ns.map V.int) ∨ SqT X.K H a (ns.map V.int))
    (q : ∀ (ns' : List Int) (p : Addr), ns'.Perm ns → ns'.Pairwise (· ≤ ·) → H p = none → Q (.ref p) (upd H p (.lst (ns'.map V.int)))) :
    wpAny (model X.prog X.w) X.A (call (.builtin "sorted") [.ref a]) (fun v s' => ∃ x H', Inv X pins σ H' s' ∧ RelV x v ∧ Q x H') X.xe s := by
  obtain ⟨its, rv, hl, hz⟩ := I.sq hs
  have hi := rv.ints
  refine SrtO.sorted_sq SrtO.swo_int hl (by rw [← rv.length]; exact hz) (fun two g a' _ _ => SrtO.ints_sortable hi two) fun out o1 o2 => ?_
  obtain ⟨k1, k2, k3⟩ := SrtO.ints_out hi o1 o2
  obtain ⟨ep, e⟩ := PyProof.Rows.sortedAll_at s.heap its out.toArray
  have few : ((out.map SrtO.iv).map V.int).length ≤ sizeLine := by
    rw [List.length_map, k2.length_eq]
    rwa [List.length_map] at hz
  refine ⟨.ref _, upd H (s.heap.objs.size + 1) (.lst ((out.map SrtO.iv).map V.int)), ?_, rfl, q _ _ k2 k3 (I.hok.fresh (Nat.le_succ _))⟩
  exact I.laid (t' := s.toks) (fun _ _ => PyProof.Rows.sortedAll_old) (Nat.le_succ _) ⟨few, out, ep, vals_of_ints k1, e⟩
/-- sorted(xs) of data -/
theorem sorted_tups {X : Cx} {M : Mk} {pins : List (Addr × Obj)} {s : Shared} {σ : L2.St} {H : Hp} {a : Addr} {xs : List V} {ks : List (List Int)} {Q : VK} (I : Inv X pins σ H s) (hs : SqL X.K H a xs ∨ SqT X.K H a xs)
    (pa : PuA X.K H M xs (ks.map tupI)) (hne : ∀ k ∈ ks, k ≠ []) (q : ∀ ys p, H p = none → PuA X.K H M ys ((sortT ks).map tupI) → Q (.ref p) (upd H p (.lst ys))) :
    wpAny (model X.prog X.w) X.A (call (.builtin "sorted") [.ref a]) (fun v s' => ∃ x H', Inv X pins σ H' s' ∧ RelV x v ∧ Q x H') X.xe s := by
  obtain ⟨its, rv, hl, hz⟩ := I.sq hs
  -- what each one is
  have key : ∀ {xs : List V} {its : List Value} {ks : List (List Int)}, Vals xs its → PuA X.K H M xs (ks.map tupI) → (∀ k ∈ ks, k ≠ []) →
      its.map (TS.intsOf s.heap) = ks ∧ ∀ u ∈ its, (∃ t, u = Value.ref t) ∧ Pu X.K H M (backV u) (tupI (TS.intsOf s.heap u)) ∧ TS.TupInts s.heap u (TS.intsOf s.heap u) ∧ TS.intsOf s.heap u ≠ [] := by
    intro xs
    induction xs with
    | nil => intro its ks rv pa _; cases rv; cases ks with
      | nil => exact ⟨rfl, fun _ h => by cases h⟩
      | cons k ks => cases pa
    | cons x xs ih =>
      intro its ks rv pa hn
      cases rv with
      | cons r rv =>
        cases ks with
        | nil => cases pa
        | cons k ks =>
          rw [List.map_cons] at pa
          cases pa with
          | cons p pa =>
            obtain ⟨h1, h2⟩ := ih rv pa fun k' hk => hn k' (List.mem_cons_of_mem _ hk)
            obtain ⟨t, vs, rfl, st, pv⟩ := Pu.tuple p
            have ev : vs = k.map V.int := pv.ints_inv (by
              have : ∀ ns : List Int, intsOf (ns.map PyData.int) = some ns := fun ns => by
                induction ns with
                | nil => rfl
                | cons n ns ih => simp [intsOf, ih]
              exact this k)
            subst ev
            obtain ⟨its2, r2, ht2, _⟩ := I.tuple st
            obtain rfl : _ = Value.ref t := r
            have ti : TS.TupInts s.heap (.ref t) k := ⟨t, its2.toArray, rfl, ht2, by simpa using ints_vals r2⟩
            have e := ti.ints
            refine ⟨by rw [List.map_cons, h1, e], fun u hu => ?_⟩
            rcases List.mem_cons.mp hu with rfl | hu
            · rw [e]
              exact ⟨⟨t, rfl⟩, p, ti, hn k (List.mem_cons_self ..)⟩
            · exact h2 u hu
  obtain ⟨e1, h2⟩ := key rv pa hne
  refine sorted_ti (k := TS.intsOf s.heap) hl (by rw [← rv.length]; exact hz) (fun v hv => ⟨(h2 v hv).2.2.1, (h2 v hv).2.2.2⟩) fun h' d out o1 o2 kp hd hn => ?_
  have m : ∀ u ∈ out, u ∈ its := fun u hu => o2.perm.mem_iff.mp hu
  have h3 : ∀ u ∈ out, ∃ a, u = Value.ref a := fun u hu => (h2 u (m u hu)).1
  obtain ⟨n, hn⟩ := hn
  have es : out.map (TS.intsOf s.heap) = sortT ks := sortT_uniq (by rw [← e1]; exact o2.perm.map _) (List.pairwise_map.mpr o1)
  have pd : PuA X.K H M (out.map backV) ((sortT ks).map tupI) := by
    rw [← es, List.map_map]
    clear es o1 o2 hn
    induction out with
    | nil => exact .nil
    | cons u out ih => exact .cons (h2 u (m u (List.mem_cons_self ..))).2.1 (ih (fun z hz => m z (List.mem_cons_of_mem _ hz)) fun z hz => h3 z (List.mem_cons_of_mem _ hz))
  refine ⟨.ref d, upd H d (.lst (out.map backV)), I.laid (t' := s.toks) kp hd ⟨?_, out, n, vals_back h3, hn⟩, rfl, q _ d (I.hok.fresh hd) pd⟩
  rw [List.length_map, o2.len, ← rv.length]
  exact hz
end Ip

set_option Elab.async false
set_option linter.all false
set_option maxRecDepth 100000
set_option maxHeartbeats 4000000
/-! set of a list, of a tuple of whole numbers. -/
namespace Ip
open PySem PySem.Spec PyProof.Rows L2
section
variable {P : Program} {w : World} {A : Around} {E : Value → Shared → Prop} {s : Shared}
/-- a set just made -/
abbrev so0 (w : World) : Obj :=
  { cls := .type "set", dict := none, data := .set #[] 0 (.fresh 0 0 (!w.params.followText "set-order")) }
abbrev hs0 (w : World) (g : Heap) : Heap := g.push (so0 w)
theorem set_listI {l : Addr} {xs : Array Value} (ns : List Int) {R : Value → Shared → Prop}
    (calm : A.handled = none) (isl : s.heap.IsList l xs) (are : IntsAre xs.toList ns) (few : ns.length + 1 < scanBound)
    (q : ∀ (g : Heap) (tk c : Nat), SetR w g s.heap.objs.size (fun j => decide (j ∈ ns)) c → c ≤ ns.length →
      (∀ b o, s.heap.get? b = some o → g.get? b = some o) → R (.ref s.heap.objs.size) { s with heap := g, toks := tk }) :
    wpAny (model P w) A (call (.type "set") [.ref l]) R E s := by
  have sz : xs.size = ns.length := by
    have z := IntsAre.length are
    rwa [Array.length_toList] at z
  obtain ⟨c0, tl0, mro0⟩ := F.called_set.mro
  have m1 := F.called_set.made
  have m2 := F.called_set.sub
  apply wpAny_call
  apply codeAny_of_tree
  show wpAny _ _ (callAny (.type "set") _) _ _ _
  apply wpAny_pure
  refine ⟨Code.quiet_builtin _ (by decide +kernel), ?_⟩
  apply codeAny_builtin F.entry_type_call
  rw [Around.under_plain (weight_type_call_type "set" [.ref l] []) rfl]
  have m3 := F.called_set.notType
  have m4 := F.called_set.canCreate
  have m5 := F.typeCall_set_1 (.ref l)
  repeat (any_goals (first | assumption | wp_step))
  refine codeAny_mono (code_set_led1 (.ref l) (E := E)
    (Q₁ := fun y s1 => y = .ref s.heap.objs.size ∧ s1 = { s with heap := hs0 w s.heap }) ⟨rfl, rfl⟩) fun r s1 hr => ?_
  cases r with
  | error e => exact hr
  | ok fl =>
    cases fl with
    | ret y =>
      obtain ⟨rfl, rfl⟩ := hr
      have at0 : (hs0 w s.heap).get? s.heap.objs.size = some (so0 w) := Heap.get?_push_size _ rfl
      have ty0 : Shared.TypeIs { s with heap := hs0 w s.heap } (.ref s.heap.objs.size) "set" := ⟨_, at0, rfl⟩
      have n1 := F.called_set.init.lookup
      have n2 := F.called_set.init.bind (.ref s.heap.objs.size)
      repeat (any_goals (first | assumption | wp_step))
      refine codeAny_mono (codeAny_call_builtin
        (R := wants (fun r s2 => r = .none ∧ ∃ g tk c, s2 = { s with heap := g, toks := tk } ∧
          SetR w g s.heap.objs.size (fun j => decide (j ∈ ns)) c ∧ c ≤ ns.length ∧
          ∀ b o, s.heap.get? b = some o → g.get? b = some o) E)
        F.called_set.init.plain F.entry_set_init (check_set_init_1 ty0 ?_)) fun r2 s2 hr2 => ?_
      · obtain ⟨⟨oc, od, oda, osl⟩, eo, ec, k, ed⟩ := isl
        simp only at ec ed
        subst ec
        subst ed
        have eo1 : (hs0 w s.heap).get? l = some { cls := .type "list", dict := od, data := .seq xs k, slots := osl } :=
          Heap.get?_push_of_some _ eo
        have su1 := F.sub_list_set
        have su2 := F.sub_list_frozenset
        have nd : (Value.type "list" == Value.type "dict") = false := by decide
        have isl1 : (hs0 w s.heap).IsList l xs := ⟨_, eo1, rfl, k, rfl⟩
        unfold Builtin.«set.__init__» noKeywords Builtin.Frozenset.updateFrom
        generalize iter0 : pyIter = PI
        wp_walk
        subst iter0
        apply wpAny_pyIter_list isl1
        apply wpAny_bind
        apply wpAny_runValue
        have lt : l < s.heap.objs.size := Heap.lt_size eo
        have calm3 : A.in1.in1.in1.handled = none := by simp [calm]
        have sz1 : (hs0 w s.heap).objs.size = s.heap.objs.size + 1 := Heap.size_push ..
        have ne1 : l ≠ (hs0 w s.heap).objs.size := by
          rw [sz1]
          exact Nat.ne_of_lt (Nat.lt_succ_of_lt lt)
        have nin : s.heap.objs.size ∉ [(hs0 w s.heap).objs.size, l] := by
          rw [sz1]
          intro z
          rcases List.mem_cons.mp z with z | z
          · exact absurd z (Nat.ne_of_lt (Nat.lt_succ_self _))
          · exact absurd (List.mem_singleton.mp z) (Nat.ne_of_gt lt)
        have val : ∀ (i : Nat) (v : Value), xs[i]? = some v → ∃ k t, ns[i]? = some k ∧ v = .int k t := by
          intro i v hv
          have hi : i < ns.length := by
            rw [← sz]
            exact (Array.getElem?_eq_some_iff.mp hv).1
          obtain ⟨t, e⟩ := IntsAre.int_at are i v (by rw [Array.getElem?_toList]; exact hv)
          refine ⟨ns[i], t, List.getElem?_eq_getElem hi, ?_⟩
          rw [e, List.getD_eq_getElem?_getD, List.getElem?_eq_getElem hi]
          rfl
        have at1 : ((hs0 w s.heap).push { cls := .type "list_iterator", data := .fields #[.ref l, .int 0 0] }).get? s.heap.objs.size = some (so0 w) :=
          Heap.get?_push_of_some _ at0
        refine set_update_ints ((Walks.list calm3 _ l ne1 xs).toS) s.heap.objs.size nin ns sz few val (xs.size - 0) 0 _ (by omega) (Nat.zero_le _)
          ⟨⟨_, Heap.get?_push_size _ rfl, rfl, rfl⟩, isl1.push _⟩ ⟨0, Nat.le_refl 0, setR_new_at at1⟩ ?_
        intro s3 c3 mv hc3 hS3
        obtain ⟨g3, gn3, dr3, tk3, os3⟩ := s3
        have a1 : gn3 = s.gens := mv.gens
        have a2 : dr3 = s.drawn := mv.drawn
        have a3 : os3 = s.os := mv.os
        subst a1
        subst a2
        subst a3
        show wpAny _ _ _ _ _ _
        apply wpAny_pure
        show wpAny _ _ (ret Value.none) _ _ _
        rw [sz] at hc3
        apply wpAny_pure
        refine ⟨rfl, g3, tk3, c3, rfl, hS3, hc3, fun b o e => ?_⟩
        have lb : b < s.heap.objs.size := Heap.lt_size e
        have nb : b ∉ [s.heap.objs.size, (hs0 w s.heap).objs.size] := by
          rw [sz1]
          intro z
          rcases List.mem_cons.mp z with z | z
          · exact absurd z (Nat.ne_of_lt lb)
          · exact absurd (List.mem_singleton.mp z) (Nat.ne_of_lt (Nat.lt_succ_of_lt lb))
        exact mv.heap b o nb (Heap.get?_push_of_some _ (Heap.get?_push_of_some _ e))
      · cases r2 with
        | error e => exact hr2
        | ok f2 =>
          cases f2 with
          | ret v2 =>
            obtain ⟨rfl, g3, tk3, c3, rfl, hS3, hc3, kp⟩ := hr2
            repeat (any_goals (first | assumption | wp_step))
            exact q _ _ _ hS3 hc3 kp
          | _ => exact hr2.elim
    | _ => exact hr.elim
/-- .. of either -/
theorem set_sqI {l : Addr} {us : List Value} (ns : List Int) {R : Value → Shared → Prop}
    (calm : A.handled = none) (h : SrtO.Sq s.heap l us) (are : IntsAre us ns) (few : ns.length + 1 < scanBound)
    (q : ∀ (g : Heap) (tk c : Nat), SetR w g s.heap.objs.size (fun j => decide (j ∈ ns)) c → c ≤ ns.length →
      (∀ b o, s.heap.get? b = some o → g.get? b = some o) → R (.ref s.heap.objs.size) { s with heap := g, toks := tk }) :
    wpAny (model P w) A (call (.type "set") [.ref l]) R E s := by
  rcases h with h | h
  · exact set_listI ns calm h (by simpa using are) few q
  · exact call_set_tupI ns calm (show s.heap.IsTuple l us.toArray from h) (by simpa using are) few q
end
end Ip

set_option Elab.async false
set_option linter.all false
set_option maxRecDepth 100000
set_option maxHeartbeats 1000000
/-! sorted of a dict with tuple keys, of any data that are alike; dict of pairs. -/
namespace Ip
open PySem PySem.Spec PyProof.Rows L2
section
variable {prog : Program} {w : World} {A : Around} {E : Value → Shared → Prop} {s : Shared}
/-- sorted(x), x collected to tuples of ints -/
theorem sorted_col {l : Addr} {vs : List Value} {k : Value → List Int} {Q : Value → Shared → Prop} (hz : vs.length ≤ sizeLine) (hp : IsTI s.heap k vs)
    (col : ∀ R : List Value → Shared → Prop, (∀ h' tk, (∀ b o, s.heap.get? b = some o → h'.get? b = some o) → R vs { s with heap := h', toks := tk }) → wpAny (model prog w) A.in1 (collect (.ref l)) R (fun _ _ => False) s)
    (h : ∀ (h1 h' : Heap) (tk : Nat) (d : Addr) (out : List Value), SrtO.Srtd (fun v u => HT.lexLt (k v) (k u)) out → SrtO.Stb (fun v u => HT.lexLt (k v) (k u)) out vs → (∀ b o, s.heap.get? b = some o → h1.get? b = some o) → (∀ b o, h1.get? b = some o → h'.get? b = some o) → h1.objs.size ≤ d → (∃ n, h'.get? d = some (seqObj "list" out.toArray n)) → Q (.ref d) { s with heap := h', toks := tk }) :
    wpAny (model prog w) A (call (.builtin "sorted") [.ref l]) Q E s := by
  refine Calls.call_function_entry kind_sorted plain_sorted entry_sorted (args_sorted1 _) ?_
  unfold Builtin.«sorted»
  refine wpAny_bind (m := checkCount "sorted" 1 1 _) (wpAny_pure ?_)
  refine wpAny_bind (wpAny_mono (col _ fun h1 tk kp => ?_) (fun _ _ z => z) fun _ _ z => z.elim)
  refine wpAny_bind (wpAny_newList ?_ hz)
  have hoL : (h1.push (seqObj "list" vs.toArray 0)).get? h1.objs.size = some (seqObj "list" vs.toArray 0) := Heap.get?_push_size _ rfl
  show wpAny _ _ _ _ _ { s with heap := h1.push (seqObj "list" vs.toArray 0), toks := tk }
  refine wpAny_bind (wpAny_holding (wpAny_call_entry slot_list_sort ⟨_, hoL, rfl⟩ entry_list_sort
    (SrtO.list_sort_ord (s := { s with heap := h1.push (seqObj "list" vs.toArray 0), toks := tk }) (swo_lexI k) hoL hz (fun two => ?_) fun out o1 o2 => ⟨_, rfl, ?_⟩) (args_list_sort _)))
  · refine ti_sortable (s := { s with heap := h1.push (seqObj "list" vs.toArray 0), toks := tk }) (by omega) (fun v hm => ⟨(hp v hm).1.keeps fun b o e _ => Heap.get?_push_of_some _ (kp b o e), (hp v hm).2⟩) fun o e => ?_
    have e' : some o = some (seqObj "list" vs.toArray 0) := e.symm.trans hoL
    cases e'
    intro c
    exact absurd (Value.type.inj c) (by decide)
  · refine wpAny_pure ⟨_, rfl, h h1 _ tk h1.objs.size out o1 o2 kp (fun b u e => ?_) (Nat.le_refl _) (sortedHeap_at hoL)⟩
    have hb : b < h1.objs.size := Heap.lt_size e
    show (sortedHeap (h1.push (seqObj "list" vs.toArray 0)) h1.objs.size vs out.toArray).get? b = some u
    rw [sortedHeap_old (Nat.ne_of_lt hb) (by rw [size_push']; exact Nat.lt_succ_of_lt hb)]
    exact Heap.get?_push_of_some _ e
end
section
variable {X : Cx} {M : Mk} {pins : List (Addr × Obj)} {s : Shared} {σ : L2.St} {H : Hp} {a : Addr}
/-- the keys, one by one -/
theorem keys_dT (I : Inv X pins σ H s) (dm : Dom H M) : ∀ {kvs : List (List Key × V)} {xs : List (List Key × Addr × Value)} {es : List (D × D)}, KT H kvs xs → PuT X.K H M kvs es →
    ∃ ks : List (List Int), es.map (·.1) = ks.map tupI ∧ (xs.map fun x => Value.ref x.2.1).map (TS.intsOf s.heap) = ks ∧
      ∀ u ∈ xs.map fun x => Value.ref x.2.1, (∃ t, u = Value.ref t) ∧ Pu X.K H M (backV u) (tupI (TS.intsOf s.heap u)) ∧ TS.TupInts s.heap u (TS.intsOf s.heap u)
  | [], _, _, r, p => by cases r; cases p; exact ⟨[], rfl, rfl, fun u h => by cases h⟩
  | kv :: kvs, xs, es, r, p => by
    cases p with
    | @cons ns v _ e ds pv p =>
      cases r with
      | @cons _ q _ qs h r =>
        obtain ⟨ks, h1, h2, h3⟩ := keys_dT I dm r p
        obtain ⟨e1, e2, _⟩ := h
        rw [kV_ints] at e2
        obtain ⟨its2, r2, ht2, _⟩ := I.tuple (.inl (.inl e2))
        have ti : TS.TupInts s.heap (.ref q.2.1) ns := ⟨q.2.1, its2.toArray, rfl, ht2, by simpa using ints_vals r2⟩
        have e3 := ti.ints
        refine ⟨ns :: ks, by rw [List.map_cons, h1]; rfl, by rw [List.map_cons, List.map_cons, h2]; exact congrArg (· :: ks) e3, fun u hu => ?_⟩
        rw [List.map_cons] at hu
        rcases List.mem_cons.mp hu with rfl | hu
        · refine ⟨⟨_, rfl⟩, ?_, ?_⟩
          · rw [e3]
            exact .tup e2 (fun z => (dm _ z).2 _ e2) (PuA.ints ns)
          · rw [e3]; exact ti
        · exact h3 u hu
/-- sorted(d), d's keys tuples of whole numbers, none of them empty -/
theorem sorted_dT {kvs : List (List Key × V)} {es : List (D × D)} {ks : List (List Int)} {Q : VK} (hc : X.calm = true) (I : Inv X pins σ H s) (dm : Dom H M) (hd : H a = some (.dT kvs)) (p : PuT X.K H M kvs es)
    (e : es.map (·.1) = ks.map tupI) (hne : ∀ k ∈ ks, k ≠ []) (q : ∀ ys p, H p = none → PuA X.K H M ys ((sortT ks).map tupI) → Q (.ref p) (upd H p (.lst ys))) :
    wpAny (model X.prog X.w) X.A (call (.builtin "sorted") [.ref a]) (fun v s' => ∃ x H', Inv X pins σ H' s' ∧ RelV x v ∧ Q x H') X.xe s := by
  obtain ⟨hz, hm, xs, r, dd⟩ := dt_of I.hok hd
  obtain ⟨ks', e1, e2, h2⟩ := keys_dT I dm r p
  obtain rfl : ks' = ks := by
    have := e1.symm.trans e
    have inj : ∀ {a b : List (List Int)}, a.map tupI = b.map tupI → a = b := by
      intro a
      induction a with
      | nil => intro b h; cases b with
        | nil => rfl
        | cons _ _ => cases h
      | cons x a ih => intro b h; cases b with
        | nil => cases h
        | cons y b =>
          simp only [List.map_cons, List.cons.injEq] at h
          have h1 := congrArg tkey h.1
          rw [tkey_tupI, tkey_tupI] at h1
          rw [Option.some.inj h1, ih h.2]
    exact inj this
  obtain ⟨o, ents, ep, ho, hx, hdt, he, hn⟩ := dd
  have l1 : ents.size = xs.length := size_of_entries he
  have l2 : kvs.length = xs.length := Paired.length r
  have hne' : ∀ u ∈ xs.map fun x => Value.ref x.2.1, TS.intsOf s.heap u ≠ [] := fun u hu => hne _ (by rw [← e2]; exact List.mem_map.mpr ⟨u, hu, rfl⟩)
  refine sorted_col (k := TS.intsOf s.heap) (vs := xs.map fun x => Value.ref x.2.1) (by rw [List.length_map, ← l2]; exact hz) (fun v hv => ⟨(h2 v hv).2.2, hne' v hv⟩) (fun R hR => ?_) fun h1 h' tk d out o1 o2 kp1 kp hd hn => ?_
  · refine PySem.W.kdu_collect (kdl_raw hm hx hdt) (I.ok.hd hc) ho (by omega) fun h' tk acc kp it => ?_
    have ea : acc.toList = xs.map fun x => Value.ref x.2.1 := by
      have hl : acc.toList.length = xs.length := by rw [Array.length_toList, it.1]; exact l1
      apply List.ext_getElem?
      intro j
      rw [List.getElem?_map]
      cases hj : acc.toList[j]? with
      | none =>
        have h1 := List.getElem?_eq_none_iff.mp hj
        rw [List.getElem?_eq_none (by omega)]
        all_goals rfl
      | some v =>
        obtain ⟨en, hen, hv⟩ := it.2 j v (by rw [← Array.getElem?_toList]; exact hj)
        have qe := entry_at he j
        rw [hen] at qe
        cases hb : xs[j]? with
        | none =>
          rw [hb] at qe
          exact nomatch (show some en = none from qe)
        | some b =>
          rw [hb] at qe
          have e2 : en = entryOfKey (tupleKind (mixKind X.prog X.w)) b := Option.some.inj qe
          rw [hv, e2]
          all_goals rfl
    rw [ea]
    exact hR h' tk kp
  · have m : ∀ u ∈ out, u ∈ xs.map fun x => Value.ref x.2.1 := fun u hu => o2.perm.mem_iff.mp hu
    have h3 : ∀ u ∈ out, ∃ a, u = Value.ref a := fun u hu => (h2 u (m u hu)).1
    obtain ⟨n, hn⟩ := hn
    have es : out.map (TS.intsOf s.heap) = sortT ks' := sortT_uniq (by rw [← e2]; exact o2.perm.map _) (List.pairwise_map.mpr o1)
    have pd : PuA X.K H M (out.map backV) ((sortT ks').map tupI) := by
      rw [← es, List.map_map]
      clear es o1 o2 hn
      induction out with
      | nil => exact .nil
      | cons u out ih => exact .cons (h2 u (m u (List.mem_cons_self ..))).2.1 (ih (fun z hz => m z (List.mem_cons_of_mem _ hz)) fun z hz => h3 z (List.mem_cons_of_mem _ hz))
    have I1 : Inv X pins σ H { s with heap := h1, toks := tk } := I.kept kp1
    refine ⟨.ref d, upd H d (.lst (out.map backV)), I1.laid (t' := tk) kp hd ⟨?_, out, n, vals_back h3, hn⟩, rfl, q _ d (I1.hok.fresh hd) pd⟩
    rw [List.length_map, o2.len, List.length_map, ← l2]
    exact hz
/-- sorted(xs) of data that are alike -/
theorem sorted_alike {xs : List V} {ds : List D} {Q : VK} (hu : X.A.units + 67 < cLine) (I : Inv X pins σ H s) (hs : SqL X.K H a xs) (pa : PuA X.K H M xs ds) (sh : SeqAt.shaped (.list ds) = true) (al : PySem.W.AllAlike ds) (hk : PySem.W.Sortable ds)
    (q : ∀ ys p, H p = none → PuA X.K H M ys (ds.mergeSort (PySem.W.dataLe false id)) → Q (.ref p) (upd H p (.lst ys))) :
    wpAny (model X.prog X.w) X.A (call (.builtin "sorted") [.ref a]) (fun v s' => ∃ x H', Inv X pins σ H' s' ∧ RelV x v ∧ Q x H') X.xe s := by
  obtain ⟨its, rv, hl, hz⟩ := I.list hs
  obtain ⟨as, ra⟩ := Dp.readsAll I ds _ its (pa.dp (by simpa only [PyData.canLay0] using SeqAt.canLay_of_shaped sh)) rv
  have e1 : ∀ {xs : List V} {its : List Value} {ds : List D}, Vals xs its → PuA X.K H M xs ds → PySem.W.EachIs (fun v d => ∃ x, RelV x v ∧ Pu X.K H M x d) its ds := by
    intro xs
    induction xs with
    | nil => intro its ds r p; cases r; cases p; exact .nil
    | cons x xs ih => intro its ds r p; cases r with
      | cons r1 r2 => cases p with
        | cons p1 p2 => exact .cons ⟨x, r1, p1⟩ (ih r2 p2)
  have e2 : ∀ {out : List Value} {ds : List D}, PySem.W.EachIs (fun v d => ∃ x, RelV x v ∧ Pu X.K H M x d) out ds → ∃ ys, Vals ys out ∧ PuA X.K H M ys ds := by
    intro out ds e
    induction e with
    | nil => exact ⟨[], .nil, .nil⟩
    | cons h _ ih =>
      obtain ⟨x, r, p⟩ := h
      obtain ⟨ys, r2, p2⟩ := ih
      exact ⟨x :: ys, .cons r r2, .cons p p2⟩
  have er := PySem.W.readsAll_each (β := D) id (bs := ds) (by rw [List.map_id]; exact ra)
  have depth : ∀ b ∈ ds, X.A.units + 2 + (id b : D).depth < cLine := fun b hb => by
    have h1 := SeqAt.depth_of_shaped sh
    have h2 : ∀ {l : List D} {b : D}, b ∈ l → b.depth ≤ PyData.depthAll l := by
      intro l
      induction l with
      | nil => intro b h; cases h
      | cons x l ih =>
        intro b h
        rw [PyData.depthAll]
        rcases List.mem_cons.mp h with rfl | h
        · exact Nat.le_max_left _ _
        · exact Nat.le_trans (ih h) (Nat.le_max_right _ _)
    have h3 : (PyData.list ds).depth = PyData.depthAll ds + 1 := by simp [PyData.depth]
    have := h2 hb
    show X.A.units + 2 + b.depth < cLine
    omega
  refine PySem.W.sorted_data (bs := ds) (enc := id) hl.isList (e1 rv pa) er (by rw [List.map_id]; exact al) (by rw [List.map_id]; exact hk) (by rw [← pa.length]; exact hz) depth fun out ho ho2 => ?_
  obtain ⟨ys, r2, p2⟩ := e2 ho2
  obtain ⟨n, e⟩ := PyProof.Rows.sortedAll_at s.heap its out.toArray
  refine ⟨.ref (s.heap.objs.size + 1), upd H (s.heap.objs.size + 1) (.lst ys), ?_, rfl, q _ _ (I.hok.fresh (Nat.le_succ _)) p2⟩
  refine I.laid (t' := s.toks) (fun _ _ => PyProof.Rows.sortedAll_old) (Nat.le_succ _) ⟨?_, out, n, r2, e⟩
  rw [r2.length, ho, ← pa.length]; exact hz
end
section
variable {prog : Program} {w : World}
theorem key_kp {h h' : Heap} {k : List Key} {a : Addr} (kp : ∀ b o, h.get? b = some o → h'.get? b = some o) (i : (tupleKind (mixKind prog w)).is h k a) : (tupleKind (mixKind prog w)).is h' k a := by
  obtain ⟨o, items, n, h1, h2, h3, h4⟩ := (show IsTupleKey (mixKind prog w) h k a from i)
  exact (show IsTupleKey (mixKind prog w) h' k a from ⟨o, items, n, kp _ _ h1, h2, h3, h4⟩)
theorem dH_ext {h h' : Heap} {S : Addr} {acc : List (List Key × Addr × Value)} (d : h.DictOfH (tupleKind (mixKind prog w)) S acc) (e : ∀ o, h.get? S = some o → h'.get? S = some o) (ks : ∀ x ∈ acc, (tupleKind (mixKind prog w)).is h' x.1 x.2.1) : h'.DictOfH (tupleKind (mixKind prog w)) S acc := by
  obtain ⟨o, es, ep, h1, h2, h3, h4, _, h6⟩ := d
  exact ⟨o, es, ep, e _ h1, h2, h3, h4, ks, h6⟩
def mergedH (acc rest : List (List Key × Addr × Value)) : List (List Key × Addr × Value) := rest.foldl (fun a q => storedH a q.1 q.2.1 q.2.2) acc
theorem storedH_len (xs : List (List Key × Addr × Value)) (k : List Key) (a : Addr) (v : Value) : (storedH xs k a v).length ≤ xs.length + 1 := by
  unfold storedH
  split
  · rw [List.length_map]; omega
  · simp
theorem storedH_mem {xs : List (List Key × Addr × Value)} {k : List Key} {a : Addr} {v : Value} {x : List Key × Addr × Value} (h : x ∈ storedH xs k a v) : (∃ y ∈ xs, y.1 = x.1 ∧ y.2.1 = x.2.1) ∨ (x.1 = k ∧ x.2.1 = a) := by
  unfold storedH at h
  split at h
  · obtain ⟨y, hy, rfl⟩ := List.mem_map.mp h
    refine .inl ⟨y, hy, ?_⟩
    unfold putAt
    split <;> exact ⟨rfl, rfl⟩
  · rcases List.mem_append.mp h with h | h
    · exact .inl ⟨x, h, rfl, rfl⟩
    · obtain rfl := List.mem_singleton.mp h
      exact .inr ⟨rfl, rfl⟩
variable {A : Around} {E : Value → Shared → Prop}
/-- the walk over the pairs -/
theorem upd_loopT {R : Result → Shared → Prop} {S I l : Addr} {items : Array Value} {res : Value} {g0 : Heap} (hu : A.units + 2 < cLine) (hh : A.handled = none) (hSI : S ≠ I) (hS : g0.objs.size ≤ S) (hI : g0.objs.size ≤ I) (hl0 : g0.IsList l items) :
    ∀ (rest : List (List Key × Addr × Value)) (i : Nat) (acc : List (List Key × Addr × Value)) (ix : Int) (t : Tok) (s : Shared), items.size = i + rest.length → acc.length + rest.length ≤ sizeLine →
      (∀ (j : Nat) (q : List Key × Addr × Value), rest[j]? = some q → ∃ (b : Addr), items[i + j]? = some (.ref b) ∧ IsTup g0 b #[.ref q.2.1, q.2.2] ∧ (tupleKind (mixKind prog w)).is g0 q.1 q.2.1) →
      s.heap.IsListIter I l i → (∀ b o, g0.get? b = some o → s.heap.get? b = some o) → s.heap.DictOfH (tupleKind (mixKind prog w)) S acc → (∀ x ∈ acc, (tupleKind (mixKind prog w)).is g0 x.1 x.2.1) →
      (∀ h' tk, h'.DictOfH (tupleKind (mixKind prog w)) S (mergedH acc rest) → (∀ b o, g0.get? b = some o → h'.get? b = some o) → R (.ok (.ret res)) { s with heap := h', toks := tk }) →
      codeAny (model prog w) A (.builtin "dict.update.loop" ⟨[.ref S, .ref I, .int ix t, res], []⟩) R s
  | [], i, acc, ix, t, s, hsz, hln, ht, hit, kp, hm, hk, hR => by
    refine codeAny_builtin ud_entry ?_
    rw [Around.under_plainId ud_plain _]
    have hl : s.heap.IsList l items := hl0.at fun o e => kp _ _ e
    show wpAny _ A.in1 (pyNext (.ref I) >>= _) _ _ s
    refine wpAny_bind (wpAny_pyNext_list_end (A := A.in1) hh hit hl (by first | exact Array.getElem?_eq_none (Nat.le_of_eq hsz) | (simp at hsz; simp; omega)) fun h' he => ?_)
    show wpAny _ A.in1 (Builtin.Dict.addKeywords S [] >>= _) _ _ _
    refine wpAny_bind (wpAny_pure (wpAny_pure ?_))
    have kp' : ∀ b o, g0.get? b = some o → h'.get? b = some o := fun b o e => he b o (Nat.ne_of_lt (Nat.lt_of_lt_of_le (Heap.lt_size e) hI)) (kp b o e)
    exact hR h' s.toks (dH_ext hm (fun o e => he S o hSI e) fun x hx => key_kp kp' (hk x hx)) kp'
  | q :: rest, i, acc, ix, t, s, hsz, hln, ht, hit, kp, hm, hk, hR => by
    obtain ⟨b, hb, htup, hkey⟩ := ht 0 q rfl
    rw [List.length_cons] at hsz hln
    have hl : s.heap.IsList l items := hl0.at fun o e => kp _ _ e
    refine codeAny_builtin ud_entry ?_
    rw [Around.under_plainId ud_plain _]
    show wpAny _ A.in1 (pyNext (.ref I) >>= _) _ _ s
    refine wpAny_bind (wpAny_pyNext_list_item (x := .ref b) hit hl (by simpa using hb) fun h1 hit1 hs1 => ?_)
    have kp1 : ∀ b o, g0.get? b = some o → h1.get? b = some o := fun b o e => (hs1.2 b (Nat.ne_of_lt (Nat.lt_of_lt_of_le (Heap.lt_size e) hI))).trans (kp b o e)
    have ht1 : IsTup h1 b #[.ref q.2.1, q.2.2] := htup.keeps fun c o z => kp1 _ _ z
    have hm1 : h1.DictOfH (tupleKind (mixKind prog w)) S acc := dH_ext hm (fun o e => (hs1.2 S hSI).trans e) fun x hx => key_kp kp1 (hk x hx)
    obtain ⟨o, ho, hc, n, hd⟩ := id ht1
    show wpAny _ A.in1 (holding [Value.ref b] _ >>= _) _ _ _
    refine wpAny_bind (wpAny_holding ?_)
    refine wpAny_bind (wpAny_tryCatch ?_)
    unfold Builtin.Dict.pairItems
    refine wpAny_bind (wpAny_typeOf (T := "tuple") ⟨o, ho, hc⟩ ?_)
    rw [if_pos (by first | decide | rfl | simp)]
    refine wpAny_bind (wpAny_seqItems ho hd (wpAny_pure ?_))
    show wpAny _ A.in1 (holding [Value.ref q.2.1, q.2.2] (dictSet S (.ref q.2.1) q.2.2)) _ _ _
    have room : (tupleKind (mixKind prog w)).room A.in1 := by
      show A.in1.units < cLine
      have : A.in1.units = A.units + 1 := rfl
      omega
    refine wpAny_holding (wpAny_dictSet_heap (knd := tupleKind (mixKind prog w)) (k := q.1) room (key_kp kp1 hkey) hm1 (fun h2 hm2 hs2 => ?_) (by omega))
    have kp2 : ∀ b o, g0.get? b = some o → h2.get? b = some o := fun b o e => (hs2.2 b (Nat.ne_of_lt (Nat.lt_of_lt_of_le (Heap.lt_size e) hS))).trans (kp1 b o e)
    refine wpAny_pure ⟨plainId_quiet ud_plain _, upd_loopT (g0 := g0) (items := items) hu hh hSI hS hI hl0 rest (i + 1) (storedH acc q.1 q.2.1 q.2.2) (ix + 1) 0 _ (show items.size = i + 1 + rest.length by omega) ?_ (fun j q' e => ?_) ?_ kp2 hm2 (fun x hx => ?_) fun h' tk hd' k => ?_⟩
    · have z := storedH_len acc q.1 q.2.1 q.2.2
      omega
    · obtain ⟨b', hb', htup', hk'⟩ := ht (j + 1) q' (by simpa using e)
      refine ⟨b', ?_, htup', hk'⟩
      rw [show i + 1 + j = i + (j + 1) by omega]
      exact hb'
    · exact hit1.at fun o' e => (hs2.2 I (Ne.symm hSI)).trans e
    · rcases storedH_mem hx with ⟨y, hy, e1, e2⟩ | ⟨e1, e2⟩
      · rw [← e1, ← e2]; exact hk y hy
      · rw [e1, e2]; exact hkey
    · exact hR h' tk hd' k
/-- dict(l) of a list of pairs, the keys tuples -/
theorem call_dict_pairsT {s : Shared} {l : Addr} {ol : Obj} {items : Array Value} {n : Nat} {prs : List (List Key × Addr × Value)} {Q : Value → Shared → Prop} (hu : A.units + 6 < cLine) (hh : A.handled = none) (hl : s.heap.get? l = some ol) (hc : ol.cls = .type "list") (hd : ol.dict = none)
    (hdat : ol.data = .seq items n) (hsz : items.size = prs.length) (hln : prs.length ≤ sizeLine)
    (ht : ∀ (j : Nat) (q : List Key × Addr × Value), prs[j]? = some q → ∃ (b : Addr), items[j]? = some (.ref b) ∧ IsTup s.heap b #[.ref q.2.1, q.2.2] ∧ (tupleKind (mixKind prog w)).is s.heap q.1 q.2.1)
    (h : ∀ h' tk, h'.DictOfH (tupleKind (mixKind prog w)) s.heap.objs.size (mergedH [] prs) → (∀ b o, s.heap.get? b = some o → h'.get? b = some o) → Q (.ref s.heap.objs.size) { s with heap := h', toks := tk }) :
    wpAny (model prog w) A (call (.type "dict") [.ref l]) Q E s := by
  refine callType_codes (Q₁ := fun obj s₁ => obj = .ref s.heap.objs.size ∧ s₁ = { s with heap := s.heap.push { cls := .type "dict", data := .dict #[] } }) PySem.F.kt_called_dict (PySem.F.kt_typeCall_dict_1 _) PySem.F.entry_dict_init (kt_code_dict_new _ ⟨rfl, rfl⟩) ?_
  rintro obj s₁ ⟨rfl, rfl⟩
  have hnew : (s.heap.push { cls := .type "dict", data := .dict #[] }).DictOfH (tupleKind (mixKind prog w)) s.heap.objs.size [] := Heap.DictOfH.new s.heap
  have k0 : ∀ b o, s.heap.get? b = some o → (s.heap.push { cls := .type "dict", data := .dict #[] }).get? b = some o := fun b o e => Heap.get?_push_of_some _ e
  refine ⟨hnew.typeIs (s := { s with heap := s.heap.push { cls := .type "dict", data := .dict #[] } }), PySem.F.args_dict_init_2 _ _, ?_⟩
  unfold Builtin.«dict.__init__»
  refine wpAny_bind ?_
  unfold Builtin.Dict.selfAndRest
  refine wpAny_bind (wpAny_notOrdered_dict (hnew.typeIs (s := { s with heap := s.heap.push { cls := .type "dict", data := .dict #[] } })) ?_)
  show wpAny _ _ (pure (s.heap.objs.size, [Value.ref l])) _ _ _
  refine wpAny_pure ?_
  show wpAny _ _ (Builtin.Dict.updateFrom "dict.__init__" s.heap.objs.size (.ref l) [] .none) _ _ _
  unfold Builtin.Dict.updateFrom
  refine wpAny_bind (wpAny_typeOf (T := "list") ⟨ol, k0 _ _ hl, hc⟩ ?_)
  rw [if_pos (by first | decide | rfl | simp)]
  refine wpAny_bind (miss_list (k0 _ _ hl) hc hdat hd hh fun h1 tk1 hk1 => ?_)
  rw [if_pos (show (none : Option Value).isNone = true from rfl)]
  refine wpAny_bind (wpAny_rule ?_)
  have hl1 : h1.IsList l items := ⟨ol, hk1 _ _ (k0 _ _ hl), hc, n, hdat⟩
  have hS1 : s.heap.objs.size < h1.objs.size := by
    have e : (s.heap.push { cls := .type "dict", data := .dict #[] }).get? s.heap.objs.size = some { cls := .type "dict", data := .dict #[] } := Heap.get?_push_size _ rfl
    exact Heap.lt_size (hk1 _ _ e)
  refine wpAny_bind (wpAny_pyIter_list hl1 ?_)
  have k2 : ∀ b o, h1.get? b = some o → (h1.push { cls := .type "list_iterator", data := .fields #[.ref l, .int 0 0] }).get? b = some o := fun b o e => Heap.get?_push_of_some _ e
  have k3 : ∀ b o, s.heap.get? b = some o → (h1.push { cls := .type "list_iterator", data := .fields #[.ref l, .int 0 0] }).get? b = some o := fun b o e => k2 _ _ (hk1 _ _ (k0 _ _ e))
  have key := upd_loopT (prog := prog) (w := w) (A := A.in1) (R := wants (fun r s₂ => r = .none ∧ Q (.ref s.heap.objs.size) s₂) E) (S := s.heap.objs.size) (I := h1.objs.size) (l := l) (items := items) (res := Value.none) (g0 := s.heap)
    (by have : A.in1.units = A.units + 1 := rfl
        omega) hh (Nat.ne_of_lt hS1) (Nat.le_refl _) (Nat.le_of_lt hS1) ⟨ol, hl, hc, n, hdat⟩ prs 0 [] 0 0
    { s with heap := h1.push { cls := .type "list_iterator", data := .fields #[.ref l, .int 0 0] }, toks := tk1 } (by rw [hsz, Nat.zero_add]) (by rw [List.length_nil, Nat.zero_add]; exact hln)
    (fun j q e => by
      obtain ⟨b, e1, e2, e3⟩ := ht j q e
      exact ⟨b, by rw [Nat.zero_add]; exact e1, e2, e3⟩)
    ⟨_, Heap.get?_push_size _ rfl, rfl, rfl⟩ k3 (dH_ext hnew (fun o e => k2 _ _ (hk1 _ _ e)) fun x hx => by cases hx) (fun x hx => by cases hx)
    (fun h' tk hd' k => ⟨rfl, h h' tk hd' k⟩)
  first
    | exact wpAny_pure ⟨plainId_quiet ud_plain _, key⟩
    | exact wpAny_bind (wpAny_pure (wpAny_pure ⟨plainId_quiet ud_plain _, key⟩))
end
section
variable {X : Cx} {M : Mk} {pins : List (Addr × Obj)} {s : Shared} {σ : L2.St} {H : Hp} {a : Addr}
theorem foldl_dc_none : ∀ ys : List D, ys.foldl dcStep none = none
  | [] => rfl
  | y :: ys => by rw [List.foldl_cons]; exact foldl_dc_none ys
theorem prsT (I : Inv X pins σ H s) (dm : Dom H M) : ∀ {vs : List V} {ys : List D} {its : List Value} {kvs : List (List Key × V)} {xs : List (List Key × Addr × Value)} {es ds : List (D × D)}, Vals vs its → PuA X.K H M vs ys → ys.foldl dcStep (some ((.none, .none) :: es)) = some ds →
    KT H kvs xs → PuT X.K H M kvs es → ∃ prs : List (List Key × Addr × Value), prs.length = its.length ∧
      (∀ (j : Nat) (q : List Key × Addr × Value), prs[j]? = some q → ∃ b, its[j]? = some (.ref b) ∧ IsTup s.heap b #[.ref q.2.1, q.2.2] ∧ (tupleKind (mixKind X.prog X.w)).is s.heap q.1 q.2.1) ∧
      ∃ kvs' es', ds = (.none, .none) :: es' ∧ KT H kvs' (mergedH xs prs) ∧ PuT X.K H M kvs' es' ∧ kvs'.length ≤ kvs.length + prs.length
  | _, _, _, kvs, xs, es, ds, .nil, .nil, e, kt, pt => ⟨[], rfl, fun j q e => by simp at e, kvs, es, by cases e; rfl, kt, pt, Nat.le_refl _⟩
  | _, _, _, kvs, xs, es, ds, .cons r rs, .cons (d := y) p ps, e, kt, pt => by
    rw [List.foldl_cons] at e
    cases e1 : dcStep (some ((.none, .none) :: es)) y with
    | none => rw [e1, foldl_dc_none] at e; cases e
    | some ds1 =>
      rw [e1] at e
      unfold dcStep at e1
      rw [Option.bind_some] at e1
      split at e1
      · rename_i k v'
        unfold dictPut at e1
        simp only [Option.bind_eq_some_iff] at e1
        obtain ⟨ns, e2, e3⟩ := e1
        split at e3
        · cases e3
          obtain ⟨b, ws, rfl, hb, pw⟩ := p.tupS (fun z r q => by simp only [List.cons.injEq] at q; rw [q.1] at e2; simp [tkey] at e2)
          cases pw with
          | @cons x _ _ _ px pw => cases pw with
            | @cons x2 _ _ _ pv pw => cases pw with
              | nil =>
                obtain ⟨kb, rfl, hk⟩ := tkey_at px.va e2
                obtain ⟨its2, r2, ht2, _⟩ := I.tuple (.inl (.inl hb))
                cases r2 with
                | cons ra r2 => cases r2 with
                  | @cons _ u2 _ _ rb r2 => cases r2 with
                    | nil =>
                      obtain rfl := ra
                      obtain rfl := r
                      obtain ⟨prs, hl, hp, kvs', es', e5, kt', pt', hlen⟩ := prsT I dm rs ps e (kt.put (ns.map Sum.inl) hk rb) (pt.put ns pv)
                      refine ⟨(ns.map Sum.inl, kb, u2) :: prs, by rw [List.length_cons, List.length_cons, hl], fun j q e => ?_, kvs', es', e5, kt', pt', ?_⟩
                      · cases j with
                        | zero =>
                          have e' : (ns.map Sum.inl, kb, u2) = q := Option.some.inj e
                          subst e'
                          exact ⟨b, rfl, ht2, key_of I.hok hk⟩
                        | succ j =>
                          obtain ⟨b', f1, f2, f3⟩ := hp j q (by simpa using e)
                          exact ⟨b', by simpa using f1, f2, f3⟩
                      · have := length_putK kvs (ns.map Sum.inl) x2
                        rw [List.length_cons]
                        omega
        · cases e3
      · cases e1
/-- dict(xs) of a list of pairs, the keys tuples of whole numbers -/
theorem call_dictT {vs : List V} {ys : List D} {ds : List (D × D)} {Q : VK} (hu : X.A.units + 6 < cLine) (hc : X.calm = true) (I : Inv X pins σ H s) (dm : Dom H M) (hs : SqL X.K H a vs) (pa : PuA X.K H M vs ys) (e : dictOf true ys = some ds)
    (q : ∀ p kvs es, H p = none → ds = (.none, .none) :: es → PuT X.K H M kvs es → Q (.ref p) (upd H p (.dT kvs))) :
    wpAny (model X.prog X.w) X.A (call (.type "dict") [.ref a]) (fun v s' => ∃ x H', Inv X pins σ H' s' ∧ RelV x v ∧ Q x H') X.xe s := by
  obtain ⟨its, rv, hl, hz⟩ := I.list hs
  obtain ⟨prs, h1, h2, kvs, es, rfl, kt, pt, hlen⟩ := prsT I dm rv pa e .nil .nil
  obtain ⟨o, n, ho, hc', hd, hdat⟩ := hl
  refine call_dict_pairsT (prs := prs) hu (I.ok.hd hc) ho hc' hd hdat (by simp [h1]) (by rw [h1, ← rv.length]; exact hz) (fun j q' e => ?_) fun h' tk hd' kp => ?_
  · obtain ⟨b, f1, f2, f3⟩ := h2 j q' e
    exact ⟨b, by simpa using f1, f2, f3⟩
  · have hm : (s.heap.objs.size == sysModules) = false := beq_eq_false_iff_ne.mpr (Nat.ne_of_gt I.big)
    have hf : H s.heap.objs.size = none := I.hok.fresh (Nat.le_refl _)
    obtain ⟨o', es', ep, g1, g2, g3, g4, _, g6⟩ := hd'
    have hlen' : kvs.length ≤ sizeLine := by
      have z : prs.length ≤ sizeLine := by rw [h1, ← rv.length]; exact hz
      simp only [List.length_nil, Nat.zero_add] at hlen
      omega
    refine ⟨.ref s.heap.objs.size, upd H s.heap.objs.size (.dT kvs), I.laid (t' := tk) kp (Nat.le_refl _) (show ObjOk X.prog X.w _ _ _ (.dT kvs) from ⟨hlen', hm, mergedH [] prs, kt.keeps fun b ys e => Ext.upd hf b _ e, o', es', ep, g1, g2, g3, g4, g6⟩), rfl, q _ kvs es hf rfl pt⟩
end
end Ip

set_option Elab.async false
set_option linter.all false
set_option maxRecDepth 100000
set_option maxHeartbeats 1000000
/-! sum, max, min of tuples of whole numbers; any, all of tuples and lists of whole numbers or truths. -/
namespace Ip
open PySem PySem.Spec PyProof.Rows L2
section
variable {prog : Program} {w : World} {A : Around} {E : Value → Shared → Prop} {s : Shared} {l : Addr} {its : List Value} {ns : List Int} {Q : Value → Shared → Prop}
theorem tuple_of (h : IsTup s.heap l its.toArray) : s.heap.IsTuple l its.toArray := by
  obtain ⟨o, e, c, n, d⟩ := h
  exact ⟨o, e, c, n, d⟩
theorem iter_tup {vs : Array Value} {Q : Value → Shared → Prop} (hl : s.heap.IsTuple l vs)
    (h : ∀ s₂ : Shared, s₂ = { s with heap := s.heap.push { cls := .type "tuple_iterator", data := .fields #[.ref l, .int 0 0] } } →
      (s₂.heap.IsTupleIter s.heap.objs.size l 0 ∧ s₂.heap.IsTuple l vs) → (∀ b ∈ [s.heap.objs.size, l], b < s₂.heap.objs.size) → l ≠ s.heap.objs.size → Q (.ref s.heap.objs.size) s₂) :
    wpAny (model prog w) A (pyIter (.ref l)) Q E s := by
  have hlt : l < s.heap.objs.size := by obtain ⟨_, e, _⟩ := hl; exact Heap.lt_size e
  refine wpAny_pyIter_tuple hl (h _ rfl ⟨⟨_, Heap.get?_push_size _ rfl, rfl, rfl⟩, hl.at fun o e => Heap.get?_push_of_some _ e⟩ (fun b hb => ?_) (Nat.ne_of_lt hlt))
  show b < (s.heap.push _).objs.size
  rw [Heap.size_push]
  rcases List.mem_cons.mp hb with rfl | hb
  · exact Nat.lt_succ_self _
  · rcases List.mem_cons.mp hb with rfl | hb
    · exact Nat.lt_succ_of_lt hlt
    · cases hb
theorem old_keptT {h' : Heap} (hk : ∀ b o, b ∉ [s.heap.objs.size] → (s.heap.push { cls := .type "tuple_iterator", data := .fields #[.ref l, .int 0 0] }).get? b = some o → h'.get? b = some o) :
    ∀ b o, s.heap.get? b = some o → h'.get? b = some o := fun b o e => by
  refine hk b o (fun hm => ?_) (Heap.get?_push_of_some _ e)
  rcases List.mem_cons.mp hm with e1 | hm
  · exact absurd (e1 ▸ Heap.lt_size e) (Nat.lt_irrefl _)
  · cases hm
theorem max_tup {xs : Array (Int × Tok)} {Q : Value → Shared → Prop} (hh : A.handled = none) (hl : s.heap.IsTuple l (intItems xs)) (hne : 0 < xs.size)
    (h : ∀ v h' tk, (intItems xs)[argBest (fun i j => decide (numAt xs i > numAt xs j)) (xs.size - 1)]? = some v → (∀ b o, s.heap.get? b = some o → h'.get? b = some o) → Q v { s with heap := h', toks := tk }) :
    wpAny (model prog w) A (call (.builtin "max") [.ref l]) Q E s := by
  refine call_max_walk (iter_tup hl fun s₂ e st hfp hlI => ?_)
  subst e
  refine ⟨_, _, _, _, _, _, _, rfl, Walks.tuple (A := A.in1) hh _ l hlI (intItems xs), st, hfp, by simpa [intItems] using hne, CmpOf.ints_gt (numAt xs) (fun _ _ => intItems_at), fun v h' tk hP hk => ?_⟩
  exact h v h' tk (by simpa [intItems] using hP) (old_keptT hk)
theorem min_tup {xs : Array (Int × Tok)} {Q : Value → Shared → Prop} (hh : A.handled = none) (hl : s.heap.IsTuple l (intItems xs)) (hne : 0 < xs.size)
    (h : ∀ v h' tk, (intItems xs)[argBest (fun i j => decide (numAt xs i < numAt xs j)) (xs.size - 1)]? = some v → (∀ b o, s.heap.get? b = some o → h'.get? b = some o) → Q v { s with heap := h', toks := tk }) :
    wpAny (model prog w) A (call (.builtin "min") [.ref l]) Q E s := by
  refine call_min_walk (iter_tup hl fun s₂ e st hfp hlI => ?_)
  subst e
  refine ⟨_, _, _, _, _, _, _, rfl, Walks.tuple (A := A.in1) hh _ l hlI (intItems xs), st, hfp, by simpa [intItems] using hne, CmpOf.ints_lt (numAt xs) (fun _ _ => intItems_at), fun v h' tk hP hk => ?_⟩
  exact h v h' tk (by simpa [intItems] using hP) (old_keptT hk)
theorem sumT_raw (hh : A.handled = none) (hl : IsTup s.heap l its.toArray) (hi : IntsAre its ns)
    (h : ∀ h' tk t', (∀ b o, s.heap.get? b = some o → h'.get? b = some o) → Q (.int ns.sum t') { s with heap := h', toks := tk }) : wpAny (model prog w) A (call (.builtin "sum") [.ref l]) Q E s := by
  obtain ⟨xs, e⟩ := hi.allInts.items
  have hn : numsOf (intItems xs).toList = ns := by rw [← e]; exact hi.numsOf
  rw [nums_intItems] at hn
  have ht := tuple_of hl
  rw [e] at ht
  refine PySem.W.ktm_sumG hh ht fun h' tk t' hk => ?_
  have := h h' tk t' hk
  rw [preSum_eq, List.take_of_length_le (by simp), hn]; exact this
theorem maxT_raw (hh : A.handled = none) (hl : IsTup s.heap l its.toArray) (hi : IntsAre its ns) (hne : 0 < ns.length)
    (h : ∀ h' tk M t', (∀ b o, s.heap.get? b = some o → h'.get? b = some o) → M ∈ ns → (∀ a, a ∈ ns → a ≤ M) → Q (.int M t') { s with heap := h', toks := tk }) : wpAny (model prog w) A (call (.builtin "max") [.ref l]) Q E s := by
  obtain ⟨xs, e⟩ := hi.allInts.items
  have hn : numsOf (intItems xs).toList = ns := by rw [← e]; exact hi.numsOf
  rw [nums_intItems] at hn
  subst hn
  have ht := tuple_of hl
  rw [e] at ht
  have hsz : 0 < xs.size := by simpa using hne
  refine max_tup hh ht hsz fun v h' tk hv hk => ?_
  obtain ⟨t, rfl⟩ := intItems_at hv
  obtain ⟨h1, h2⟩ := argBest_gt (numAt xs) (xs.size - 1)
  refine h h' tk _ t hk ?_ fun a ha => ?_
  · rw [numAt_eq]; exact PySem.getD_mem (by rw [List.length_map, Array.length_toList]; omega)
  · obtain ⟨j, hj, rfl⟩ := mem_getD ha
    rw [List.length_map, Array.length_toList] at hj
    rw [← numAt_eq]; exact h2 j (by omega)
theorem minT_raw (hh : A.handled = none) (hl : IsTup s.heap l its.toArray) (hi : IntsAre its ns) (hne : 0 < ns.length)
    (h : ∀ h' tk M t', (∀ b o, s.heap.get? b = some o → h'.get? b = some o) → M ∈ ns → (∀ a, a ∈ ns → M ≤ a) → Q (.int M t') { s with heap := h', toks := tk }) : wpAny (model prog w) A (call (.builtin "min") [.ref l]) Q E s := by
  obtain ⟨xs, e⟩ := hi.allInts.items
  have hn : numsOf (intItems xs).toList = ns := by rw [← e]; exact hi.numsOf
  rw [nums_intItems] at hn
  subst hn
  have ht := tuple_of hl
  rw [e] at ht
  have hsz : 0 < xs.size := by simpa using hne
  refine min_tup hh ht hsz fun v h' tk hv hk => ?_
  obtain ⟨t, rfl⟩ := intItems_at hv
  obtain ⟨h1, h2⟩ := argBest_lt (numAt xs) (xs.size - 1)
  refine h h' tk _ t hk ?_ fun a ha => ?_
  · rw [numAt_eq]; exact PySem.getD_mem (by rw [List.length_map, Array.length_toList]; omega)
  · obtain ⟨j, hj, rfl⟩ := mem_getD ha
    rw [List.length_map, Array.length_toList] at hj
    rw [← numAt_eq]; exact h2 j (by omega)
/-- truths of whole numbers -/
theorem truth_ints (hi : IntsAre its ns) : TruthOf prog w A (fun i v => its.toArray[i]? = some v) (fun i => (ns.map fun n => n != 0).getD i false) := fun i v s Q E hv hq => by
  have hv' : its[i]? = some v := by simpa using hv
  have key : ∀ {its : List Value} {ns : List Int}, IntsAre its ns → ∀ i : Nat, its[i]? = some v → ∃ (n : Int) (t : Tok), v = .int n t ∧ ns[i]? = some n := by
    intro its ns h
    induction h with
    | nil => intro i h; simp at h
    | cons n t _ ih =>
      intro i h
      cases i with
      | zero => simp at h; exact ⟨n, t, h.symm, rfl⟩
      | succ i => exact ih i (by simpa using h)
  obtain ⟨n, t, rfl, hn⟩ := key hi i hv'
  have hg : (ns.map fun n => n != 0).getD i false = (n != 0) := by rw [List.getD_eq_getElem?_getD, List.getElem?_map, hn]; rfl
  have hq' : Q ((ns.map fun n => n != 0).getD i false) s := hq
  rw [hg] at hq'
  exact PySem.P.truthy_int hq'
end
section
variable {X : Cx} {pins : List (Addr × Obj)} {s : Shared} {σ : L2.St} {H : Hp} {a : Addr} {Q : VK}
/-- any, all, the truths of the items known -/
theorem anyG {tup : Bool} {bs : List Bool} {its : List Value} (hc : X.calm = true) (I : Inv X pins σ H s) (hl : if tup then s.heap.IsTuple a its.toArray else s.heap.IsList a its.toArray) (e : its.length = bs.length)
    (tr : TruthOf X.prog X.w X.A.in1 (fun i v => its.toArray[i]? = some v) (fun i => bs.getD i false)) (q : Q (.bl (bs.any id)) H) :
    wpAny (model X.prog X.w) X.A (call (.builtin "any") [.ref a]) (fun v s' => ∃ x H', Inv X pins σ H' s' ∧ RelV x v ∧ Q x H') X.xe s := by
  cases tup with
  | false =>
    refine call_any_walk (iter_any hl fun s₂ e2 st hne => ?_)
    subst e2
    refine ⟨_, _, _, _, _, _, _, rfl, Walks.list (A := X.A.in1) (I.ok.hd hc) _ a hne its.toArray, st, tr, fun h' tk hk => ?_⟩
    refine ⟨.bl _, H, I.kept fun b o eo => hk b o (fun hmem => ?_) (Heap.get?_push_of_some _ eo), ?_, q⟩
    · rcases List.mem_cons.mp hmem with e1 | hmem
      · exact absurd (e1 ▸ Heap.lt_size eo) (Nat.lt_irrefl _)
      · cases hmem
    · show Value.bool _ = Value.bool _
      rw [← L2.any_range, List.size_toArray, e]
  | true =>
    refine call_any_walk (iter_tup hl fun s₂ e2 st hfp hne => ?_)
    subst e2
    refine ⟨_, _, _, _, _, _, _, rfl, Walks.tuple (A := X.A.in1) (I.ok.hd hc) _ a hne its.toArray, st, tr, fun h' tk hk => ?_⟩
    refine ⟨.bl _, H, I.kept fun b o eo => hk b o (fun hmem => ?_) (Heap.get?_push_of_some _ eo), ?_, q⟩
    · rcases List.mem_cons.mp hmem with e1 | hmem
      · exact absurd (e1 ▸ Heap.lt_size eo) (Nat.lt_irrefl _)
      · cases hmem
    · show Value.bool _ = Value.bool _
      rw [← L2.any_range, List.size_toArray, e]
theorem allG {tup : Bool} {bs : List Bool} {its : List Value} (hc : X.calm = true) (I : Inv X pins σ H s) (hl : if tup then s.heap.IsTuple a its.toArray else s.heap.IsList a its.toArray) (e : its.length = bs.length)
    (tr : TruthOf X.prog X.w X.A.in1 (fun i v => its.toArray[i]? = some v) (fun i => bs.getD i false)) (q : Q (.bl (bs.all id)) H) :
    wpAny (model X.prog X.w) X.A (call (.builtin "all") [.ref a]) (fun v s' => ∃ x H', Inv X pins σ H' s' ∧ RelV x v ∧ Q x H') X.xe s := by
  cases tup with
  | false =>
    refine call_all_walk (iter_any hl fun s₂ e2 st hne => ?_)
    subst e2
    refine ⟨_, _, _, _, _, _, _, rfl, Walks.list (A := X.A.in1) (I.ok.hd hc) _ a hne its.toArray, st, tr, fun h' tk hk => ?_⟩
    refine ⟨.bl _, H, I.kept fun b o eo => hk b o (fun hmem => ?_) (Heap.get?_push_of_some _ eo), ?_, q⟩
    · rcases List.mem_cons.mp hmem with e1 | hmem
      · exact absurd (e1 ▸ Heap.lt_size eo) (Nat.lt_irrefl _)
      · cases hmem
    · show Value.bool _ = Value.bool _
      rw [← L2.all_range, List.size_toArray, e]
  | true =>
    refine call_all_walk (iter_tup hl fun s₂ e2 st hfp hne => ?_)
    subst e2
    refine ⟨_, _, _, _, _, _, _, rfl, Walks.tuple (A := X.A.in1) (I.ok.hd hc) _ a hne its.toArray, st, tr, fun h' tk hk => ?_⟩
    refine ⟨.bl _, H, I.kept fun b o eo => hk b o (fun hmem => ?_) (Heap.get?_push_of_some _ eo), ?_, q⟩
    · rcases List.mem_cons.mp hmem with e1 | hmem
      · exact absurd (e1 ▸ Heap.lt_size eo) (Nat.lt_irrefl _)
      · cases hmem
    · show Value.bool _ = Value.bool _
      rw [← L2.all_range, List.size_toArray, e]
end
end Ip

set_option Elab.async false
set_option linter.all false
set_option maxRecDepth 100000
set_option maxHeartbeats 1000000
/-! Built-ins and methods by values. -/
namespace Ip
open PySem PySem.Spec PyProof.Rows L2

/-! ### sorting, greatest, least -/
theorem insI_perm (n : Int) : ∀ l : List Int, (insI n l).Perm (n :: l)
  | [] => .refl _
  | m :: r => by
    unfold insI
    split
    · exact .refl _
    · exact ((insI_perm n r).cons m).trans (.swap n m r)
theorem sortI_perm : ∀ l : List Int, (sortI l).Perm l
  | [] => .refl _
  | n :: r => (insI_perm n (sortI r)).trans ((sortI_perm r).cons n)
theorem insI_sorted (n : Int) : ∀ l : List Int, l.Pairwise (· ≤ ·) → (insI n l).Pairwise (· ≤ ·)
  | [], _ => by simp [insI]
  | m :: r, h => by
    unfold insI
    obtain ⟨h1, h2⟩ := List.pairwise_cons.mp h
    split
    · rename_i c
      exact List.pairwise_cons.mpr ⟨fun y hy => by
        rcases List.mem_cons.mp hy with rfl | hy
        · exact c
        · exact Int.le_trans c (h1 y hy), h⟩
    · rename_i c
      refine List.pairwise_cons.mpr ⟨fun y hy => ?_, insI_sorted n r h2⟩
      rcases List.mem_cons.mp ((insI_perm n r).mem_iff.mp hy) with rfl | hy
      · omega
      · exact h1 y hy
theorem sortI_sorted : ∀ l : List Int, (sortI l).Pairwise (· ≤ ·)
  | [] => .nil
  | n :: r => insI_sorted n _ (sortI_sorted r)
theorem sortI_uniq {ns l : List Int} (p : ns.Perm l) (h : ns.Pairwise (· ≤ ·)) : ns = sortI l :=
  List.Perm.eq_of_pairwise (fun _ _ _ _ a b => Int.le_antisymm a b) h (sortI_sorted l) (p.trans (sortI_perm l).symm)
theorem maxI_mem : ∀ (l : List Int) (m : Int), maxI m l = m ∨ maxI m l ∈ l
  | [], m => .inl rfl
  | n :: r, m => by
    unfold maxI
    rcases maxI_mem r (if n > m then n else m) with h | h
    · rw [h]
      split
      · exact .inr (List.mem_cons_self ..)
      · exact .inl rfl
    · exact .inr (List.mem_cons_of_mem _ h)
theorem maxI_ge : ∀ (l : List Int) (m : Int), m ≤ maxI m l ∧ ∀ y ∈ l, y ≤ maxI m l
  | [], m => ⟨Int.le_refl _, fun _ h => by cases h⟩
  | n :: r, m => by
    unfold maxI
    obtain ⟨h1, h2⟩ := maxI_ge r (if n > m then n else m)
    have h3 : m ≤ (if n > m then n else m) ∧ n ≤ (if n > m then n else m) := by split <;> omega
    exact ⟨Int.le_trans h3.1 h1, fun y hy => by
      rcases List.mem_cons.mp hy with rfl | hy
      · exact Int.le_trans h3.2 h1
      · exact h2 y hy⟩
theorem minI_mem : ∀ (l : List Int) (m : Int), minI m l = m ∨ minI m l ∈ l
  | [], m => .inl rfl
  | n :: r, m => by
    unfold minI
    rcases minI_mem r (if n < m then n else m) with h | h
    · rw [h]
      split
      · exact .inr (List.mem_cons_self ..)
      · exact .inl rfl
    · exact .inr (List.mem_cons_of_mem _ h)
theorem minI_le : ∀ (l : List Int) (m : Int), minI m l ≤ m ∧ ∀ y ∈ l, minI m l ≤ y
  | [], m => ⟨Int.le_refl _, fun _ h => by cases h⟩
  | n :: r, m => by
    unfold minI
    obtain ⟨h1, h2⟩ := minI_le r (if n < m then n else m)
    have h3 : (if n < m then n else m) ≤ m ∧ (if n < m then n else m) ≤ n := by split <;> omega
    exact ⟨Int.le_trans h1 h3.1, fun y hy => by
      rcases List.mem_cons.mp hy with rfl | hy
      · exact Int.le_trans h1 h3.2
      · exact h2 y hy⟩
theorem max_uniq {n m : Int} {r : List Int} (h1 : m ∈ n :: r) (h2 : ∀ y, y ∈ n :: r → y ≤ m) : m = maxI n r := by
  obtain ⟨g1, g2⟩ := maxI_ge r n
  refine Int.le_antisymm ?_ (h2 _ ?_)
  · rcases List.mem_cons.mp h1 with rfl | h
    · exact g1
    · exact g2 m h
  · rcases maxI_mem r n with h | h
    · rw [h]; exact List.mem_cons_self ..
    · exact List.mem_cons_of_mem _ h
theorem min_uniq {n m : Int} {r : List Int} (h1 : m ∈ n :: r) (h2 : ∀ y, y ∈ n :: r → m ≤ y) : m = minI n r := by
  obtain ⟨g1, g2⟩ := minI_le r n
  refine Int.le_antisymm (h2 _ ?_) ?_
  · rcases minI_mem r n with h | h
    · rw [h]; exact List.mem_cons_self ..
    · exact List.mem_cons_of_mem _ h
  · rcases List.mem_cons.mp h1 with rfl | h
    · exact g1
    · exact g2 m h

/-! ### built-ins -/
inductive VaL (K : PySem.W.Frag) (H : Hp) (M : Mk) : List V → List D → Prop
  | nil : VaL K H M [] []
  | cons {v : V} {d : D} {vs : List V} {ds : List D} : Va K H M v d → VaL K H M vs ds → VaL K H M (v :: vs) (d :: ds)
theorem VaL.one {K : PySem.W.Frag} {H : Hp} {M : Mk} {vs : List V} {d : D} (p : VaL K H M vs [d]) : ∃ v, vs = [v] ∧ Va K H M v d := by
  cases p with
  | cons p q => cases q; exact ⟨_, rfl, p⟩
theorem VaL.two {K : PySem.W.Frag} {H : Hp} {M : Mk} {vs : List V} {d e : D} (p : VaL K H M vs [d, e]) : ∃ v w, vs = [v, w] ∧ Va K H M v d ∧ Va K H M w e := by
  cases p with
  | cons p q => obtain ⟨w, rfl, r⟩ := q.one; exact ⟨_, _, rfl, p, r⟩
def fOf : Bt → Value
  | .len => .builtin "len" | .int => .type "int" | .abs => .builtin "abs" | .min => .builtin "min" | .max => .builtin "max" | .sum => .builtin "sum"
  | .any => .builtin "any" | .all => .builtin "all" | .sorted => .builtin "sorted" | .tuple => .type "tuple" | .list => .type "list" | .divmod => .builtin "divmod"
  | .str => .type "str" | .gcd => .builtin "math.gcd" | .bool => .type "bool" | .dict => .type "dict"
def rBlt (K : PySem.W.Frag) (b : Bt) : List V → Hp → VK → Prop := fun xs H Q => ∃ (M : Mk) (us : List D) (r : R), Dom H M ∧ VaL K H M xs us ∧ bltD b us = some r ∧ ∀ z H', Ext H H' → Rs K H H' M r z → Q z H'
section
variable {X : Cx}
theorem goodS_of {ys : List D} (h : goodS ys = true) : SeqAt.shaped (.list ys) = true ∧ PySem.W.AllAlike ys ∧ PySem.W.Sortable ys := by
  unfold goodS at h
  simp only [Bool.and_eq_true, Bool.or_eq_true, List.all_eq_true] at h
  obtain ⟨h1, h2, h3⟩ := h
  refine ⟨h1, fun d hd d' hd' => h2 d hd d' hd', ?_⟩
  rcases h3 with h3 | h3
  · refine .inl fun d hd => ?_
    have := h3 d hd
    cases d with
    | tuple xs => cases xs with
      | nil => cases this
      | cons x r => exact ⟨x, r, rfl⟩
    | _ => cases this
  · refine .inr fun d hd => ?_
    have := h3 d hd
    cases d with
    | none => cases this
    | tuple xs => cases this
    | _ => exact ⟨(fun z => by cases z), fun xs z => by cases z⟩
theorem _root_.Ip.Va.dictT {K : PySem.W.Frag} {H : Hp} {M : Mk} {v : V} {es : List (D × D)} (p : Va K H M v (.dict ((.none, .none) :: es))) : ∃ a vs, v = .ref a ∧ H a = some (.dT vs) ∧ PuT K H M vs es := by
  obtain ⟨a, rfl, ⟨vs, _, q⟩ | ⟨vs, es', e2, h, q⟩⟩ := p.dict
  · exact q.nomark.elim
  · cases e2
    exact ⟨a, vs, rfl, h, q⟩
theorem keysPu {K : PySem.W.Frag} {H : Hp} {M : Mk} (dm : Dom H M) : ∀ {kvs : List (List Key × V)} {bs : List Addr} {es : List (D × D)}, IsKeys H kvs bs → PuT K H M kvs es → PuA K H M (bs.map V.ref) (es.map (·.1))
  | [], _, _, k, p => by cases k; cases p; exact .nil
  | kv :: kvs, bs, es, k, p => by
    cases p with
    | @cons ns v _ e ds pv p =>
      cases k with
      | @cons _ b _ bs h k =>
        rw [kV_ints] at h
        exact .cons (.tup h (fun z => (dm _ z).2 _ h) (PuA.ints ns)) (keysPu dm k p)
theorem truths_at {K : PySem.W.Frag} {prog : Program} {w : World} {A : Around} {H : Hp} {M : Mk} {vs : List V} {ys : List D} {its : List Value} {bs : List Bool} (pa : PuA K H M vs ys) (rv : Vals vs its) (e : truthsOf ys = some bs) :
    its.length = bs.length ∧ TruthOf prog w A (fun i v => its.toArray[i]? = some v) (fun i => bs.getD i false) := by
  unfold truthsOf at e
  split at e
  · rename_i b eb
    cases e
    rw [pa.bools_inv eb] at rv
    have := rv.bls
    exact ⟨by rw [this, List.length_map], truth_bools this⟩
  · rw [Option.map_eq_some_iff] at e
    obtain ⟨ns, e1, rfl⟩ := e
    rw [pa.ints_inv e1] at rv
    exact ⟨by rw [List.length_map, rv.ints.length], truth_ints rv.ints⟩
theorem blt_all (hu : X.A.units + 67 < cLine) (hc : X.calm = true) (b : Bt) : CallR X (fOf b) (rBlt X.K b) := by
  intro pins s σ H xs us Q I rs ⟨M, ds, r, dm, px, h, q⟩
  have int : ∀ (i : Int), r = .d (.int i) → Q (.int i) H := fun i e => q _ _ .refl (by rw [e]; exact .int i)
  unfold bltD at h
  split at h
  · obtain ⟨x, rfl, p⟩ := px.one
    split at h
    · cases h
      rw [p.str] at rs
      exact call_len pins s σ H _ us Q I rs ⟨_, _, rfl, ⟨lim_line (by assumption), rfl⟩, int _ rfl⟩
    · cases h
  · obtain ⟨x, rfl, p⟩ := px.one
    obtain ⟨a, vs, rfl, ha, pa⟩ := p.list
    cases h
    exact call_len_seq pins s σ H _ us Q I rs ⟨_, _, rfl, .inl ha, by rw [pa.length]; exact int _ rfl⟩
  · obtain ⟨x, rfl, p⟩ := px.one
    obtain ⟨a, vs, rfl, ha, pa⟩ := p.tuple
    cases h
    exact call_len_seq pins s σ H _ us Q I rs ⟨_, _, rfl, .inr ha, by rw [pa.length]; exact int _ rfl⟩
  · obtain ⟨x, rfl, p⟩ := px.one
    rw [p.int] at rs
    cases h
    exact call_int1 pins s σ H _ us Q I rs (.inl ⟨_, rfl, int _ rfl⟩)
  · obtain ⟨x, rfl, p⟩ := px.one
    rw [p.bool] at rs
    cases h
    exact call_int1 pins s σ H _ us Q I rs (.inr ⟨_, rfl, int _ rfl⟩)
  · obtain ⟨x, rfl, p⟩ := px.one
    rw [p.int] at rs
    cases h
    exact call_abs pins s σ H _ us Q I rs ⟨_, rfl, int _ rfl⟩
  · obtain ⟨x, y, rfl, p1, p2⟩ := px.two
    rw [p1.int, p2.int] at rs
    cases h
    exact call_min2 hc pins s σ H _ us Q I rs ⟨_, _, rfl, int _ rfl⟩
  · obtain ⟨x, y, rfl, p1, p2⟩ := px.two
    rw [p1.int, p2.int] at rs
    cases h
    exact call_max2 hc pins s σ H _ us Q I rs ⟨_, _, rfl, int _ rfl⟩
  · obtain ⟨x, rfl, p⟩ := px.one
    obtain ⟨a, vs, rfl, ha, pa⟩ := p.list
    simp only [Option.bind_eq_some_iff] at h
    obtain ⟨ns, e, h⟩ := h
    rw [pa.ints_inv e] at ha
    cases ns with
    | nil => cases h
    | cons n t =>
      cases h
      exact cr_min hc pins s σ H _ us Q I rs ⟨_, _, rfl, ha, Nat.succ_pos _, fun m h1 h2 => by rw [min_uniq h1 h2]; exact int _ rfl⟩
  · obtain ⟨x, rfl, p⟩ := px.one
    obtain ⟨a, vs, rfl, ha, pa⟩ := p.list
    simp only [Option.bind_eq_some_iff] at h
    obtain ⟨ns, e, h⟩ := h
    rw [pa.ints_inv e] at ha
    cases ns with
    | nil => cases h
    | cons n t =>
      cases h
      exact cr_max hc pins s σ H _ us Q I rs ⟨_, _, rfl, ha, Nat.succ_pos _, fun m h1 h2 => by rw [max_uniq h1 h2]; exact int _ rfl⟩
  · obtain ⟨x, rfl, p⟩ := px.one
    obtain ⟨a, vs, rfl, ha, pa⟩ := p.list
    simp only [Option.bind_eq_some_iff] at h
    obtain ⟨ns, e, h⟩ := h
    rw [pa.ints_inv e] at ha
    cases h
    exact cr_sum hc pins s σ H _ us Q I rs ⟨_, _, rfl, ha, int _ rfl⟩
  · obtain ⟨x, rfl, p⟩ := px.one
    obtain ⟨a, vs, rfl, ha, pa⟩ := p.list
    simp only [Option.bind_eq_some_iff] at h
    obtain ⟨bs, e, h⟩ := h
    cases h
    obtain ⟨its, rv, hl, _⟩ := I.list ha
    rw [Vals.ref1 rs]
    obtain ⟨h1, h2⟩ := truths_at pa rv e
    exact anyG (tup := false) hc I hl.isList h1 h2 (q _ _ .refl (.bl _))
  · obtain ⟨x, rfl, p⟩ := px.one
    obtain ⟨a, vs, rfl, ha, pa⟩ := p.list
    simp only [Option.bind_eq_some_iff] at h
    obtain ⟨bs, e, h⟩ := h
    cases h
    obtain ⟨its, rv, hl, _⟩ := I.list ha
    rw [Vals.ref1 rs]
    obtain ⟨h1, h2⟩ := truths_at pa rv e
    exact allG (tup := false) hc I hl.isList h1 h2 (q _ _ .refl (.bl _))
  · obtain ⟨x, rfl, p⟩ := px.one
    obtain ⟨a, vs, rfl, ha, pa⟩ := p.tuple
    simp only [Option.bind_eq_some_iff] at h
    obtain ⟨ns, e, h⟩ := h
    rw [pa.ints_inv e] at ha
    cases ns with
    | nil => cases h
    | cons n t =>
      cases h
      obtain ⟨its, rv, hl, _⟩ := I.tuple ha
      rw [Vals.ref1 rs]
      exact minT_raw (I.ok.hd hc) hl rv.ints (Nat.succ_pos _) fun h' tk m t' hk h1 h2 => ⟨.int _, H, I.kept hk, ⟨_, rfl⟩, by rw [min_uniq h1 h2]; exact int _ rfl⟩
  · obtain ⟨x, rfl, p⟩ := px.one
    obtain ⟨a, vs, rfl, ha, pa⟩ := p.tuple
    simp only [Option.bind_eq_some_iff] at h
    obtain ⟨ns, e, h⟩ := h
    rw [pa.ints_inv e] at ha
    cases ns with
    | nil => cases h
    | cons n t =>
      cases h
      obtain ⟨its, rv, hl, _⟩ := I.tuple ha
      rw [Vals.ref1 rs]
      exact maxT_raw (I.ok.hd hc) hl rv.ints (Nat.succ_pos _) fun h' tk m t' hk h1 h2 => ⟨.int _, H, I.kept hk, ⟨_, rfl⟩, by rw [max_uniq h1 h2]; exact int _ rfl⟩
  · obtain ⟨x, rfl, p⟩ := px.one
    obtain ⟨a, vs, rfl, ha, pa⟩ := p.tuple
    simp only [Option.bind_eq_some_iff] at h
    obtain ⟨ns, e, h⟩ := h
    rw [pa.ints_inv e] at ha
    cases h
    obtain ⟨its, rv, hl, _⟩ := I.tuple ha
    rw [Vals.ref1 rs]
    exact sumT_raw (I.ok.hd hc) hl rv.ints fun h' tk t' hk => ⟨.int _, H, I.kept hk, ⟨_, rfl⟩, int _ rfl⟩
  · obtain ⟨x, rfl, p⟩ := px.one
    obtain ⟨a, vs, rfl, ha, pa⟩ := p.tuple
    simp only [Option.bind_eq_some_iff] at h
    obtain ⟨bs, e, h⟩ := h
    cases h
    obtain ⟨its, rv, hl, _⟩ := I.tuple ha
    rw [Vals.ref1 rs]
    obtain ⟨h1, h2⟩ := truths_at pa rv e
    exact anyG (tup := true) hc I (tuple_of hl) h1 h2 (q _ _ .refl (.bl _))
  · obtain ⟨x, rfl, p⟩ := px.one
    obtain ⟨a, vs, rfl, ha, pa⟩ := p.tuple
    simp only [Option.bind_eq_some_iff] at h
    obtain ⟨bs, e, h⟩ := h
    cases h
    obtain ⟨its, rv, hl, _⟩ := I.tuple ha
    rw [Vals.ref1 rs]
    obtain ⟨h1, h2⟩ := truths_at pa rv e
    exact allG (tup := true) hc I (tuple_of hl) h1 h2 (q _ _ .refl (.bl _))
  · obtain ⟨x, rfl, p⟩ := px.one
    obtain ⟨a, vs, rfl, ha, pa⟩ := p.list
    replace h : sortD _ = some _ := h
    unfold sortD at h
    split at h
    · rename_i ns e
      rw [pa.ints_inv e] at ha
      cases h
      exact cr_sortedI pins s σ H _ us Q I rs ⟨_, _, rfl, ha, fun ns' p h1 h2 n => by
        rw [sortI_uniq h1 h2]
        exact q _ _ (.upd n) (Rs.lst dm n (PuA.ints _))⟩
    · split at h
      · rename_i ks e
        obtain ⟨rfl, hne⟩ := tupsOf_map e
        cases h
        rw [Vals.ref1 rs]
        exact sorted_tups I (.inl ha) pa hne fun ys p n pd => q _ _ (.upd n) (Rs.lst dm n pd)
      · split at h
        · rename_i g
          cases h
          rw [Vals.ref1 rs]
          obtain ⟨g1, g2, g3⟩ := goodS_of g
          exact sorted_alike (by omega) I ha pa g1 g2 g3 fun ys p n pd => q _ _ (.upd n) (Rs.lst dm n pd)
        · cases h
  · obtain ⟨x, rfl, p⟩ := px.one
    obtain ⟨a, vs, rfl, ha, pa⟩ := p.tuple
    replace h : sortU _ = some _ := h
    unfold sortU at h
    rw [Vals.ref1 rs]
    split at h
    · rename_i ns e
      rw [pa.ints_inv e] at ha
      cases h
      exact sorted_intsQ I (.inr ha) fun ns' p h1 h2 n => by
        rw [sortI_uniq h1 h2]
        exact q _ _ (.upd n) (Rs.lst dm n (PuA.ints _))
    · simp only [Option.bind_eq_some_iff] at h
      obtain ⟨ks, e, h⟩ := h
      obtain ⟨rfl, hne⟩ := tupsOf_map e
      cases h
      exact sorted_tups I (.inr ha) pa hne fun ys p n pd => q _ _ (.upd n) (Rs.lst dm n pd)
  · obtain ⟨x, rfl, p⟩ := px.one
    obtain ⟨a, vs, rfl, ha, pa⟩ := p.dictT
    simp only [Option.bind_eq_some_iff] at h
    obtain ⟨ks, e, h⟩ := h
    obtain ⟨e1, hne⟩ := tupsOf_map e
    cases h
    rw [Vals.ref1 rs]
    exact sorted_dT hc I dm ha pa e1 hne fun ys p n pd => q _ _ (.upd n) (Rs.lst dm n pd)
  · obtain ⟨x, rfl, p⟩ := px.one
    obtain ⟨a, vs, rfl, ha, pa⟩ := p.dictT
    cases h
    exact call_len_dT pins s σ H _ us Q I rs ⟨_, _, rfl, ha, by rw [pa.length]; exact int _ rfl⟩
  · obtain ⟨x, rfl, p⟩ := px.one
    obtain ⟨a, vs, rfl, ha, pa⟩ := p.dictT
    cases h
    exact call_list_dT hc pins s σ H _ us Q I rs ⟨_, _, rfl, .inl ha, fun l bs n ks => q _ _ (.upd n) (Rs.lst dm n (keysPu dm ks pa))⟩
  · obtain ⟨x, rfl, p⟩ := px.one
    obtain ⟨a, vs, rfl, ha, pa⟩ := p.list
    rw [Option.map_eq_some_iff] at h
    obtain ⟨ds, e, rfl⟩ := h
    rw [Vals.ref1 rs]
    exact call_dictT (by omega) hc I dm ha pa e fun p kvs es n e2 pt => q _ _ (.upd n) ⟨p, rfl, n, .inr ⟨kvs, es, e2, upd_same, pt.mono (fun b o e _ => Ext.upd n b o e) fun b o e z => by
      rcases z with z | rfl
      · exact z
      · rw [n] at e; cases e⟩⟩
  · obtain ⟨x, rfl, p⟩ := px.one
    obtain ⟨a, vs, rfl, ha, pa⟩ := p.list
    cases h
    exact call_tuple_of pins s σ H _ us Q I rs ⟨_, _, rfl, .inl ⟨ha, fun l n => q _ _ (.upd n) (Rs.tup dm n pa)⟩⟩
  · obtain ⟨x, rfl, p⟩ := px.one
    rename_i ds
    have pt : Pu X.K H M x (.tuple ds) := p.pu (fun _ z => nomatch z) fun _ z => nomatch z
    obtain ⟨a, vs, rfl, ha, pa⟩ := pt.tuple
    cases h
    exact call_tuple_of pins s σ H _ us Q I rs ⟨_, _, rfl, .inr ⟨ha, q _ _ .refl pt⟩⟩
  · obtain ⟨x, rfl, p⟩ := px.one
    obtain ⟨a, vs, rfl, ha, pa⟩ := p.list
    cases h
    exact call_list_of pins s σ H _ us Q I rs ⟨_, _, rfl, .inl ha, fun l n => q _ _ (.upd n) (Rs.lst dm n pa)⟩
  · obtain ⟨x, rfl, p⟩ := px.one
    obtain ⟨a, vs, rfl, ha, pa⟩ := p.tuple
    cases h
    exact call_list_of pins s σ H _ us Q I rs ⟨_, _, rfl, .inr ha, fun l n => q _ _ (.upd n) (Rs.lst dm n pa)⟩
  · obtain ⟨x, y, rfl, p1, p2⟩ := px.two
    rw [p1.int, p2.int] at rs
    split at h
    · rename_i c
      simp only [Bool.and_eq_true, decide_eq_true_eq] at c
      cases h
      exact call_divmod pins s σ H _ us Q I rs ⟨_, _, rfl, c, fun p n => q _ _ (.upd n) (Rs.tup dm n (.cons (.int _) (.cons (.int _) .nil)))⟩
    · cases h
  · cases h

/-! ### isinstance -/
def tyName : Ty → String
  | .int => "int" | .bool => "bool" | .str => "str" | .tuple => "tuple" | .list => "list" | .dict => "dict"
theorem va_ty {K : PySem.W.Frag} {H : Hp} {M : Mk} {x : V} {u : D} (p : Va K H M x u) : ∃ n : String, TyX K H x (.type n) ∧ (∀ t : Ty, PySem.W.kitOne K (.type n) (.type (tyName t)) = some (isTy u t)) := by
  have kit : ∀ (n : String) (o : Option Ty), (∀ t, kitB n (tyName t) = some (isTyO o t)) → ∀ t, PySem.W.kitOne K (.type n) (.type (tyName t)) = some (isTyO o t) := fun n f h t => kit_ty (h t)
  cases u with
  | none => rw [p.none]; exact ⟨_, .base .non, kit _ (none) fun t => by cases t <;> decide +kernel⟩
  | bool b => rw [p.bool]; exact ⟨_, .base (.bl b), kit _ (some .bool) fun t => by cases t <;> decide +kernel⟩
  | int b => rw [p.int]; exact ⟨_, .base (.int b), kit _ (some .int) fun t => by cases t <;> decide +kernel⟩
  | str b => rw [p.str]; exact ⟨_, .base (.str b), kit _ (some .str) fun t => by cases t <;> decide +kernel⟩
  | list ds =>
    obtain ⟨a, vs, rfl, hs, _⟩ := p.list
    have k : ∀ t, PySem.W.kitOne K (.type "list") (.type (tyName t)) = some (isTy (.list ds) t) := kit _ (some .list) fun t => by cases t <;> decide +kernel
    rcases hs with (h | ⟨o, h⟩) | ⟨o, its, n, h1, h2, _⟩
    · exact ⟨_, .base (.lst h), k⟩
    · exact ⟨_, .base (.frz h), k⟩
    · exact ⟨_, .kList h1 h2, k⟩
  | tuple ds =>
    obtain ⟨a, vs, rfl, hs, _⟩ := p.tuple
    have k : ∀ t, PySem.W.kitOne K (.type "tuple") (.type (tyName t)) = some (isTy (.tuple ds) t) := kit _ (some .tuple) fun t => by cases t <;> decide +kernel
    rcases hs with (h | ⟨o, h⟩) | ⟨o, its, n, h1, h2, _⟩
    · exact ⟨_, .base (.tup h), k⟩
    · exact ⟨_, .fTuple h, k⟩
    · exact ⟨_, .kTuple h1 h2, k⟩
  | dict ds =>
    have k : ∀ t, PySem.W.kitOne K (.type "dict") (.type (tyName t)) = some (isTy (.dict ds) t) := kit _ (some .dict) fun t => by cases t <;> decide +kernel
    rcases p with (p | ⟨a, rfl, c⟩) | ⟨a, ns, e, e2, _⟩
    · cases p with
      | dct e n q => exact ⟨_, .base (.dK e), k⟩
      | dctT e n q => exact ⟨_, .base (.dT e), k⟩
    · rcases c with ⟨vs, e, _⟩ | ⟨vs, es, _, e, _⟩
      · exact ⟨_, .base (.dK e), k⟩
      · exact ⟨_, .base (.dT e), k⟩
    · cases e2
theorem kit_any {K : PySem.W.Frag} {n : String} {f : Ty → Bool} (h : ∀ t, PySem.W.kitOne K (.type n) (.type (tyName t)) = some (f t)) : ∀ ts : List Ty, PySem.W.kitAny K (.type n) (ts.map fun t => .type (tyName t)) = some (ts.any f)
  | [] => rfl
  | t :: ts => by
    rw [List.map_cons, PySem.W.kitAny, h t]
    cases e : f t with
    | true => simp [e]
    | false => simp [e, kit_any h ts]

/-! ### methods -/
def mId : Mt → String
  | .index => "list.index" | .count => "list.count" | .join => "str.join" | .split => "str.split" | .startswith => "str.startswith" | .endswith => "str.endswith"
theorem indexD_some {y : D} : ∀ {l : List D} {k j : Nat}, indexD y l k = some j → k ≤ j ∧ (∃ z, l[j - k]? = some z ∧ PyData.eqv z y = true) ∧ ∀ (m : Nat) (z' : D), m < j - k → l[m]? = some z' → PyData.eqv z' y = false
  | [], k, j, h => by cases h
  | z :: r, k, j, h => by
    unfold indexD at h
    split at h
    · rename_i c
      cases h
      refine ⟨Nat.le_refl _, ⟨z, by simp, c⟩, fun m z' hm _ => by omega⟩
    · rename_i c
      obtain ⟨h1, ⟨z1, h2, h3⟩, h4⟩ := indexD_some h
      have e : j - k = (j - (k + 1)) + 1 := by omega
      refine ⟨by omega, ⟨z1, by rw [e]; simpa using h2, h3⟩, fun m z' hm hz => ?_⟩
      cases m with
      | zero => simp at hz; subst hz; simpa using c
      | succ m => exact h4 m z' (by omega) (by simpa using hz)
def rCountD (K : PySem.W.Frag) : V → List V → Hp → VK → Prop := fun x xs H Q => ∃ (a : Addr) (y : V) (d : D) (ds : List D), x = .ref a ∧ xs = [y] ∧ Dp K H (.ref a) (.list ds) ∧ Dp K H y d ∧ SeqAt.shaped (.list ds) = true ∧ SeqAt.shaped d = true ∧ Q (.int ((ds.countP fun z => PyData.eqv z d : Nat) : Int)) H
theorem mt_countD (hu : X.A.units + 65 < cLine) : MtR X "list.count" (rCountD X.K) := by
  intro pins s σ H x xs v us Q I rx rxs h
  obtain ⟨a, y, d, ds, rfl, rfl, hl, hy, sl, sd, q⟩ := h
  cases rx
  cases rxs with
  | cons ry rt =>
    rename_i uy ut
    cases rt
    obtain ⟨bs, r1⟩ := Dp.reads I d y uy hy ry
    have hxs : PyData.canLayAll0 ds = true := SeqAt.canLay_of_shaped sl
    have hroom : X.A.units + 1 + min (PyData.depthAll ds) d.depth < cLine := room_in_shaped sd hu
    cases hl with
    | lst hs ha =>
      obtain ⟨its, rv, ⟨⟨cls, dd, data, sls⟩, n, ho, hc, hdn, hdt⟩, hlen⟩ := I.list hs
      simp only at hc hdt
      subst hc hdt
      obtain ⟨as, h4⟩ := Dp.readsAll I ds _ its ha rv
      have hmap : its.map (SeqAt.readOf s.heap) = ds := SeqAt.readsAll_map ds its as hxs h4
      refine call_meets PySem.F.slot_list_count ⟨_, ho, rfl⟩ PySem.F.entry_list_count (PySem.F.args_list_count_2 _ _)
        (SeqAt.list_countAt a its.toArray n dd sls uy (fun u => PyData.eqv (SeqAt.readOf s.heap u) d)) ⟨ho, SeqAt.items_eqAt (vs := its.toArray) (show ReadsAll s.heap its.toArray.toList ds as from h4) r1 hxs (SeqAt.canLay_of_shaped sd) hroom, ?_⟩
      refine ⟨.int ((ds.countP fun z => PyData.eqv z d : Nat) : Int), H, I.tok _, ⟨s.toks, ?_⟩, q⟩
      show Value.int ((its.toArray.toList.countP _ : Nat) : Int) s.toks = _
      rw [← hmap, List.countP_map]
      rfl
def rMth (K : PySem.W.Frag) (m : Mt) : V → List V → Hp → VK → Prop := fun x xs H Q => ∃ (M : Mk) (u : D) (us : List D) (r : R), Dom H M ∧ Va K H M x u ∧ VaL K H M xs us ∧ mthD m u us = some r ∧ ∀ z H', Ext H H' → Rs K H H' M r z → Q z H'
theorem mth_all (hu : X.A.units + 65 < cLine) (m : Mt) : MtR X (mId m) (rMth X.K m) := by
  intro pins s σ H x xs v us Q I rx rs ⟨M, d, ds, r, dm, px, pxs, h, q⟩
  unfold mthD at h
  split at h
  · obtain ⟨y, rfl, py⟩ := pxs.one
    obtain ⟨a, vs, rfl, ha, pa⟩ := px.list
    split at h
    · rename_i c
      rw [Bool.and_eq_true] at c
      rw [Option.map_eq_some_iff] at h
      obtain ⟨j, e, rfl⟩ := h
      obtain ⟨_, ⟨z, h2, h3⟩, h4⟩ := indexD_some e
      rw [Nat.sub_zero] at h2 h4
      exact mt_indexD hu pins s σ H _ _ v us Q I rx rs ⟨a, y, _, _, j, z, rfl, rfl, px.dp c.1, py.dp c.2, c.1, c.2, h2, h3, h4, q _ _ .refl (.int _)⟩
    · cases h
  · obtain ⟨y, rfl, py⟩ := pxs.one
    obtain ⟨a, vs, rfl, ha, pa⟩ := px.list
    split at h
    · rename_i c
      rw [Bool.and_eq_true] at c
      cases h
      exact mt_countD hu pins s σ H _ _ v us Q I rx rs ⟨a, y, _, _, rfl, rfl, px.dp c.1, py.dp c.2, c.1, c.2, q _ _ .refl (.int _)⟩
    · cases h
  · cases h
/-! .. of tuples -/
def mIdT : Mt → String
  | .index => "tuple.index" | .count => "tuple.count" | .join => "str.join" | .split => "str.split" | .startswith => "str.startswith" | .endswith => "str.endswith"
theorem mt_indexT (hu : X.A.units + 65 < cLine) {pins : List (Addr × Obj)} {s : Shared} {σ : L2.St} {H : Hp} {a : Addr} {y : V} {v : Value} {us : List Value} {d : D} {ds : List D} {j : Nat} {z : D} {Q : VK} (I : Inv X pins σ H s) (rx : RelV (.ref a) v) (rxs : Vals [y] us)
    (hl : Dp X.K H (.ref a) (.tuple ds)) (hy : Dp X.K H y d) (sl : SeqAt.shaped (.tuple ds) = true) (sd : SeqAt.shaped d = true) (hz : ds[j]? = some z) (hzj : PyData.eqv z d = true) (hno : ∀ (m : Nat) (z' : D), m < j → ds[m]? = some z' → PyData.eqv z' d = false) (q : Q (.int (j : Nat)) H) :
    wpAny (model X.prog X.w) X.A (call (.builtin "tuple.index") (v :: us)) (fun r s' => ∃ x H', Inv X pins σ H' s' ∧ RelV x r ∧ Q x H') X.xe s := by
  cases rx
  cases rxs with
  | cons ry rt =>
    rename_i uy ut
    cases rt
    obtain ⟨bs, r1⟩ := Dp.reads I d y uy hy ry
    have hxs : PyData.canLayAll0 ds = true := by simpa only [PyData.canLay0] using SeqAt.canLay_of_shaped sl
    have hroom : X.A.units + 1 + min (PyData.depthAll ds) d.depth < cLine := room_in_shaped sd hu
    cases hl with
    | tup hs ha =>
      obtain ⟨its, rv, ⟨⟨cls, dd, data, sls⟩, ho, hc, n, hdt⟩, hlen⟩ := I.tuple hs
      simp only at hc hdt
      subst hc hdt
      obtain ⟨as, h4⟩ := Dp.readsAll I ds _ its ha rv
      have hn : its.length = ds.length := SeqAt.ReadsAll.length ds its as h4
      have hmap : its.map (SeqAt.readOf s.heap) = ds := SeqAt.readsAll_map ds its as hxs h4
      obtain ⟨hjd, _⟩ := List.getElem?_eq_some_iff.mp hz
      have hjl : j < its.length := by omega
      have hj : j < its.toArray.size := by simpa using hjl
      have at_ : ∀ (m : Nat) (hm : m < its.toArray.size) (z' : PyData), ds[m]? = some z' → SeqAt.readOf s.heap its.toArray[m] = z' := by
        intro m hm z' hz'
        have hml : m < its.length := by simpa using hm
        rw [← hmap, List.getElem?_map, List.getElem?_eq_getElem hml] at hz'
        have e1 : SeqAt.readOf s.heap its[m] = z' := Option.some.inj (show some (SeqAt.readOf s.heap its[m]) = some z' from hz')
        simpa using e1
      refine call_meets PySem.F.slot_tuple_index ⟨_, ho, rfl⟩ PySem.F.entry_tuple_index (PySem.F.args_tuple_index_2 _ _)
        (TI.tuple_indexAt a its.toArray n dd sls uy (fun u => PyData.eqv (SeqAt.readOf s.heap u) d) j hj ?_ ?_) ⟨ho, SeqAt.items_eqAt (vs := its.toArray) (show ReadsAll s.heap its.toArray.toList ds as from h4) r1 hxs (SeqAt.canLay_of_shaped sd) hroom, ?_⟩
      · show PyData.eqv (SeqAt.readOf s.heap its.toArray[j]) d = true
        rw [at_ j hj z hz]
        exact hzj
      · intro m hm hmj
        have hmd : m < ds.length := by omega
        have hz' : ds[m]? = some ds[m] := List.getElem?_eq_getElem hmd
        show PyData.eqv (SeqAt.readOf s.heap its.toArray[m]) d = false
        rw [at_ m hm _ hz']
        exact hno m _ hmj hz'
      · exact ⟨.int (j : Nat), H, I.tok _, ⟨_, rfl⟩, q⟩
theorem mt_countT (hu : X.A.units + 65 < cLine) {pins : List (Addr × Obj)} {s : Shared} {σ : L2.St} {H : Hp} {a : Addr} {y : V} {v : Value} {us : List Value} {d : D} {ds : List D} {Q : VK} (I : Inv X pins σ H s) (rx : RelV (.ref a) v) (rxs : Vals [y] us)
    (hl : Dp X.K H (.ref a) (.tuple ds)) (hy : Dp X.K H y d) (sl : SeqAt.shaped (.tuple ds) = true) (sd : SeqAt.shaped d = true) (q : Q (.int ((ds.countP fun z => PyData.eqv z d : Nat) : Int)) H) :
    wpAny (model X.prog X.w) X.A (call (.builtin "tuple.count") (v :: us)) (fun r s' => ∃ x H', Inv X pins σ H' s' ∧ RelV x r ∧ Q x H') X.xe s := by
  cases rx
  cases rxs with
  | cons ry rt =>
    rename_i uy ut
    cases rt
    obtain ⟨bs, r1⟩ := Dp.reads I d y uy hy ry
    have hxs : PyData.canLayAll0 ds = true := by simpa only [PyData.canLay0] using SeqAt.canLay_of_shaped sl
    have hroom : X.A.units + 1 + min (PyData.depthAll ds) d.depth < cLine := room_in_shaped sd hu
    cases hl with
    | tup hs ha =>
      obtain ⟨its, rv, ⟨⟨cls, dd, data, sls⟩, ho, hc, n, hdt⟩, hlen⟩ := I.tuple hs
      simp only at hc hdt
      subst hc hdt
      obtain ⟨as, h4⟩ := Dp.readsAll I ds _ its ha rv
      have hmap : its.map (SeqAt.readOf s.heap) = ds := SeqAt.readsAll_map ds its as hxs h4
      refine call_meets PySem.F.slot_tuple_count ⟨_, ho, rfl⟩ PySem.F.entry_tuple_count (PySem.F.args_tuple_count_2 _ _)
        (SeqAt.tuple_countAt a its.toArray n dd sls uy (fun u => PyData.eqv (SeqAt.readOf s.heap u) d)) ⟨ho, SeqAt.items_eqAt (vs := its.toArray) (show ReadsAll s.heap its.toArray.toList ds as from h4) r1 hxs (SeqAt.canLay_of_shaped sd) hroom, ?_⟩
      refine ⟨.int ((ds.countP fun z => PyData.eqv z d : Nat) : Int), H, I.tok _, ⟨s.toks, ?_⟩, q⟩
      show Value.int ((its.toArray.toList.countP _ : Nat) : Int) s.toks = _
      rw [← hmap, List.countP_map]
      rfl
def rMthT (K : PySem.W.Frag) (m : Mt) : V → List V → Hp → VK → Prop := fun x xs H Q => ∃ (M : Mk) (a : Addr) (ws : List V) (zs us : List D) (r : R), x = .ref a ∧ SqT K H a ws ∧ PuA K H M ws zs ∧ Dom H M ∧ VaL K H M xs us ∧ mthT m zs us = some r ∧ ∀ z H', Ext H H' → Rs K H H' M r z → Q z H'
theorem mthT_all (hu : X.A.units + 65 < cLine) (m : Mt) : MtR X (mIdT m) (rMthT X.K m) := by
  intro pins s σ H x xs v us Q I rx rs ⟨M, a, ws, zs, ds, r, ex, hs, pa, dm, pxs, h, q⟩
  subst ex
  have dpt : SeqAt.shaped (.tuple zs) = true → Dp X.K H (.ref a) (.tuple zs) := fun c => .tup hs (pa.dp (by simpa only [PyData.canLay0] using SeqAt.canLay_of_shaped c))
  unfold mthT at h
  split at h
  · obtain ⟨y, rfl, py⟩ := pxs.one
    split at h
    · rename_i c
      rw [Bool.and_eq_true] at c
      rw [Option.map_eq_some_iff] at h
      obtain ⟨j, e, rfl⟩ := h
      obtain ⟨_, ⟨z, h2, h3⟩, h4⟩ := indexD_some e
      rw [Nat.sub_zero] at h2 h4
      exact mt_indexT hu I rx rs (dpt c.1) (py.dp c.2) c.1 c.2 h2 h3 h4 (q _ _ .refl (.int _))
    · cases h
  · obtain ⟨y, rfl, py⟩ := pxs.one
    split at h
    · rename_i c
      rw [Bool.and_eq_true] at c
      cases h
      exact mt_countT hu I rx rs (dpt c.1) (py.dp c.2) c.1 c.2 (q _ _ .refl (.int _))
    · cases h
  · cases h
end
end Ip

set_option Elab.async false
set_option linter.all false
set_option maxRecDepth 100000
set_option maxHeartbeats 1000000
/-! Expressions: what the rules ask is what the interpreter gives. -/
namespace Ip
open PySem PySem.Spec PyProof.Rows L2

/-- the script: a list that nobody writes -/
def Sc (K : PySem.W.Frag) (H : Hp) (M : Mk) (a : Addr) (ns : List Int) : Prop := (¬ M a ∧ ∃ o, H a = some (.frz o (.lst (ns.map V.int)))) ∨ SqL K (fun _ => none) a (ns.map V.int)
theorem Sc.sq {K : PySem.W.Frag} {H : Hp} {M : Mk} {a : Addr} {ns : List Int} (h : Sc K H M a ns) : SqL K H a (ns.map V.int) := by
  rcases h with ⟨_, o, h⟩ | (h | h)
  · exact .inl (.inr ⟨o, h⟩)
  · rcases h with h | ⟨o, h⟩ <;> cases h
  · exact .inr h
/-- .. a tuple that has no dict -/
def Sv (K : PySem.W.Frag) (H : Hp) (M : Mk) (a : Addr) : D → Prop
  | .list ds => ∃ ns, ds = ns.map .int ∧ Sc K H M a ns
  | .tuple ys => ¬ M a ∧ ∃ o vs, H a = some (.frz o (.tup vs)) ∧ o.dict = none ∧ PuA K H M vs ys
  | _ => False
/-- new containers -/
def Rows (K : PySem.W.Frag) (H H' : Hp) (M' : Mk) (as : List Addr) (xs : List D) : Prop := as.length = xs.length ∧ ∀ (i : Nat) (b : Addr) (x : D), as[i]? = some b → xs[i]? = some x → H b = none ∧ M' b ∧ Ct K H' M' b x
/-- a result v of r at H', made since H -/
def RR (K : PySem.W.Frag) (fa : Nat → Addr) (μ : Nat → Addr) (n : Nat) (H H' : Hp) (M' : Mk) (r : R) (v : V) : Prop := match r with
  | .d x => Pu K H' M' v x
  | .l k => k < n ∧ v = .ref (μ k)
  | .f x => ∃ a, v = .ref a ∧ H a = none ∧ M' a ∧ Ct K H' M' a x
  | .fn k => v = .ref (fa k)
  | .s0 x => ∃ a, v = .ref a ∧ Sv K H' M' a x
  | .fr xs => ∃ a as, v = .ref a ∧ ¬ M' a ∧ H' a = some (.lst (as.map V.ref)) ∧ as.Nodup ∧ Rows K H H' M' as xs
  | .rw ks => ∃ a, v = .ref a ∧ ¬ M' a ∧ H' a = some (.lst (ks.map fun k => V.ref (μ k))) ∧ ∀ k ∈ ks, k < n
/-- what a name holds -/
def RV (K : PySem.W.Frag) (fa : Nat → Addr) (μ : Nat → Addr) (n : Nat) (H : Hp) (M : Mk) (r : R) (v : V) : Prop := match r with
  | .f _ => False
  | .fr _ => False
  | r => RR K fa μ n H H M r v
/-- what stands at a place: a container; or it is shut: just an object -/
def Pl (K : PySem.W.Frag) (H : Hp) (M : Mk) (a : Addr) (x : D) : Prop := (alive x = none ∧ ∃ o, H a = some o ∧ ∀ xs, o ≠ .tup xs) ∨ Ct K H M a x
theorem alive_some {x y : D} (e : alive x = some y) : y = x := by cases x <;> simp [alive] at e <;> exact e.symm
theorem Pl.ct {K : PySem.W.Frag} {H : Hp} {M : Mk} {a : Addr} {x y : D} (p : Pl K H M a x) (e : alive x = some y) : Ct K H M a y := by
  rcases p with ⟨h, _⟩ | p
  · rw [h] at e; cases e
  · rw [alive_some e]; exact p
theorem Pl.list {K : PySem.W.Frag} {H : Hp} {M : Mk} {a : Addr} {ds : List D} (p : Pl K H M a (.list ds)) : Ct K H M a (.list ds) := p.ct rfl
theorem Pl.mono {K : PySem.W.Frag} {H H' : Hp} {M M' : Mk} {a : Addr} {x : D} (h : ∀ b o, H b = some o → ¬ M b → H' b = some o) (hm : ∀ b o, H b = some o → M' b → M b) (ha : ∀ o, H a = some o → H' a = some o) (c : Pl K H M a x) : Pl K H' M' a x := by
  rcases c with ⟨h0, o, c, nt⟩ | c
  · exact .inl ⟨h0, o, ha o c, nt⟩
  · exact .inr (c.mono h hm ha)
theorem Ct.nt {K : PySem.W.Frag} {H : Hp} {M : Mk} {a : Addr} {x : D} (c : Ct K H M a x) (xs : List V) : H a ≠ some (.tup xs) := fun e => by
  cases x with
  | list ds => obtain ⟨vs, e2, _⟩ := c; rw [e] at e2; cases e2
  | dict ds => rcases c with ⟨vs, e2, _⟩ | ⟨vs, es, _, e2, _⟩ <;> (rw [e] at e2; cases e2)
  | _ => exact c.elim
theorem Pl.nt {K : PySem.W.Frag} {H : Hp} {M : Mk} {a : Addr} {x : D} (p : Pl K H M a x) (xs : List V) : H a ≠ some (.tup xs) := by
  rcases p with ⟨_, o, c, nt⟩ | p
  · intro e
    rw [c] at e
    exact nt xs (Option.some.inj e)
  · exact p.nt xs
theorem Pl.dom {K : PySem.W.Frag} {H : Hp} {M : Mk} {a : Addr} {x : D} (p : Pl K H M a x) : H a ≠ none := by
  rcases p with ⟨_, o, c, _⟩ | p
  · rw [c]; simp
  · exact p.dom
structure RS (K : PySem.W.Frag) (μ : Nat → Addr) (H : Hp) (M : Mk) (S : Store) : Prop where
  dom : Dom H M
  st : ∀ (k : Nat) (x : D), S[k]? = some x → M (μ k) ∧ Pl K H M (μ k) x
  inj : ∀ k m, k < S.length → m < S.length → μ k = μ m → k = m
structure Rp (K : PySem.W.Frag) (fa : Nat → Addr) (μ : Nat → Addr) (H : Hp) (M : Mk) (S : Store) (σd : Ev) (σ : L2.St) : Prop extends RS K μ H M S where
  ln : σd.length = σ.length
  sl : ∀ (i : Nat) (r : R), σd[i]? = some (some r) → ∃ v, σ[i]? = some (some v) ∧ RV K fa μ S.length H M r v
/-- from (H, M) and n objects to (H', M', S') -/
structure Go (K : PySem.W.Frag) (μ : Nat → Addr) (n : Nat) (H : Hp) (M : Mk) (H' : Hp) (M' : Mk) (S' : Store) : Prop where
  mm : ∀ b, M b → M' b
  new : ∀ b, M' b → M b ∨ H b = none
  dom : Dom H' M'
  fr : ∀ b o, H b = some o → (∀ k, k < n → b ≠ μ k) → H' b = some o
  dm : ∀ b, H b ≠ none → H' b ≠ none
  fz : ∀ b o u, H b = some (.frz o u) → H' b = some (.frz o u)
  ln : S'.length = n
  st : ∀ (k : Nat) (x : D), S'[k]? = some x → M' (μ k) ∧ Pl K H' M' (μ k) x
section
variable {K : PySem.W.Frag} {fa μ : Nat → Addr} {n : Nat} {H H1 H2 H' : Hp} {M M1 M2 M' : Mk} {S S1 S2 S' : Store} {σd : Ev} {σ : L2.St} {r : R} {v : V}
theorem lt_some {S : Store} {k : Nat} (h : k < S.length) : ∃ x, S[k]? = some x := ⟨_, List.getElem?_eq_getElem h⟩
theorem RS.mu (p : RS K μ H M S) {k : Nat} (h : k < S.length) : M (μ k) := let ⟨_, e⟩ := lt_some h; (p.st k _ e).1
theorem RS.ne (p : RS K μ H M S) {b : Addr} (h : ¬ M b) : ∀ k, k < S.length → b ≠ μ k := fun k hk e => h (e ▸ p.mu hk)
theorem RS.refl (p : RS K μ H M S) : Go K μ S.length H M H M S := ⟨fun _ z => z, fun _ z => .inl z, p.dom, fun _ _ e _ => e, fun _ z => z, fun _ _ _ e => e, rfl, p.st⟩
/-- objects that stood are kept, but those of M -/
theorem Go.keep (g : Go K μ S.length H M H' M' S') (p : RS K μ H M S) : ∀ b o, H b = some o → ¬ M b → H' b = some o := fun b o e z => g.fr b o e (p.ne z)
theorem Go.old (g : Go K μ n H M H' M' S') : ∀ b o, H b = some o → M' b → M b := fun b o e z => by
  rcases g.new b z with h | h
  · exact h
  · rw [e] at h; cases h
theorem Go.pu (g : Go K μ S.length H M H' M' S') (p : RS K μ H M S) {x : D} (q : Pu K H M v x) : Pu K H' M' v x := q.mono (g.keep p) g.old
theorem Go.pua (g : Go K μ S.length H M H' M' S') (p : RS K μ H M S) {vs : List V} {x : List D} (q : PuA K H M vs x) : PuA K H' M' vs x := q.mono (g.keep p) g.old
theorem Ct.nofrz {a : Addr} {x : D} (c : Ct K H M a x) {o : Obj} {u : HO} : H a ≠ some (.frz o u) := fun e => by
  cases x with
  | list ds => obtain ⟨vs, e2, _⟩ := c; rw [e] at e2; cases e2
  | dict ds => rcases c with ⟨vs, e2, _⟩ | ⟨vs, es, _, e2, _⟩ <;> (rw [e] at e2; cases e2)
  | _ => exact c.elim
theorem Sc.mono {a : Addr} {ns : List Int} (h : ∀ b o, H b = some o → ¬ M b → H' b = some o) (hm : ∀ b o, H b = some o → M' b → M b) (q : Sc K H M a ns) : Sc K H' M' a ns := by
  rcases q with ⟨n, o, e⟩ | q
  · exact .inl ⟨fun z => n (hm _ _ e z), o, h _ _ e n⟩
  · exact .inr q
theorem Sv.mono {a : Addr} {x : D} (h : ∀ b o, H b = some o → ¬ M b → H' b = some o) (hm : ∀ b o, H b = some o → M' b → M b) (q : Sv K H M a x) : Sv K H' M' a x := by
  cases x with
  | list ds => obtain ⟨ns, e, q⟩ := q; exact ⟨ns, e, q.mono h hm⟩
  | tuple ys => obtain ⟨n, o, vs, e, e2, p⟩ := q; exact ⟨fun z => n (hm _ _ e z), o, vs, h _ _ e n, e2, p.mono h hm⟩
  | _ => exact q.elim
theorem Go.sv (g : Go K μ S.length H M H' M' S') (p : RS K μ H M S) {a : Addr} {x : D} (q : Sv K H M a x) : Sv K H' M' a x := q.mono (g.keep p) g.old
theorem Go.sc (g : Go K μ S.length H M H' M' S') (p : RS K μ H M S) {a : Addr} {ns : List Int} (q : Sc K H M a ns) : Sc K H' M' a ns := q.mono (g.keep p) g.old
theorem RV.rr (h : RV K fa μ n H M r v) : RR K fa μ n H H M r v := by cases r <;> first | exact h | exact h.elim
theorem Go.rv (g : Go K μ S.length H M H' M' S') (p : RS K μ H M S) (q : RV K fa μ S.length H M r v) : RV K fa μ S'.length H' M' r v := by
  rw [g.ln]
  cases r with
  | d x => exact g.pu p q
  | l k => exact q
  | f x => exact q
  | fn k => exact q
  | s0 x => obtain ⟨a, e, h⟩ := q; exact ⟨a, e, g.sv p h⟩
  | fr xs => exact q.elim
  | rw ks => obtain ⟨a, e, h1, h2, h3⟩ := q; exact ⟨a, e, fun z => h1 (g.old _ _ h2 z), g.keep p _ _ h2 h1, h3⟩
theorem Go.rs (g : Go K μ S.length H M H' M' S') (p : RS K μ H M S) : RS K μ H' M' S' :=
  ⟨g.dom, g.st, fun k m h1 h2 e => p.inj k m (by rw [← g.ln]; exact h1) (by rw [← g.ln]; exact h2) e⟩
theorem Go.rp (g : Go K μ S.length H M H' M' S') (p : Rp K fa μ H M S σd σ) : Rp K fa μ H' M' S' σd σ :=
  ⟨g.rs p.toRS, p.ln, fun i r e => let ⟨v, h1, h2⟩ := p.sl i r e; ⟨v, h1, g.rv p.toRS h2⟩⟩
theorem Go.trans (a : Go K μ n H M H1 M1 S1) (b : Go K μ n H1 M1 H2 M2 S2) : Go K μ n H M H2 M2 S2 :=
  ⟨fun x z => b.mm x (a.mm x z), fun x z => by
    rcases b.new x z with h | h
    · exact a.new x h
    · refine .inr ?_
      cases e : H x with
      | none => rfl
      | some o => exact absurd h (a.dm x (by rw [e]; simp)), b.dom, fun x o e k => b.fr x o (a.fr x o e k) k, fun x z => b.dm x (a.dm x z), fun x o u e => b.fz x o u (a.fz x o u e), b.ln, b.st⟩
/-- fewer excluded ones -/
theorem Go.drop (a : Go K μ n H M H' M' S') (h1 : ∀ b, M b → M1 b) (h2 : ∀ b, M1 b → M' b) (hs : ∀ k, k < n → M1 (μ k)) : Go K μ n H M H' M1 S' :=
  ⟨h1, fun b z => a.new b (h2 b z), fun b z => a.dom b (h2 b z), a.fr, a.dm, a.fz, a.ln, fun k x e =>
    ⟨hs k (by rw [← a.ln]; exact (List.getElem?_eq_some_iff.mp e).1), (a.st k x e).2.mono (fun _ _ e _ => e) (fun b _ _ z => h2 b z) fun _ e => e⟩⟩
theorem Go.base (a : Go K μ S.length H M H' M' S') (p : RS K μ H M S) : Go K μ S.length H M H' M S' := a.drop (fun _ z => z) a.mm fun k hk => p.mu hk
/-- the heap grows -/
theorem Go.ext (a : Go K μ n H M H1 M1 S1) (x : Ext H1 H2) : Go K μ n H M H2 M1 S1 :=
  ⟨a.mm, a.new, fun b z => by
    cases q : H1 b with
    | none => exact absurd q (a.dom b z).1
    | some o => rw [x b o q, ← q]; exact a.dom b z, fun b o e k => x b o (a.fr b o e k), fun b z e => a.dm b z (by
    cases q : H1 b with
    | none => rfl
    | some o => rw [x b o q] at e; cases e), fun b o u e => x b _ (a.fz b o u e), a.ln, fun k y e => ⟨(a.st k y e).1, (a.st k y e).2.mono (fun b o e _ => x b o e) (fun _ _ _ z => z) fun o e => x _ o e⟩⟩
/-- .. and a new one is excluded -/
theorem Go.put (a : Go K μ n H M H1 M1 S1) (x : Ext H1 H2) {p : Addr} (hp : H1 p = none) (hd : H2 p ≠ none ∧ ∀ xs, H2 p ≠ some (.tup xs)) : Go K μ n H M H2 (fun b => M1 b ∨ b = p) S1 :=
  ⟨fun b z => .inl (a.mm b z), fun b z => by
    rcases z with z | rfl
    · exact a.new b z
    · refine .inr ?_
      cases q : H b with
      | none => rfl
      | some o => exact absurd hp (a.dm b (by rw [q]; simp)),
    fun b z => by
      rcases z with z | rfl
      · exact (a.ext x).dom b z
      · exact hd,
    fun b o e k => x b o (a.fr b o e k), (a.ext x).dm, (a.ext x).fz, a.ln, fun k y e => ⟨.inl (a.st k y e).1, (a.st k y e).2.mono (fun b o e _ => x b o e) (fun b o e z => by
      rcases z with z | rfl
      · exact z
      · rw [hp] at e; cases e) fun o e => x _ o e⟩⟩
theorem Go.none (a : Go K μ n H M H1 M1 S1) {b : Addr} (h : H1 b = none) : H b = none := by
  cases q : H b with
  | none => rfl
  | some o => exact absurd h (a.dm b (by rw [q]; simp))
/-- a result, further on -/
theorem RR.next (q : RR K fa μ S.length H H1 M1 r v) (p : RS K μ H1 M1 S) (g : Go K μ S.length H1 M1 H2 M2 S2) (hn : ∀ k, k < S.length → H (μ k) ≠ none) : RR K fa μ S.length H H2 M2 r v := by
  cases r with
  | d x => exact g.pu p q
  | l k => exact q
  | f x =>
    obtain ⟨a, e, h0, h1, c⟩ := q
    exact ⟨a, e, h0, g.mm a h1, c.mono (g.keep p) g.old fun o e2 => g.fr a o e2 fun k hk z => hn k hk (z ▸ h0)⟩
  | fn k => exact q
  | s0 x => obtain ⟨a, e, h⟩ := q; exact ⟨a, e, g.sv p h⟩
  | fr xs =>
    obtain ⟨a, as, e, h1, h2, h3, h4, h5⟩ := q
    exact ⟨a, as, e, fun z => h1 (g.old _ _ h2 z), g.keep p _ _ h2 h1, h3, h4, fun i b x e1 e2 => by
      obtain ⟨q1, q2, q3⟩ := h5 i b x e1 e2
      exact ⟨q1, g.mm b q2, q3.mono (g.keep p) g.old fun o e2 => g.fr b o e2 fun k hk z => hn k hk (z ▸ q1)⟩⟩
  | rw ks => obtain ⟨a, e, h1, h2, h3⟩ := q; exact ⟨a, e, fun z => h1 (g.old _ _ h2 z), g.keep p _ _ h2 h1, h3⟩
/-- .. started earlier -/
theorem RR.since (q : RR K fa μ n H1 H2 M2 r v) (h : ∀ b, H1 b = .none → H b = .none) : RR K fa μ n H H2 M2 r v := by
  cases r with
  | f x => obtain ⟨a, e, h0, h1, c⟩ := q; exact ⟨a, e, h a h0, h1, c⟩
  | d x => exact q
  | l k => exact q
  | fn k => exact q
  | s0 x => exact q
  | fr xs =>
    obtain ⟨a, as, e, h1, h2, h3, h4, h5⟩ := q
    exact ⟨a, as, e, h1, h2, h3, h4, fun i b x e1 e2 => ⟨h b (h5 i b x e1 e2).1, (h5 i b x e1 e2).2⟩⟩
  | rw ks => exact q
/-- what a result is read as -/
theorem RR.va (q : RR K fa μ n H H' M' r v) (p : RS K μ H' M' S) {u : D} (e : rd S r = some u) : Va K H' M' v u := by
  cases r with
  | d x => cases e; exact .inl (.inl q)
  | l k =>
    obtain ⟨_, rfl⟩ := q
    simp only [rd, Option.bind_eq_some_iff] at e
    obtain ⟨w, e, e'⟩ := e
    exact .inl (.inr ⟨_, rfl, (p.st k w e).2.ct e'⟩)
  | f x => cases e; obtain ⟨a, rfl, _, _, c⟩ := q; exact .inl (.inr ⟨a, rfl, c⟩)
  | fn k => cases e
  | s0 x =>
    obtain ⟨a, rfl, h⟩ := q
    cases x with
    | tuple ys => cases e
    | list ds => cases e; obtain ⟨ns, rfl, h⟩ := h; exact .inr ⟨a, ns, rfl, rfl, h.sq⟩
    | _ => exact h.elim
  | fr xs => cases e
  | rw ks => cases e
theorem RR.vz (q : RR K fa μ n H H' M' r v) (p : RS K μ H' M' S) {u : D} (e : rdi S r = some u) : Vz K H' M' v u := by
  have key : rd S r = some u → Vz K H' M' v u := fun e => .inl (q.va p e)
  cases r with
  | s0 x =>
    cases x with
    | tuple ys =>
      cases e
      obtain ⟨a, rfl, n, o, ws, h1, h2, h3⟩ := q
      exact .inr ⟨a, ys, ws, rfl, rfl, .inl (.inr ⟨o, h1⟩), h3⟩
    | _ => exact key e
  | _ => exact key e
theorem RR.vl (q : RR K fa μ n H H' M' r v) (p : RS K μ H' M' S) {o : Cm} {u : D} (e : rdL o S r = some u) : VcL o K H' M' v u := by
  cases o <;> first | exact q.vz p e | exact q.va p e
theorem RR.vr (q : RR K fa μ n H H' M' r v) (p : RS K μ H' M' S) {o : Cm} {u : D} (e : rdR o S r = some u) : VcR o K H' M' v u := by
  cases o <;> first | exact q.vz p e | exact q.va p e
theorem RR.vs (q : RR K fa μ n H H' M' r v) (p : RS K μ H' M' S) {u : D} (e : rdn S r = some u) : Vs K H' M' v u := by
  cases r with
  | d x => cases e; exact .inl q
  | l k =>
    obtain ⟨_, rfl⟩ := q
    simp only [rdn, rd, Option.bind_eq_some_iff] at e
    obtain ⟨w, e, e'⟩ := e
    exact .inr ⟨_, rfl, (p.st k w e).2.ct e'⟩
  | f x => cases e; obtain ⟨a, rfl, _, _, c⟩ := q; exact .inr ⟨a, rfl, c⟩
  | fn k => cases e
  | s0 x => cases e
  | fr xs => cases e
  | rw ks => cases e
/-- a result taken as a pure datum, M0 without the new ones -/
theorem Ct.pu {a : Addr} {x : D} (c : Ct K H M a x) (hm : ∀ b o, H b = some o → M1 b → M b) (na : ¬ M1 a) : Pu K H M1 (.ref a) x := by
  cases x with
  | list ds => obtain ⟨vs, e, p⟩ := c; exact .lst e na (p.mono (fun _ _ e _ => e) hm)
  | dict ds =>
    rcases c with ⟨vs, e, p⟩ | ⟨vs, es, rfl, e, p⟩
    · exact .dct e na (p.mono (fun _ _ e _ => e) hm)
    · exact .dctT e na (p.mono (fun _ _ e _ => e) hm)
  | _ => exact c.elim
theorem rows_pu : ∀ {as : List Addr} {xs : List D}, as.length = xs.length → (∀ (i : Nat) (b : Addr) (x : D), as[i]? = some b → xs[i]? = some x → Pu K H' M (.ref b) x) → PuA K H' M (as.map V.ref) xs
  | [], [], _, _ => .nil
  | a :: as, x :: xs, hl, h => .cons (h 0 a x rfl rfl) (rows_pu (by simpa using hl) fun i b y e1 e2 => h (i + 1) b y (by simpa using e1) (by simpa using e2))
theorem Rows.pua {as : List Addr} {xs : List D} (q : Rows K H H' M' as xs) (hM : Dom H M) (hm : ∀ b, M b → M' b) : PuA K H' M (as.map V.ref) xs :=
  rows_pu q.1 fun i b x e1 e2 => by
    obtain ⟨h0, _, c⟩ := q.2 i b x e1 e2
    exact c.pu (fun b _ _ z => hm b z) fun z => (hM b z).1 h0
theorem RR.pure (q : RR K fa μ n H H' M' r v) (hM : Dom H M) (hm : ∀ b, M b → M' b) {u : D} (e : pureR r = some u) : Pu K H' M v u := by
  cases r with
  | d x => cases e; exact Pu.mono (fun _ _ e _ => e) (fun b _ _ z => hm b z) q
  | f x => cases e; obtain ⟨a, rfl, h0, _, c⟩ := q; exact c.pu (fun b _ _ z => hm b z) (fun z => (hM a z).1 h0)
  | l k => cases e
  | fn k => cases e
  | s0 x => cases e
  | fr xs => cases e
  | rw ks => cases e
/-- a result of an operation by values -/
theorem Rs.go (g : Go K μ n H M H1 M1 S1) (x : Ext H1 H2) (q : Rs K H1 H2 M1 r v) :
    ∃ M', Go K μ n H M H2 M' S1 ∧ RR K fa μ n H H2 M' r v := by
  cases r with
  | d y => exact ⟨M1, g.ext x, q⟩
  | f y =>
    obtain ⟨a, rfl, h0, c⟩ := q
    exact ⟨_, g.put x h0 ⟨c.dom, c.nt⟩, a, rfl, g.none h0, .inr rfl, c⟩
  | l k => exact q.elim
  | fn k => exact q.elim
  | s0 x => exact q.elim
  | fr xs => exact q.elim
  | rw ks => exact q.elim
end
end Ip

set_option Elab.async false
set_option linter.all false
set_option maxRecDepth 100000
set_option maxHeartbeats 1000000
/-! Expressions, one rule a construct. -/
namespace Ip
open PySem PySem.Spec PyProof.Rows L2

section
variable {K : PySem.W.Frag} {fa μ : Nat → Addr} {n : Nat} {H H1 H2 H' : Hp} {M M1 M2 M' : Mk} {S S1 S2 S' : Store} {σd : Ev} {σ : L2.St} {r : R} {v : V}
theorem Go.then (a : Go K μ S.length H M H1 M1 S1) (b : Go K μ S1.length H1 M1 H2 M2 S2) : Go K μ S.length H M H2 M2 S2 := a.trans (a.ln ▸ b)
theorem Go.rr1 (g : Go K μ S.length H M H1 M1 S1) (q : RR K fa μ S.length H H1 M1 r v) : RR K fa μ S1.length H H1 M1 r v := g.ln.symm ▸ q
theorem Go.rr2 (g1 : Go K μ S.length H M H1 M1 S1) (p : RS K μ H M S) (g2 : Go K μ S1.length H1 M1 H2 M2 S2) (q : RR K fa μ S.length H H1 M1 r v) : RR K fa μ S.length H H2 M2 r v := by
  have h := RR.next (g1.rr1 q) (g1.rs p) g2 fun k hk => (p.dom _ (p.mu (by rw [← g1.ln]; exact hk))).1
  rw [g1.ln] at h
  exact h
/-- the second of two results -/
theorem Go.rrb (g1 : Go K μ S.length H M H1 M1 S1) (q : RR K fa μ S1.length H1 H2 M2 r v) : RR K fa μ S.length H H2 M2 r v := by
  rw [g1.ln] at q
  exact q.since fun b h => g1.none h
end

section
variable (K : PySem.W.Frag) (fa : Nat → Addr) (cf : Cf)
def tE (e : IE) : TE := fun σ H Q => ∃ μ M S σd r S', Rp K fa μ H M S σd σ ∧ ev cf e σd S = some (r, S') ∧ ∀ v H' M', Go K μ S.length H M H' M' S' → RR K fa μ S.length H H' M' r v → Q v H'
def tT (e : IE) : TT := fun σ H Q => ∃ μ M S σd r S' k, Rp K fa μ H M S σd σ ∧ ev cf e σd S = some (r, S') ∧ tru S' r = some k ∧ ∀ H' M', Go K μ S.length H M H' M' S' → Q k H'
inductive RRL (μ : Nat → Addr) (n : Nat) (H H' : Hp) (M' : Mk) : List R → List V → List Addr → Prop
  | nil : RRL μ n H H' M' [] [] []
  | f {x : D} {a : Addr} {rs : List R} {vs : List V} {as : List Addr} : H a = none → M' a → Ct K H' M' a x → a ∉ as → RRL μ n H H' M' rs vs as → RRL μ n H H' M' (.f x :: rs) (.ref a :: vs) (a :: as)
  | o {r : R} {v : V} {rs : List R} {vs : List V} {as : List Addr} : (∀ x, r ≠ .f x) → RR K fa μ n H H' M' r v → RRL μ n H H' M' rs vs as → RRL μ n H H' M' (r :: rs) (v :: vs) as
def tL (es : IEs) : TA := fun σ H Q => ∃ μ M S σd rs S', Rp K fa μ H M S σd σ ∧ evs cf es σd S = some (rs, S') ∧ ∀ vs H' M' as, Go K μ S.length H M H' M' S' → RRL K fa μ S.length H H' M' rs vs as → Q vs H'
end
section
variable {K : PySem.W.Frag} {fa μ : Nat → Addr} {n : Nat} {H H1 H2 H' : Hp} {M M1 M2 M' : Mk} {S S1 S2 S' : Store} {rs : List R} {vs : List V} {as : List Addr}
theorem RRL.new (q : RRL K fa μ n H H' M' rs vs as) : ∀ a ∈ as, H a = none ∧ M' a := by
  induction q with
  | nil => intro a h; cases h
  | f h0 h1 _ _ _ ih =>
    intro b hb
    rcases List.mem_cons.mp hb with rfl | hb
    · exact ⟨h0, h1⟩
    · exact ih b hb
  | o _ _ _ ih => exact ih
theorem RRL.va (q : RRL K fa μ n H H' M' rs vs as) (p : RS K μ H' M' S) : ∀ {us : List D}, rds S rs = some us → VaL K H' M' vs us := by
  induction q with
  | nil => intro us e; cases e; exact .nil
  | f h0 h1 c _ _ ih =>
    intro us e
    simp only [rds, rd, Option.bind_eq_some_iff] at e
    obtain ⟨x, e1, us', e2, e3⟩ := e
    cases e1; cases e3
    exact .cons (.inl (.inr ⟨_, rfl, c⟩)) (ih e2)
  | o hr q _ ih =>
    intro us e
    simp only [rds, Option.bind_eq_some_iff] at e
    obtain ⟨x, e1, us', e2, e3⟩ := e
    cases e3
    exact .cons (q.va p e1) (ih e2)
theorem RRL.pure (q : RRL K fa μ n H H' M' rs vs as) (hM : Dom H M) (hm : ∀ b, M b → M' b) : ∀ {us : List D}, pures rs = some us → PuA K H' M vs us := by
  induction q with
  | nil => intro us e; cases e; exact .nil
  | f h0 h1 c _ _ ih =>
    intro us e
    simp only [pures, pureR, Option.bind_eq_some_iff] at e
    obtain ⟨x, e1, us', e2, e3⟩ := e
    cases e1; cases e3
    exact .cons (c.pu (fun b _ _ z => hm b z) fun z => (hM _ z).1 h0) (ih e2)
  | o hr q _ ih =>
    intro us e
    simp only [pures, Option.bind_eq_some_iff] at e
    obtain ⟨x, e1, us', e2, e3⟩ := e
    cases e3
    exact .cons (q.pure hM hm e1) (ih e2)
theorem RRL.length (q : RRL K fa μ n H H' M' rs vs as) : vs.length = rs.length := by
  induction q with
  | nil => rfl
  | f _ _ _ _ _ ih => simp [ih]
  | o _ _ _ ih => simp [ih]
theorem RRL.since (q : RRL K fa μ n H1 H' M' rs vs as) (h : ∀ b, H1 b = .none → H b = .none) : RRL K fa μ n H H' M' rs vs as := by
  induction q with
  | nil => exact .nil
  | f h0 h1 c ha _ ih => exact .f (h _ h0) h1 c ha ih
  | o hr q _ ih => exact .o hr (q.since h) ih
end

section
variable {X : Cx} {fa : Nat → Addr} {cf : Cf} {a b c : Expr} {ia ib ic : IE} {pos : Pos}
abbrev E (X : Cx) (fa : Nat → Addr) (cf : Cf) (e : Expr) (i : IE) : Prop := PE X e (tE X.K fa cf i)
abbrev T (X : Cx) (fa : Nat → Addr) (cf : Cf) (e : Expr) (i : IE) : Prop := PT X e (tT X.K fa cf i)
theorem PE.imp {e : Expr} {t u : TE} (h : PE X e t) (m : ∀ σ H Q, u σ H Q → t σ H Q) : PE X e u := ⟨fun pins s σ H Q I q => h.run pins s σ H Q I (m σ H Q q)⟩
theorem PT.imp {e : Expr} {t u : TT} (h : PT X e t) (m : ∀ σ H Q, u σ H Q → t σ H Q) : PT X e u := ⟨fun pins s σ H Q I q => h.run pins s σ H Q I (m σ H Q q)⟩
theorem PA.imp {e : List Expr} {t u : TA} (h : PA X e t) (m : ∀ σ H Q, u σ H Q → t σ H Q) : PA X e u := ⟨fun pos pins s σ H Q I q => h.run pos pins s σ H Q I (m σ H Q q)⟩

/-! ### constants, names -/
theorem se_cst {x : D} {v : V} (h : PE X a (tC v)) (hp : ∀ H M, Pu X.K H M v x) : E X fa cf a (.cst x) := by
  refine PE.imp h fun σ H Q ⟨μ, M, S, σd, r, S', p, e, q⟩ => ?_
  cases e
  exact q _ _ _ p.toRS.refl (hp H M)
theorem se_fn {k : Nat} (h : PE X a (tC (.ref (fa k)))) : E X fa cf a (.fn k) := by
  refine PE.imp h fun σ H Q ⟨μ, M, S, σd, r, S', p, e, q⟩ => ?_
  cases e
  exact q _ _ _ p.toRS.refl rfl
theorem se_var {i : Nat} (h : PE X a (tVar i)) : E X fa cf a (.var i) := by
  refine PE.imp h fun σ H Q ⟨μ, M, S, σd, r, S', p, e, q⟩ => ?_
  simp only [ev] at e
  split at e
  · rename_i r0 e0
    cases e
    obtain ⟨v, h1, h2⟩ := p.sl i _ e0
    exact ⟨v, h1, q _ _ _ p.toRS.refl h2.rr⟩
  · cases e

/-! ### operators -/
theorem se_bin {o : Op} (ha : E X fa cf a ia) (hb : E X fa cf b ib) : E X fa cf (.BinOp a (opOf o) b pos) (.bin o ia ib) := by
  refine PE.imp (pe_op (op_all o) ha hb) fun σ H Q ⟨μ, M, S, σd, r, S', p, e, q⟩ => ?_
  simp only [ev, Option.bind_eq_some_iff] at e
  obtain ⟨⟨x, S1⟩, e1, ⟨y, S2⟩, e2, u, e3, w, e4, r0, e5, e6⟩ := e
  cases e6
  refine ⟨μ, M, S, σd, x, S1, p, e1, fun v1 H1 M1 g1 q1 => ⟨μ, M1, S1, σd, y, S2, g1.rp p, e2, fun v2 H2 M2 g2 q2 => ?_⟩⟩
  have g12 := g1.then g2
  have p2 := g12.rs p.toRS
  refine ⟨M2, u, w, _, g2.dom, (g1.rr2 p.toRS g2 q1).vs p2 e3, q2.vs p2 e4, e5, fun z H3 x3 qz => ?_⟩
  obtain ⟨M', g, rr⟩ := Rs.go (fa := fa) g12 x3 qz
  exact q z H3 M' g rr
theorem se_neg (ha : E X fa cf a ia) : E X fa cf (.UnaryOp .USub a pos) (.neg ia) := by
  refine PE.imp (pe_un un_neg ha) fun σ H Q ⟨μ, M, S, σd, r, S', p, e, q⟩ => ?_
  simp only [ev, Option.bind_eq_some_iff] at e
  obtain ⟨⟨x, S1⟩, e1, e⟩ := e
  split at e
  · rename_i i hx
    cases e
    have hx : x = R.d (.int i) := hx
    subst hx
    refine ⟨μ, M, S, σd, _, S1, p, e1, fun v1 H1 M1 g1 q1 => ⟨i, ?_, q _ _ M1 g1 (.int _)⟩⟩
    cases (show Pu X.K H1 M1 v1 (.int i) from q1)
    rfl
  · cases e
theorem cm_read {o : Cm} {σ : L2.St} {H : Hp} {Q : VK} {μ : Nat → Addr} {M : Mk} {S S1 S2 : Store} {σd : Ev} {x y : R} {u w : D} {k : Bool} (p : Rp X.K fa μ H M S σd σ) (e1 : ev cf ia σd S = some (x, S1)) (e2 : ev cf ib σd S1 = some (y, S2))
    (e3 : rdL o S2 x = some u) (e4 : rdR o S2 y = some w) (e5 : cmD o u w = some k) (q : ∀ H' M', Go X.K μ S.length H M H' M' S2 → Q (.bl k) H') : tOp (rCm X.K o) (tE X.K fa cf ia) (tE X.K fa cf ib) σ H Q := by
  refine ⟨μ, M, S, σd, x, S1, p, e1, fun v1 H1 M1 g1 q1 => ⟨μ, M1, S1, σd, y, S2, g1.rp p, e2, fun v2 H2 M2 g2 q2 => ?_⟩⟩
  have g12 := g1.then g2
  have p2 := g12.rs p.toRS
  exact ⟨M2, u, w, k, (g1.rr2 p.toRS g2 q1).vl p2 e3, q2.vr p2 e4, e5, q _ _ g12⟩
theorem se_cmp {o : Cm} (hu : X.A.units + 65 < cLine) (ha : E X fa cf a ia) (hb : E X fa cf b ib) (hm : behindInMarks (cmOf o) b = false) : E X fa cf (.Compare a [cmOf o] [b] pos) (.cmp o ia ib) := by
  refine PE.imp (pe_cmpR (cm_all o hu) ha hb hm) fun σ H Q ⟨μ, M, S, σd, r, S', p, e, q⟩ => ?_
  simp only [ev, Option.bind_eq_some_iff] at e
  obtain ⟨⟨x, S1⟩, e1, ⟨y, S2⟩, e2, u, e3, w, e4, k, e5, e6⟩ := e
  cases e6
  exact cm_read p e1 e2 e3 e4 e5 fun H' M' g => q _ _ _ g (.bl _)
theorem st_cmp {o : Cm} (hu : X.A.units + 65 < cLine) (ha : E X fa cf a ia) (hb : E X fa cf b ib) (hm : behindInMarks (cmOf o) b = false) : T X fa cf (.Compare a [cmOf o] [b] pos) (.cmp o ia ib) := by
  refine PT.imp (pt_cmpR (cm_all o hu) ha hb hm) fun σ H Q ⟨μ, M, S, σd, r, S', kk, p, e, ek, q⟩ => ?_
  simp only [ev, Option.bind_eq_some_iff] at e
  obtain ⟨⟨x, S1⟩, e1, ⟨y, S2⟩, e2, u, e3, w, e4, k, e5, e6⟩ := e
  cases e6
  cases ek
  exact cm_read (Q := fun x H' => ∃ k, x = .bl k ∧ Q k H') p e1 e2 e3 e4 e5 fun H' M' g => ⟨_, rfl, q _ _ g⟩
theorem chain_read {o1 o2 : Cm} {σ : L2.St} {H : Hp} {Q : VK} {μ : Nat → Addr} {M : Mk} {S S' : Store} {σd : Ev} {r : R} (p : Rp X.K fa μ H M S σd σ) (e : ev cf (.chain o1 o2 ia ib ic) σd S = some (r, S'))
    (q : ∀ k H' M', r = .d (.bool k) → Go X.K μ S.length H M H' M' S' → Q (.bl k) H') : tChain (rCm X.K o1) (rCm X.K o2) (tE X.K fa cf ia) (tE X.K fa cf ib) (tE X.K fa cf ic) σ H Q := by
  simp only [ev, Option.bind_eq_some_iff] at e
  obtain ⟨⟨x, S1⟩, e1, ⟨y, S2⟩, e2, u, e3, w, e4, k, e5, e6⟩ := e
  refine ⟨μ, M, S, σd, x, S1, p, e1, fun v1 H1 M1 g1 q1 => ⟨μ, M1, S1, σd, y, S2, g1.rp p, e2, fun v2 H2 M2 g2 q2 => ?_⟩⟩
  have g12 := g1.then g2
  have p2 := g12.rs p.toRS
  refine ⟨M2, u, w, k, ((g1.rr2 p.toRS g2 q1).va p2 e3).cl, (q2.va p2 e4).cr, e5, k, rfl, ?_⟩
  cases k with
  | false =>
    rw [if_neg Bool.false_ne_true]
    simp only [Bool.false_eq_true, if_false] at e6
    cases e6
    exact q _ _ _ rfl g12
  | true =>
    rw [if_pos rfl]
    simp only [if_true, Option.bind_eq_some_iff] at e6
    obtain ⟨⟨z, S3⟩, e7, w2, e8, t, e9, k2, e10, e11⟩ := e6
    cases e11
    refine ⟨μ, M2, S2, σd, z, S3, g12.rp p, e7, fun v3 H3 M3 g3 q3 => ?_⟩
    have g123 := g12.then g3
    have p3 := g123.rs p.toRS
    have q2' : RR X.K fa μ S.length H H2 M2 y v2 := g1.rrb q2
    exact ⟨M3, w2, t, k2, ((g12.rr2 p.toRS g3 q2').va p3 e8).cl, (q3.va p3 e9).cr, e10, q _ _ _ rfl g123⟩
theorem se_chain {o1 o2 : Cm} (hu : X.A.units + 65 < cLine) (ha : E X fa cf a ia) (hb : E X fa cf b ib) (hc : E X fa cf c ic) (hm : lastMarks [cmOf o1, cmOf o2] [b, c] = false) : E X fa cf (.Compare a [cmOf o1, cmOf o2] [b, c] pos) (.chain o1 o2 ia ib ic) := by
  refine PE.imp (pe_chain (cm_all o1 hu) (cm_all o2 hu) ha hb hc hm) fun σ H Q ⟨μ, M, S, σd, r, S', p, e, q⟩ => ?_
  exact chain_read p e fun k H' M' er g => q _ _ _ g (by subst er; exact .bl _)
theorem st_chain {o1 o2 : Cm} (hu : X.A.units + 65 < cLine) (ha : E X fa cf a ia) (hb : E X fa cf b ib) (hc : E X fa cf c ic) (hm : lastMarks [cmOf o1, cmOf o2] [b, c] = false) : T X fa cf (.Compare a [cmOf o1, cmOf o2] [b, c] pos) (.chain o1 o2 ia ib ic) := by
  refine PT.imp (pt_chain (cm_all o1 hu) (cm_all o2 hu) ha hb hc hm) fun σ H Q ⟨μ, M, S, σd, r, S', kk, p, e, ek, q⟩ => ?_
  exact chain_read (Q := fun x H' => ∃ k, x = .bl k ∧ Q k H') p e fun k H' M' er g => ⟨k, rfl, by
    subst er
    cases ek
    exact q _ _ g⟩

def tChain3 (r r' r'' : R2) (ta tb tc td : TE) : TE := fun σ H Q => ta σ H fun x H1 => tb σ H1 fun y H2 => r x y H2 fun z H3 => ∃ k, z = .bl k ∧
  (if k = true then tc σ H3 fun w H4 => r' y w H4 fun z2 H5 => ∃ k2, z2 = .bl k2 ∧ (if k2 = true then td σ H5 fun w2 H6 => r'' w w2 H6 Q else Q (.bl false) H5) else Q (.bl false) H3)
theorem pe_chain3 {d : Expr} {op op' op'' : CmpOp} {r r' r'' : R2} {ta tb tc td : TE} (ho : OpR X (compareOp op) r) (ho' : OpR X (compareOp op') r') (ho'' : OpR X (compareOp op'') r'') (ha : PE X a ta) (hb : PE X b tb) (hc : PE X c tc) (hd : PE X d td)
    (hm : lastMarks [op, op', op''] [b, c, d] = false) : PE X (.Compare a [op, op', op''] [b, c, d] pos) (tChain3 r r' r'' ta tb tc td) := by
  refine ⟨fun pins s σ H Q I h => ?_⟩
  refine Compare_chain (thn (ha.run pins s σ H _ I h) fun v s1 ⟨x, H1, I1, r1, q1⟩ => chain_link (thn (hb.run pins s1 σ H1 _ I1 q1) fun u s2 ⟨y, H2, I2, r2, q2⟩ =>
    thn (ho pins s2 σ H2 x y v u _ I2 r1 r2 q2) fun d s3 ⟨z, H3, I3, r3, k, e, q3⟩ => ?_)) hm
  subst e
  cases r3
  refine wpAny_truthy_bool ?_
  cases k with
  | false => exact ite_ff ⟨.bl false, H3, I3, rfl, q3⟩
  | true =>
    refine ite_tt (chain_link (thn (hc.run pins s3 σ H3 _ I3 q3) fun w' s4 ⟨z', H4, I4, r4, q4⟩ => thn (ho' pins s4 σ H4 y z' u w' _ I4 r2 r4 q4) fun d s5 ⟨z2, H5, I5, r5, k2, e2, q5⟩ => ?_))
    subst e2
    cases r5
    refine wpAny_truthy_bool ?_
    cases k2 with
    | false => exact ite_ff ⟨.bl false, H5, I5, rfl, q5⟩
    | true => exact ite_tt (chain_last (thn (hd.run pins s5 σ H5 _ I5 q5) fun w2 s6 ⟨z3, H6, I6, r6, q6⟩ => ho'' pins s6 σ H6 z' z3 w' w2 Q I6 r4 r6 q6))
theorem pt_chain3 {d : Expr} {op op' op'' : CmpOp} {r r' r'' : R2} {ta tb tc td : TE} (ho : OpR X (compareOp op) r) (ho' : OpR X (compareOp op') r') (ho'' : OpR X (compareOp op'') r'') (ha : PE X a ta) (hb : PE X b tb) (hc : PE X c tc) (hd : PE X d td)
    (hm : lastMarks [op, op', op''] [b, c, d] = false) : PT X (.Compare a [op, op', op''] [b, c, d] pos) (tTest (tChain3 r r' r'' ta tb tc td)) := by
  refine ⟨fun pins s σ H Q I h => ?_⟩
  refine isTrue_chain (thn (ha.run pins s σ H _ I h) fun v s1 ⟨x, H1, I1, r1, q1⟩ => test_link (thn (hb.run pins s1 σ H1 _ I1 q1) fun u s2 ⟨y, H2, I2, r2, q2⟩ =>
    thn (ho pins s2 σ H2 x y v u _ I2 r1 r2 q2) fun d s3 ⟨z, H3, I3, r3, k, e, q3⟩ => ?_)) hm
  subst e
  cases r3
  refine wpAny_truthy_bool ?_
  cases k with
  | false =>
    obtain ⟨k', e', q'⟩ := q3
    cases e'
    exact ite_ff ⟨H3, I3, q'⟩
  | true =>
    refine ite_tt (test_link (thn (hc.run pins s3 σ H3 _ I3 q3) fun w' s4 ⟨z', H4, I4, r4, q4⟩ => thn (ho' pins s4 σ H4 y z' u w' _ I4 r2 r4 q4) fun d s5 ⟨z2, H5, I5, r5, k2, e2, q5⟩ => ?_))
    subst e2
    cases r5
    refine wpAny_truthy_bool ?_
    cases k2 with
    | false =>
      obtain ⟨k', e', q'⟩ := q5
      cases e'
      exact ite_ff ⟨H5, I5, q'⟩
    | true =>
      refine ite_tt (test_last (thn (hd.run pins s5 σ H5 _ I5 q5) fun w2 s6 ⟨z3, H6, I6, r6, q6⟩ => thn (ho'' pins s6 σ H6 z' z3 w' w2 _ I6 r4 r6 q6) fun d' s7 ⟨z4, H7, I7, r7, k3, e3, q7⟩ => ?_))
      subst e3
      cases r7
      exact wpAny_truthy_bool ⟨H7, I7, q7⟩
theorem chain3_read {id : IE} {o1 o2 o3 : Cm} {σ : L2.St} {H : Hp} {Q : VK} {μ : Nat → Addr} {M : Mk} {S S' : Store} {σd : Ev} {r : R} (p : Rp X.K fa μ H M S σd σ) (e : ev cf (.chain3 o1 o2 o3 ia ib ic id) σd S = some (r, S'))
    (q : ∀ k H' M', r = .d (.bool k) → Go X.K μ S.length H M H' M' S' → Q (.bl k) H') : tChain3 (rCm X.K o1) (rCm X.K o2) (rCm X.K o3) (tE X.K fa cf ia) (tE X.K fa cf ib) (tE X.K fa cf ic) (tE X.K fa cf id) σ H Q := by
  simp only [ev, Option.bind_eq_some_iff] at e
  obtain ⟨⟨x, S1⟩, e1, ⟨y, S2⟩, e2, u, e3, w, e4, k, e5, e6⟩ := e
  refine ⟨μ, M, S, σd, x, S1, p, e1, fun v1 H1 M1 g1 q1 => ⟨μ, M1, S1, σd, y, S2, g1.rp p, e2, fun v2 H2 M2 g2 q2 => ?_⟩⟩
  have g12 := g1.then g2
  have p2 := g12.rs p.toRS
  refine ⟨M2, u, w, k, ((g1.rr2 p.toRS g2 q1).va p2 e3).cl, (q2.va p2 e4).cr, e5, k, rfl, ?_⟩
  cases k with
  | false =>
    rw [if_neg Bool.false_ne_true]
    simp only [Bool.false_eq_true, if_false] at e6
    cases e6
    exact q _ _ _ rfl g12
  | true =>
    rw [if_pos rfl]
    simp only [if_true, Option.bind_eq_some_iff] at e6
    obtain ⟨⟨z, S3⟩, e7, w2, e8, t, e9, k2, e10, e11⟩ := e6
    refine ⟨μ, M2, S2, σd, z, S3, g12.rp p, e7, fun v3 H3 M3 g3 q3 => ?_⟩
    have g123 := g12.then g3
    have p3 := g123.rs p.toRS
    have q2' : RR X.K fa μ S.length H H2 M2 y v2 := g1.rrb q2
    have q3' : RR X.K fa μ S.length H H3 M3 z v3 := g12.rrb q3
    refine ⟨M3, w2, t, k2, ((g12.rr2 p.toRS g3 q2').va p3 e8).cl, (q3.va p3 e9).cr, e10, k2, rfl, ?_⟩
    cases k2 with
    | false =>
      rw [if_neg Bool.false_ne_true]
      simp only [Bool.false_eq_true, if_false] at e11
      cases e11
      exact q _ _ _ rfl g123
    | true =>
      rw [if_pos rfl]
      simp only [if_true, Option.bind_eq_some_iff] at e11
      obtain ⟨⟨z2, S4⟩, e12, w3, e13, t2, e14, k3, e15, e16⟩ := e11
      cases e16
      refine ⟨μ, M3, S3, σd, z2, S4, g123.rp p, e12, fun v4 H4 M4 g4 q4 => ?_⟩
      have g1234 := g123.then g4
      have p4 := g1234.rs p.toRS
      exact ⟨M4, w3, t2, k3, ((g123.rr2 p.toRS g4 q3').va p4 e13).cl, (q4.va p4 e14).cr, e15, q _ _ _ rfl g1234⟩
theorem se_chain3 {d : Expr} {id : IE} {o1 o2 o3 : Cm} (hu : X.A.units + 65 < cLine) (ha : E X fa cf a ia) (hb : E X fa cf b ib) (hc : E X fa cf c ic) (hd : E X fa cf d id) (hm : lastMarks [cmOf o1, cmOf o2, cmOf o3] [b, c, d] = false) : E X fa cf (.Compare a [cmOf o1, cmOf o2, cmOf o3] [b, c, d] pos) (.chain3 o1 o2 o3 ia ib ic id) := by
  refine PE.imp (pe_chain3 (cm_all o1 hu) (cm_all o2 hu) (cm_all o3 hu) ha hb hc hd hm) fun σ H Q ⟨μ, M, S, σd, r, S', p, e, q⟩ => ?_
  exact chain3_read p e fun k H' M' er g => q _ _ _ g (by subst er; exact .bl _)
theorem st_chain3 {d : Expr} {id : IE} {o1 o2 o3 : Cm} (hu : X.A.units + 65 < cLine) (ha : E X fa cf a ia) (hb : E X fa cf b ib) (hc : E X fa cf c ic) (hd : E X fa cf d id) (hm : lastMarks [cmOf o1, cmOf o2, cmOf o3] [b, c, d] = false) : T X fa cf (.Compare a [cmOf o1, cmOf o2, cmOf o3] [b, c, d] pos) (.chain3 o1 o2 o3 ia ib ic id) := by
  refine PT.imp (pt_chain3 (cm_all o1 hu) (cm_all o2 hu) (cm_all o3 hu) ha hb hc hd hm) fun σ H Q ⟨μ, M, S, σd, r, S', kk, p, e, ek, q⟩ => ?_
  exact chain3_read (Q := fun x H' => ∃ k, x = .bl k ∧ Q k H') p e fun k H' M' er g => ⟨k, rfl, by
    subst er
    cases ek
    exact q _ _ g⟩

/-! ### truth -/
theorem st_of (ha : E X fa cf a ia) (he : ∀ whole, isTrue a X.env whole = (do let v ← whole; standAt a.pos; holding [v] (PySem.truthy v))) : T X fa cf a ia := by
  refine PT.imp (pt_truth ha he) fun σ H Q ⟨μ, M, S, σd, r, S', k, p, e, ek, q⟩ => ?_
  exact ⟨μ, M, S, σd, r, S', p, e, fun v H' M' g rr => ⟨k, va_tru ek fun u hu => rr.va (g.rs p.toRS) hu, q _ _ g⟩⟩
theorem se_not (ha : E X fa cf a ia) : E X fa cf (.UnaryOp .Not a pos) (.not_ ia) := by
  refine PE.imp (pe_notT ha) fun σ H Q ⟨μ, M, S, σd, r, S', p, e, q⟩ => ?_
  simp only [ev, Option.bind_eq_some_iff] at e
  obtain ⟨⟨x, S1⟩, e1, k, ek, e⟩ := e
  cases e
  exact ⟨μ, M, S, σd, x, S1, p, e1, fun v H' M' g rr => ⟨k, va_tru ek fun u hu => rr.va (g.rs p.toRS) hu, q _ _ _ g (.bl _)⟩⟩
theorem st_not (ha : T X fa cf a ia) : T X fa cf (.UnaryOp .Not a pos) (.not_ ia) := by
  refine PT.imp (pt_not ha) fun σ H Q ⟨μ, M, S, σd, r, S', kk, p, e, ekk, q⟩ => ?_
  simp only [ev, Option.bind_eq_some_iff] at e
  obtain ⟨⟨x, S1⟩, e1, k, ek, e⟩ := e
  cases e
  cases ekk
  exact ⟨μ, M, S, σd, x, S1, k, p, e1, ek, q⟩
theorem se_and {rest : List Expr} (ha : E X fa cf a ia) (hb : E X fa cf (.BoolOp .And (b :: rest) pos) ib) : E X fa cf (.BoolOp .And (a :: b :: rest) pos) (.and_ ia ib) := by
  refine PE.imp (pe_andT ha hb) fun σ H Q ⟨μ, M, S, σd, r, S', p, e, q⟩ => ?_
  simp only [ev, Option.bind_eq_some_iff] at e
  obtain ⟨⟨x, S1⟩, e1, k, ek, e⟩ := e
  refine ⟨μ, M, S, σd, x, S1, p, e1, fun v H1 M1 g rr => ⟨k, va_tru ek fun u hu => rr.va (g.rs p.toRS) hu, ?_⟩⟩
  cases k with
  | false => simp only [Bool.false_eq_true, if_false] at e ⊢; cases e; exact q _ _ _ g rr
  | true => simp only [if_true] at e ⊢; exact ⟨μ, M1, S1, σd, r, S', g.rp p, e, fun v2 H2 M2 g2 q2 => q _ _ _ (g.then g2) (g.rrb q2)⟩
theorem se_or {rest : List Expr} (ha : E X fa cf a ia) (hb : E X fa cf (.BoolOp .Or (b :: rest) pos) ib) : E X fa cf (.BoolOp .Or (a :: b :: rest) pos) (.or_ ia ib) := by
  refine PE.imp (pe_orT ha hb) fun σ H Q ⟨μ, M, S, σd, r, S', p, e, q⟩ => ?_
  simp only [ev, Option.bind_eq_some_iff] at e
  obtain ⟨⟨x, S1⟩, e1, k, ek, e⟩ := e
  refine ⟨μ, M, S, σd, x, S1, p, e1, fun v H1 M1 g rr => ⟨k, va_tru ek fun u hu => rr.va (g.rs p.toRS) hu, ?_⟩⟩
  cases k with
  | true => simp only [if_true] at e ⊢; cases e; exact q _ _ _ g rr
  | false => simp only [Bool.false_eq_true, if_false] at e ⊢; exact ⟨μ, M1, S1, σd, r, S', g.rp p, e, fun v2 H2 M2 g2 q2 => q _ _ _ (g.then g2) (g.rrb q2)⟩
abbrev W (X : Cx) (fa : Nat → Addr) (cf : Cf) (e : Expr) (i : IE) : Prop := PW X e (tT X.K fa cf i)
theorem sw_and {rest : List Expr} (ha : T X fa cf a ia) (hb : W X fa cf (.BoolOp .And (b :: rest) pos) ib) : W X fa cf (.BoolOp .And (a :: b :: rest) pos) (.and_ ia ib) := by
  refine ⟨fun wh pins s σ H Q I ⟨μ, M, S, σd, r, S', kk, p, e, ekk, q⟩ => (pw_and ha hb).run wh pins s σ H Q I ?_⟩
  simp only [ev, Option.bind_eq_some_iff] at e
  obtain ⟨⟨x, S1⟩, e1, k, ek, e⟩ := e
  refine ⟨μ, M, S, σd, x, S1, k, p, e1, ek, fun H1 M1 g => ?_⟩
  cases k with
  | false =>
    simp only [Bool.false_eq_true, if_false] at e ⊢; cases e
    rw [ekk] at ek; cases ek
    exact q _ _ g
  | true => simp only [if_true] at e ⊢; exact ⟨μ, M1, S1, σd, r, S', kk, g.rp p, e, ekk, fun H2 M2 g2 => q _ _ (g.then g2)⟩
theorem sw_or {rest : List Expr} (ha : T X fa cf a ia) (hb : W X fa cf (.BoolOp .Or (b :: rest) pos) ib) : W X fa cf (.BoolOp .Or (a :: b :: rest) pos) (.or_ ia ib) := by
  refine ⟨fun wh pins s σ H Q I ⟨μ, M, S, σd, r, S', kk, p, e, ekk, q⟩ => (pw_or ha hb).run wh pins s σ H Q I ?_⟩
  simp only [ev, Option.bind_eq_some_iff] at e
  obtain ⟨⟨x, S1⟩, e1, k, ek, e⟩ := e
  refine ⟨μ, M, S, σd, x, S1, k, p, e1, ek, fun H1 M1 g => ?_⟩
  cases k with
  | true =>
    simp only [if_true] at e ⊢; cases e
    rw [ekk] at ek; cases ek
    exact q _ _ g
  | false => simp only [Bool.false_eq_true, if_false] at e ⊢; exact ⟨μ, M1, S1, σd, r, S', kk, g.rp p, e, ekk, fun H2 M2 g2 => q _ _ (g.then g2)⟩
theorem se_ife (hc : T X fa cf c ic) (ha : E X fa cf a ia) (hb : E X fa cf b ib) : E X fa cf (.IfExp c a b pos) (.ife ic ia ib) := by
  refine PE.imp (pe_ifExp hc ha hb) fun σ H Q ⟨μ, M, S, σd, r, S', p, e, q⟩ => ?_
  simp only [ev, Option.bind_eq_some_iff] at e
  obtain ⟨⟨x, S1⟩, e1, k, ek, e⟩ := e
  refine ⟨μ, M, S, σd, x, S1, k, p, e1, ek, fun H1 M1 g => ?_⟩
  cases k with
  | true => simp only [if_true] at e ⊢; exact ⟨μ, M1, S1, σd, r, S', g.rp p, e, fun v2 H2 M2 g2 q2 => q _ _ _ (g.then g2) (g.rrb q2)⟩
  | false => simp only [Bool.false_eq_true, if_false] at e ⊢; exact ⟨μ, M1, S1, σd, r, S', g.rp p, e, fun v2 H2 M2 g2 q2 => q _ _ _ (g.then g2) (g.rrb q2)⟩
theorem st_ife (hc : T X fa cf c ic) (ha : T X fa cf a ia) (hb : T X fa cf b ib) : T X fa cf (.IfExp c a b pos) (.ife ic ia ib) := by
  refine ⟨fun pins s σ H Q I ⟨μ, M, S, σd, r, S', kk, p, e, ekk, q⟩ => ?_⟩
  simp only [ev, Option.bind_eq_some_iff] at e
  obtain ⟨⟨x, S1⟩, e1, k, ek, e⟩ := e
  refine PyProof.Rows.isTrue_IfExp (thn (hc.run pins s σ H (fun d H1 => d = k ∧ ∃ M1, Go X.K μ S.length H M H1 M1 S1) I ⟨μ, M, S, σd, x, S1, k, p, e1, ek, fun H1 M1 g => ⟨rfl, M1, g⟩⟩) fun d s1 ⟨H1, I1, ed, M1, g⟩ => ?_)
  subst ed
  cases d with
  | true => simp only [if_true] at e; exact ha.run pins s1 σ H1 Q I1 ⟨μ, M1, S1, σd, r, S', kk, g.rp p, e, ekk, fun H2 M2 g2 => q _ _ (g.then g2)⟩
  | false => simp only [Bool.false_eq_true, if_false] at e; exact hb.run pins s1 σ H1 Q I1 ⟨μ, M1, S1, σd, r, S', kk, g.rp p, e, ekk, fun H2 M2 g2 => q _ _ (g.then g2)⟩

/-! ### argument lists, displays, subscripts -/
abbrev L (X : Cx) (fa : Nat → Addr) (cf : Cf) (es : List Expr) (is : IEs) : Prop := PA X es (tL X.K fa cf is)
theorem sl_nil : L X fa cf [] .nil := by
  refine PA.imp pa_nil fun σ H Q ⟨μ, M, S, σd, rs, S', p, e, q⟩ => ?_
  cases e
  exact q _ _ _ _ p.toRS.refl .nil
theorem sl_cons {es : List Expr} {is : IEs} (ha : E X fa cf a ia) (hr : L X fa cf es is) (hs : starEach (a :: es) X.env = (false, eval a X.env) :: starEach es X.env) : L X fa cf (a :: es) (.cons ia is) := by
  refine PA.imp (pa_cons ha hr hs) fun σ H Q ⟨μ, M, S, σd, rs, S', p, e, q⟩ => ?_
  simp only [evs, Option.bind_eq_some_iff] at e
  obtain ⟨⟨x, S1⟩, e1, ⟨ys, S2⟩, e2, e3⟩ := e
  cases e3
  refine ⟨μ, M, S, σd, x, S1, p, e1, fun v H1 M1 g1 q1 => ⟨μ, M1, S1, σd, ys, S2, g1.rp p, e2, fun vs H2 M2 as g2 q2 => ?_⟩⟩
  have q1' := g1.rr2 p.toRS g2 q1
  have q2' : RRL X.K fa μ S.length H H2 M2 ys vs as := by
    rw [g1.ln] at q2
    exact q2.since fun b h => g1.none h
  cases x with
  | f y =>
    obtain ⟨a0, rfl, h0, _, c0⟩ := q1
    obtain ⟨a1, e4, h1, h2, c⟩ := q1'
    cases e4
    exact q _ _ M2 _ (g1.then g2) (.f h1 h2 c (fun z => c0.dom (q2.new _ z).1) q2')
  | d y => exact q _ _ M2 _ (g1.then g2) (.o (fun _ z => by cases z) q1' q2')
  | l y => exact q _ _ M2 _ (g1.then g2) (.o (fun _ z => by cases z) q1' q2')
  | fn y => exact q _ _ M2 _ (g1.then g2) (.o (fun _ z => by cases z) q1' q2')
  | s0 y => exact q _ _ M2 _ (g1.then g2) (.o (fun _ z => by cases z) q1' q2')
  | fr y => exact q _ _ M2 _ (g1.then g2) (.o (fun _ z => by cases z) q1' q2')
  | rw y => exact q _ _ M2 _ (g1.then g2) (.o (fun _ z => by cases z) q1' q2')
theorem se_tup {es : List Expr} {is : IEs} {k : Nat} (h : L X fa cf es is) : E X fa cf (.Tuple es k pos) (.tup is) := by
  refine PE.imp (pe_tup h) fun σ H Q ⟨μ, M, S, σd, r, S', p, e, q⟩ => ?_
  simp only [ev, Option.bind_eq_some_iff] at e
  obtain ⟨⟨rs, S1⟩, e1, xs, e2, e⟩ := e
  split at e
  · cases e
    refine ⟨μ, M, S, σd, rs, S1, p, e1, fun vs H1 M1 as g1 q1 => ?_⟩
    have pa := q1.pure p.dom g1.mm e2
    refine ⟨by rw [pa.length]; exact lim_line (by assumption), fun ad n => ?_⟩
    have gb := g1.base p.toRS
    exact q _ _ M (gb.ext (.upd n)) (Rs.tup gb.dom n pa)
  · cases e
theorem se_lst {es : List Expr} {is : IEs} (h : L X fa cf es is) : E X fa cf (.List es pos) (.lst is) := by
  refine PE.imp (pe_lst h) fun σ H Q ⟨μ, M, S, σd, r, S', p, e, q⟩ => ?_
  simp only [ev, Option.bind_eq_some_iff] at e
  obtain ⟨⟨rs, S1⟩, e1, xs, e2, e⟩ := e
  split at e
  · cases e
    refine ⟨μ, M, S, σd, rs, S1, p, e1, fun vs H1 M1 as g1 q1 => ?_⟩
    have pa := q1.pure p.dom g1.mm e2
    refine ⟨by rw [pa.length]; exact lim_line (by assumption), fun ad n => ?_⟩
    have gb := g1.base p.toRS
    obtain ⟨M', g, rr⟩ := Rs.go (fa := fa) gb (.upd n) (Rs.lst gb.dom n pa)
    exact q _ _ M' g rr
  · cases e
theorem se_sub (hu : X.A.units + 65 < cLine) (ha : E X fa cf a ia) (hb : E X fa cf b ib) (hs : PlainIx b) : E X fa cf (.Subscript a b pos) (.sub ia ib) := by
  refine PE.imp (pe_ix (ix_all hu) ha hb hs) fun σ H Q ⟨μ, M, S, σd, r, S', p, e, q⟩ => ?_
  simp only [ev, Option.bind_eq_some_iff] at e
  obtain ⟨⟨x, S1⟩, e1, ⟨y, S2⟩, e2, u, e3, w, e4, r0, e5, e6⟩ := e
  cases e6
  refine ⟨μ, M, S, σd, x, S1, p, e1, fun v1 H1 M1 g1 q1 => ⟨μ, M1, S1, σd, y, S2, g1.rp p, e2, fun v2 H2 M2 g2 q2 => ?_⟩⟩
  have g12 := g1.then g2
  have p2 := g12.rs p.toRS
  exact ⟨M2, u, w, r0, (g1.rr2 p.toRS g2 q1).vz p2 e3, q2.va p2 e4, e5, fun z pz => q z H2 M2 g12 pz⟩
/-- a part of a slice -/
def tP (K : PySem.W.Frag) (fa : Nat → Addr) (cf : Cf) (es : IEs) : TO := fun σ H Q => ∃ μ M S σd o S', Rp K fa μ H M S σd σ ∧ evp cf es σd S = some (o, S') ∧ ∀ H' M', Go K μ S.length H M H' M' S' → Q o H'
theorem PO.imp {e : Option Expr} {t u : TO} (h : PO X e t) (m : ∀ σ H Q, u σ H Q → t σ H Q) : PO X e u := ⟨fun pins s σ H Q I q => h.run pins s σ H Q I (m σ H Q q)⟩
theorem sp_none : PO X none (tP X.K fa cf .nil) := by
  refine PO.imp po_none fun σ H Q ⟨μ, M, S, σd, o, S', p, e, q⟩ => ?_
  cases e
  exact q _ _ p.toRS.refl
theorem sp_some (ha : E X fa cf a ia) : PO X (some a) (tP X.K fa cf (.cons ia .nil)) := by
  refine PO.imp (po_some ha) fun σ H Q ⟨μ, M, S, σd, o, S', p, e, q⟩ => ?_
  simp only [evp, Option.bind_eq_some_iff] at e
  obtain ⟨⟨x, S1⟩, e1, e⟩ := e
  split at e
  · rename_i i hx
    cases e
    have hx : x = R.d (.int i) := hx
    subst hx
    refine ⟨μ, M, S, σd, _, S1, p, e1, fun v1 H1 M1 g1 q1 => ⟨i, ?_, q _ _ g1⟩⟩
    cases (show Pu X.K H1 M1 v1 (.int i) from q1)
    rfl
  · cases e
theorem se_slc {lo hi : Option Expr} {il ih : IEs} {p2 : Pos} (ha : E X fa cf a ia) (hl : PO X lo (tP X.K fa cf il)) (hh : PO X hi (tP X.K fa cf ih)) : E X fa cf (.Subscript a (.Slice lo hi none p2) pos) (.slc ia il ih) := by
  refine PE.imp (pe_slice sl_all ha hl hh) fun σ H Q ⟨μ, M, S, σd, r, S', p, e, q⟩ => ?_
  simp only [ev, Option.bind_eq_some_iff] at e
  obtain ⟨⟨x, S1⟩, e1, ⟨l, S2⟩, e2, ⟨h, S3⟩, e3, u, e4, r0, e5, e6⟩ := e
  cases e6
  refine ⟨μ, M, S, σd, x, S1, p, e1, fun v1 H1 M1 g1 q1 => ⟨μ, M1, S1, σd, l, S2, g1.rp p, e2, fun H2 M2 g2 => ?_⟩⟩
  have g12 := g1.then g2
  refine ⟨μ, M2, S2, σd, h, S3, g12.rp p, e3, fun H3 M3 g3 => ?_⟩
  have g123 := g12.then g3
  have p3 := g123.rs p.toRS
  have q1' : RR X.K fa μ S.length H H3 M3 x v1 := g12.rr2 p.toRS g3 (g1.rr2 p.toRS g2 q1)
  refine ⟨M3, u, _, g3.dom, q1'.va p3 e4, e5, fun z H4 x4 qz => ?_⟩
  obtain ⟨M', g, rr⟩ := Rs.go (fa := fa) g123 x4 qz
  exact q z H4 M' g rr
/-! ### built-ins, isinstance, methods -/
def rLenTu (K : PySem.W.Frag) : List V → Hp → VK → Prop := fun xs H Q => ∃ (a : Addr) (vs : List V), xs = [.ref a] ∧ SqT K H a vs ∧ Q (.int (vs.length : Nat)) H
theorem call_lenTu : CallR X (.builtin "len") (rLenTu X.K) := by
  intro pins s σ H xs us Q I rs ⟨a, vs, e, h, q⟩
  exact call_len_seq pins s σ H _ us Q I rs ⟨_, _, e, .inr h, q⟩
/-- len of a tuple that nobody else made -/
theorem se_blt {es : List Expr} {is : IEs} {bt : Bt} (h : L X fa cf es is) (hp : ∀ t, PA X es t → PE X a (tCB (rBlt X.K bt) t)) (hp2 : bt = .len → ∀ t, PA X es t → PE X a (tCB (rLenTu X.K) t)) : E X fa cf a (.blt bt is) := by
  refine ⟨fun pins s σ H Q I h0 => ?_⟩
  have h1 := h0
  obtain ⟨μ, M, S, σd, r, S', p, e, q⟩ := h1
  simp only [ev, Option.bind_eq_some_iff] at e
  obtain ⟨⟨rs, S1⟩, e1, xs, e2, r0, e3, e⟩ := e
  cases e
  dsimp only at e2
  unfold rdsb at e2
  split at e2
  · rename_i ys
    split at e2
    · rename_i hb
      cases e2
      subst hb
      refine (hp2 rfl _ h).run pins s σ H Q I ?_
      refine ⟨μ, M, S, σd, _, S1, p, e1, fun vs H1 M1 as g1 q1 => ?_⟩
      cases q1 with
      | o hr q1 qn =>
        cases qn
        obtain ⟨a, rfl, n, o, ws, h2, h3, h4⟩ := q1
        have e5 : bltD .len [PyData.tuple ys] = some (.d (.int ys.length)) := rfl
        rw [e5] at e3
        cases e3
        exact ⟨a, ws, rfl, .inl (.inr ⟨o, h2⟩), by rw [h4.length]; exact q _ _ M1 g1 (.int _)⟩
    · cases e2
  · refine (hp _ h).run pins s σ H Q I ?_
    refine ⟨μ, M, S, σd, rs, S1, p, e1, fun vs H1 M1 as g1 q1 => ⟨M1, xs, _, g1.dom, q1.va (g1.rs p.toRS) e2, e3, fun z H2 x2 qz => ?_⟩⟩
    obtain ⟨M', g, rr⟩ := Rs.go (fa := fa) g1 x2 qz
    exact q z H2 M' g rr
end
end Ip

set_option Elab.async false
set_option linter.all false
set_option maxRecDepth 100000
set_option maxHeartbeats 4000000
/-! How a call's arguments are bound. -/
namespace Ip
open PySem PySem.Spec

theorem look_at {α : Type} : ∀ {names : List Str} {vals : List α} {i : Nat} {p : Str} {v : α}, names.Nodup → names[i]? = some p → vals[i]? = some v → (names.zip vals).lookup p = some v
  | [], _, _, _, _, _, h, _ => by simp at h
  | _ :: _, [], _, _, _, _, _, h => by simp at h
  | n :: names, w :: vals, 0, p, v, _, h1, h2 => by
    simp at h1 h2; subst h1; subst h2
    simp [List.zip_cons_cons, List.lookup_cons]
  | n :: names, w :: vals, i + 1, p, v, nd, h1, h2 => by
    obtain ⟨g1, g2⟩ := List.nodup_cons.mp nd
    simp only [List.getElem?_cons_succ] at h1 h2
    have : (p == n) = false := by
      rw [beq_eq_false_iff_ne]; rintro rfl; exact g1 (List.mem_of_getElem? h1)
    simp only [List.zip_cons_cons, List.lookup_cons, this]
    exact look_at g2 h1 h2
theorem binds_loop {β : Type} (f : Str × Value → List (Str × Value) × List (Str × Value) → Sem (ForInStep (List (Str × Value) × List (Str × Value)))) (P : Str → Prop)
    (hf : ∀ k v (a b : List (Str × Value)), P k → a.lookup k = none → f (k, v) (a, b) = pure (.yield (a ++ [(k, v)], b))) :
    ∀ (kw a b : List (Str × Value)), (∀ q ∈ kw, P q.1) → (kw.map (·.1)).Nodup → (∀ q ∈ kw, a.lookup q.1 = none) → forIn kw (a, b) f = pure (a ++ kw, b)
  | [], a, b, _, _, _ => by simp
  | (k, v) :: r, a, b, h1, nd, h2 => by
    obtain ⟨g1, g2⟩ := List.nodup_cons.mp nd
    rw [List.forIn_cons, hf k v a b (h1 _ (List.mem_cons_self ..)) (h2 _ (List.mem_cons_self ..))]
    have ih := binds_loop (β := β) f P hf r (a ++ [(k, v)]) b (fun q hq => h1 q (List.mem_cons_of_mem _ hq)) g2 fun q hq => by
      have e : (q.1 == k) = false := by
        rw [beq_eq_false_iff_ne]; intro z; have hm := List.mem_map_of_mem (f := fun x : Str × Value => x.1) hq; rw [z] at hm; exact g1 hm
      have := h2 q (List.mem_cons_of_mem _ hq)
      rw [List.lookup_append, this]
      simp [List.lookup_cons, e]
    simp only [pure_bind]
    rw [ih]
    simp
theorem zip_take {α β : Type} : ∀ (ps : List α) (us : List β), ps.zip us = (ps.take us.length).zip us
  | [], _ => by simp
  | _ :: _, [] => by simp
  | p :: ps, u :: us => by simp [zip_take ps us]
theorem filter_zip {β : Type} (look : Str → Option β) : ∀ (ps : List Str) (vs : List β), ps.length = vs.length → (∀ (i : Nat) (p : Str) (v : β), ps[i]? = some p → vs[i]? = some v → look p = some v) → ps.filterMap (fun n => (look n).map (n, ·)) = ps.zip vs
  | [], _, _, _ => by simp
  | p :: ps, [], h, _ => by simp at h
  | p :: ps, v :: vs, h, hl => by
    have e := hl 0 p v rfl rfl
    simp only [List.filterMap_cons, e, Option.map_some, List.zip_cons_cons]
    rw [filter_zip look ps vs (by simpa using h) fun i q w h1 h2 => hl (i + 1) q w (by simpa using h1) (by simpa using h2)]
/-- the written values us ++ ws, the names of ws; vals: by parameters -/
theorem bind_all {name qual : Str} {args : List Arg} {body : List Stmt} {scope : Scope} {kV doc pm : Value} {an : Option Addr} {cdv ct : Value} {us ws vals : List Value} {ks : List Str}
    (nd : ((args.map (·.arg)).take us.length ++ ks).Nodup) (hks : ∀ k ∈ ks, k ∈ args.map (·.arg)) (hl : us.length ≤ args.length) (hw : ks.length = ws.length) (hlen : vals.length = args.length)
    (hv : ∀ (i : Nat) (p : Str) (v : Value), (args.map (·.arg))[i]? = some p → vals[i]? = some v → ∃ j : Nat, ((args.map (·.arg)).take us.length ++ ks)[j]? = some p ∧ (us ++ ws)[j]? = some v) :
    bindArgs (PySem.W.fnOf name qual ⟨[], args, none, [], [], none, []⟩ body scope .none kV doc pm an cdv ct) ⟨us, ks.zip ws⟩ = pure ((args.map (·.arg)).zip vals) := by
  generalize hps : args.map (·.arg) = ps at *
  have hpl : ps.length = args.length := by rw [← hps, List.length_map]
  have e0 : ps.zip us ++ ks.zip ws = (ps.take us.length ++ ks).zip (us ++ ws) := by
    rw [zip_take ps us, List.zip_append]
    rw [List.length_take]; omega
  have look : ∀ (i : Nat) (p : Str) (v : Value), ps[i]? = some p → vals[i]? = some v → (ps.zip us ++ ks.zip ws).lookup p = some v := fun i p v h1 h2 => by
    obtain ⟨j, h3, h4⟩ := hv i p v h1 h2
    rw [e0]
    exact look_at nd h3 h4
  have some_ : ∀ p ∈ ps, ((ps.zip us ++ ks.zip ws).lookup p).isNone = false := fun p hp => by
    obtain ⟨i, h1⟩ := List.getElem?_of_mem hp
    have hi : i < vals.length := by rw [hlen, ← hpl]; exact (List.getElem?_eq_some_iff.mp h1).1
    rw [look i p _ h1 (List.getElem?_eq_getElem hi)]
    rfl
  have lps : ks.map id = ks := by simp
  have kz : (ks.zip ws).map (·.1) = ks := by
    rw [List.map_fst_zip]; omega
  have ndk : ((ks.zip ws).map (·.1)).Nodup := by rw [kz]; exact nd.sublist (List.sublist_append_right _ _)
  have fresh : ∀ q ∈ ks.zip ws, (ps.zip us).lookup q.1 = none := fun q hq => by
    have hk : q.1 ∈ ks := (List.of_mem_zip hq).1
    cases e : (ps.zip us).lookup q.1 with
    | none => rfl
    | some v =>
      have hm := PySem.mem_of_lookup e
      rw [zip_take] at hm
      have h1 := (List.of_mem_zip hm).1
      exact absurd rfl ((List.nodup_append.mp nd).2.2 _ h1 _ hk)
  unfold bindArgs
  simp only [PySem.W.fnOf, hps, List.map_nil, List.nil_append, List.append_nil]
  rw [binds_loop (β := Unit) _ (fun k => k ∈ ps) (fun k v a b hk ha => by
    have e1 : ps.contains k = true := by simpa using hk
    simp only [e1, ha, Bool.true_or, if_true, Option.isSome_none, Bool.false_eq_true, if_false]) (ks.zip ws) (ps.zip us) [] (fun q hq => hks _ (List.of_mem_zip hq).1) ndk fresh]
  simp only [pure_bind]
  have es : (seqItems? Value.none) = pure none := rfl
  rw [es]
  simp only [pure_bind, Option.getD_none, List.length_nil, Nat.zero_sub, List.drop_nil, Nat.sub_zero]
  have hg : (decide (us.length > ps.length) && true) = false := by simp; omega
  have hm : (ps.take ps.length).filter (fun n => ((ps.zip us ++ ks.zip ws).lookup n).isNone) = [] := by
    rw [List.take_length, List.filter_eq_nil_iff]
    intro p hp
    rw [some_ p hp]; simp
  have hgt : ¬ (us.length > ps.length) := by omega
  simp only [show (#[] : Array Value).toList = [] from rfl, List.length_nil, Nat.zero_sub, List.drop_nil, Nat.sub_zero, hm, List.isEmpty_nil, Bool.not_true, Bool.false_eq_true, if_false, List.drop_length, List.zip_nil_left, List.forIn_nil, pure_bind, Option.isNone_none, hgt, decide_false, Bool.false_and]
  rw [filter_zip _ ps vals (by rw [hpl, hlen]) look]
end Ip

set_option Elab.async false
set_option linter.all false
set_option maxRecDepth 100000
set_option maxHeartbeats 1000000
/-! Calls. -/
namespace Ip
open PySem PySem.Spec PyProof.Rows L2

def rm (H : Hp) (as : List Addr) : Hp := fun b => if b ∈ as then none else H b
def rmM (M : Mk) (as : List Addr) : Mk := fun b => M b ∧ b ∉ as
/-- what a def promises -/
def spF (K : PySem.W.Frag) (fa : Nat → Addr) (cf : Cf) (k m : Nat) : Sp := fun vs H Q _ => vs.length = m ∧ ∃ μ M S rs as r S' H0, RS K μ H M S ∧ RRL K fa μ S.length H0 H M rs vs as ∧ (∀ a ∈ as, ∀ k, k < S.length → a ≠ μ k) ∧
  cf k rs S = some (r, S') ∧ ∀ v H' M', Go K μ S.length (rm H as) (rmM M as) H' M' S' → RR K fa μ S.length (rm H as) H' M' r v → Q v H'
section
variable {K : PySem.W.Frag} {fa μ : Nat → Addr} {n : Nat} {H H1 H2 H' : Hp} {M M1 M2 M' : Mk} {S S1 S2 S' : Store} {as : List Addr}
theorem rm_some {b : Addr} {o : HO} (h : rm H as b = some o) : b ∉ as ∧ H b = some o := by
  unfold rm at h
  split at h
  · cases h
  · exact ⟨by assumption, h⟩
theorem rm_of {b : Addr} (h : b ∉ as) : rm H as b = H b := if_neg h
theorem go_rm (g : Go K μ S.length H M H1 M1 S1) (p : RS K μ H M S) (ha : ∀ a ∈ as, H a = none ∧ M1 a) : Go K μ S.length H M (rm H1 as) (rmM M1 as) S1 := by
  have nm : ∀ b, M b → b ∉ as := fun b z h => (p.dom b z).1 (ha b h).1
  have ns : ∀ b o, H b = some o → b ∉ as := fun b o e h => by rw [(ha b h).1] at e; cases e
  have kp : ∀ b o, H1 b = some o → ¬ M1 b → rm H1 as b = some o := fun b o e z => by rw [rm_of fun h => z (ha b h).2]; exact e
  refine ⟨fun b z => ⟨g.mm b z, nm b z⟩, fun b z => g.new b z.1, fun b z => by rw [rm_of z.2]; exact g.dom b z.1, fun b o e k => by rw [rm_of (ns b o e)]; exact g.fr b o e k, fun b z => ?_, fun b o u e => by rw [rm_of (ns b _ e)]; exact g.fz b o u e, g.ln, fun k x e => ?_⟩
  · cases q : H b with
    | none => exact absurd q z
    | some o => rw [rm_of (ns b o q)]; exact g.dm b z
  · obtain ⟨h1, h2⟩ := g.st k x e
    have hk : μ k ∉ as := nm _ (p.mu (by rw [← g.ln]; exact (List.getElem?_eq_some_iff.mp e).1))
    exact ⟨⟨h1, hk⟩, h2.mono kp (fun b _ _ z => z.1) fun o e => by rw [rm_of hk]; exact e⟩
theorem RRL.nf : ∀ {rs : List R} {vs : List V}, RRL K fa μ n H H' M' rs vs as → ∀ (i : Nat) (r : R), rs[i]? = some r → ∃ v, vs[i]? = some v ∧ RR K fa μ n H H' M' r v := by
  intro rs vs q
  induction q with
  | nil => intro i r h; simp at h
  | @f x a rs vs as h0 h1 c ha _ ih =>
    intro i r h
    cases i with
    | zero => simp at h; subst h; exact ⟨_, rfl, a, rfl, h0, h1, c⟩
    | succ i => exact ih i r (by simpa using h)
  | o hr q _ ih =>
    intro i r h
    cases i with
    | zero => simp at h; subst h; exact ⟨_, rfl, q⟩
    | succ i => exact ih i r (by simpa using h)
/-- the new ones given up -/
theorem RR.dep {r : R} {v : V} (q : RR K fa μ n H H1 M1 r v) (hM : Dom H M) (hm : ∀ b, M b → M1 b) (H0 : Hp) : RR K fa μ n H0 H1 M (depR r) v := by
  cases r with
  | d x => exact Pu.mono (fun _ _ e _ => e) (fun b _ _ z => hm b z) q
  | f x => obtain ⟨a, rfl, h0, _, c⟩ := q; exact c.pu (fun b _ _ z => hm b z) fun z => (hM a z).1 h0
  | l k => exact q
  | fn k => exact q
  | s0 x => obtain ⟨a, e, h⟩ := q; exact ⟨a, e, h.mono (fun _ _ e _ => e) fun b _ _ z => hm b z⟩
  | fr xs => obtain ⟨a, as, rfl, h1, h2, _, h4⟩ := q; exact .lst h2 (fun z => h1 (hm _ z)) (h4.pua hM hm)
  | rw ks => obtain ⟨a, e, h1, h2, h3⟩ := q; exact ⟨a, e, fun z => h1 (hm _ z), h2, h3⟩
theorem depR_nf (r : R) : ∀ x, depR r ≠ .f x := by cases r <;> intro x h <;> cases h
theorem RRL.perm {rs : List R} {vs : List V} (q : RRL K fa μ n H H1 M1 rs vs as) (hM : Dom H M) (hm : ∀ b, M b → M1 b) (H0 : Hp) : ∀ {perm : List Nat} {qs : List R}, permR rs perm = some qs →
    RRL K fa μ n H0 H1 M qs (perm.map fun i => vs.getD i .non) []
  | [], qs, e => by cases e; exact .nil
  | i :: is, qs, e => by
    simp only [permR, Option.bind_eq_some_iff] at e
    obtain ⟨r, e1, q2, e2, e3⟩ := e
    cases e3
    obtain ⟨v, h1, h2⟩ := q.nf i r e1
    have ev : vs.getD i .non = v := by rw [List.getD_eq_getElem?_getD, h1]; rfl
    simp only [List.map_cons, ev]
    exact .o (depR_nf r) (h2.dep hM hm H0) (RRL.perm q hM hm H0 e2)
theorem rm_nil : rm H [] = H := by funext b; exact if_neg (by simp)
theorem rmM_nil : rmM M [] = M := by funext b; simp [rmM]
theorem permR_length {rs : List R} : ∀ {perm : List Nat} {qs : List R}, permR rs perm = some qs → qs.length = perm.length
  | [], qs, e => by cases e; rfl
  | i :: is, qs, e => by
    simp only [permR, Option.bind_eq_some_iff] at e
    obtain ⟨r, e1, q2, e2, e3⟩ := e
    cases e3
    simp [permR_length e2]
end

/-- the def k may be called at level n -/
structure Cal (X : Cx) (fa : Nat → Addr) (cf : Cf) (n k : Nat) (ps : List Str) : Prop where
  ex : ∃ fd : FuncData, FnOk X.prog X.w X.K X.mg X.base CX0 n (fa k) fd ps (spF X.K fa cf k ps.length) ∧
    ∀ (s : Shared) (us ws vals : List Value) (ks : List Str), (ps.take us.length ++ ks).Nodup → (∀ k ∈ ks, k ∈ ps) → us.length ≤ ps.length → ks.length = ws.length → vals.length = ps.length →
      (∀ (i : Nat) (p : Str) (v : Value), ps[i]? = some p → vals[i]? = some v → ∃ j : Nat, (ps.take us.length ++ ks)[j]? = some p ∧ (us ++ ws)[j]? = some v) → BindsTo s fd ⟨us, ks.zip ws⟩ (ps.zip vals)
  kp : PySem.W.keepIn X.K (.ref (fa k)) = true
  nd : ps.Nodup

section
variable {X : Cx} {fa : Nat → Addr} {cf : Cf} {n k : Nat} {ps : List Str} {x : Str} {p pos : Pos} {a : Expr} {ia : IE} {es : List Expr} {is : IEs}
theorem Cal.binds {fd : FuncData} (nd : ps.Nodup) (h : ∀ (s : Shared) (us ws vals : List Value) (ks : List Str), (ps.take us.length ++ ks).Nodup → (∀ k ∈ ks, k ∈ ps) → us.length ≤ ps.length → ks.length = ws.length → vals.length = ps.length →
      (∀ (i : Nat) (p : Str) (v : Value), ps[i]? = some p → vals[i]? = some v → ∃ j : Nat, (ps.take us.length ++ ks)[j]? = some p ∧ (us ++ ws)[j]? = some v) → BindsTo s fd ⟨us, ks.zip ws⟩ (ps.zip vals)) : Binds X.K fd ps [] := by
  intro s us _ hl
  rw [List.append_nil] at hl ⊢
  have := h s us [] us [] (by rw [List.append_nil]; exact nd.sublist (List.take_sublist _ _)) (fun _ z => by cases z) (by omega) rfl hl fun i p v h1 h2 => ⟨i, by rw [List.append_nil, hl, List.take_length]; exact h1, by rw [List.append_nil]; exact h2⟩
  simpa using this
/-- behind the arguments: the promise's part -/
theorem sp_of {μ : Nat → Addr} {H H1 : Hp} {M M1 : Mk} {S S1 S' : Store} {rs : List R} {vs : List V} {as : List Addr} {r : R} {Q : VK} {EE : XK} (p : RS X.K μ H M S) (g1 : Go X.K μ S.length H M H1 M1 S1) (q1 : RRL X.K fa μ S.length H H1 M1 rs vs as)
    (hl : rs.length = ps.length) (e : cf k rs S1 = some (r, S')) (q : ∀ v H' M', Go X.K μ S.length H M H' M' S' → RR X.K fa μ S.length H H' M' r v → Q v H') : spF X.K fa cf k ps.length vs H1 Q EE := by
  have ha := q1.new
  have gr := go_rm g1 p ha
  refine ⟨by rw [q1.length, hl], μ, M1, S1, rs, as, r, S', H, g1.rs p, g1.ln.symm ▸ q1, fun a h k hk z => ?_, e, fun v H' M' g2 q2 => ?_⟩
  · have := (ha a h).1
    rw [z] at this
    exact (p.dom _ (p.mu (by rw [← g1.ln]; exact hk))).1 this
  · exact q v H' M' (gr.then g2) (gr.rrb q2)
theorem se_call (c : Cal X fa cf n k ps) (hr : Room n X.A) (hg : Gl X x) (hm : X.mg x = some (.ref (fa k))) (h : L X fa cf (a :: es) (.cons ia is)) (hn : (a :: es).length = ps.length) (hil : ∀ σ S rs S', evs cf (.cons ia is) σ S = some (rs, S') → rs.length = ps.length)
    (hdb : (x == ("__debug__" : Str)) = false) (he : starEach (a :: es) X.env = (false, eval a X.env) :: starEach es X.env) (hpl : (backTo pos (starEach es X.env)).any (·.1) = false) :
    E X fa cf (.Call (.Name x p) (a :: es) [] pos) (.call k [] (.cons ia is)) := by
  obtain ⟨fd, F, hb⟩ := c.ex
  refine PE.imp (pe_call F hr hg hm c.kp (Cal.binds c.nd hb) .nil (E := fun _ _ _ => False) pass0 h hdb he hpl) fun σ H Q ⟨μ, M, S, σd, r, S', p, e, q⟩ => ?_
  simp only [ev, Option.bind_eq_some_iff] at e
  obtain ⟨⟨rs, S1⟩, e1, e⟩ := e
  refine ⟨μ, M, S, σd, rs, S1, p, e1, fun vs H1 M1 as g1 q1 => ?_⟩
  show spF X.K fa cf k ps.length (vs ++ []) H1 Q fun _ _ _ => False
  rw [List.append_nil]
  exact sp_of p.toRS g1 q1 (hil _ _ _ _ e1) e q
theorem se_call0 (c : Cal X fa cf n k []) (hr : Room n X.A) (hg : Gl X x) (hm : X.mg x = some (.ref (fa k))) (hdb : (x == ("__debug__" : Str)) = false) :
    E X fa cf (.Call (.Name x p) [] [] pos) (.call k [] .nil) := by
  obtain ⟨fd, F, hb⟩ := c.ex
  refine PE.imp (pe_call0 F hr hg hm c.kp (Cal.binds c.nd hb) .nil (E := fun _ _ _ => False) pass0 hdb) fun σ H Q ⟨μ, M, S, σd, r, S', p, e, q⟩ => ?_
  simp only [ev, Option.bind_eq_some_iff] at e
  obtain ⟨⟨rs, S1⟩, e1, e⟩ := e
  cases e1
  exact sp_of (EE := fun _ _ _ => False) p.toRS p.toRS.refl .nil rfl e q
theorem se_callv {i : Nat} {pp : Nat → Option (List Str)} (c : ∀ k ps, pp k = some ps → Cal X fa cf n k ps) (hcf : ∀ k rs S r S', cf k rs S = some (r, S') → ∃ ps, pp k = some ps ∧ rs.length = ps.length) (hr : Room n X.A) (hN : X.N[i]? = some x) (hv : Vis X.env.scope x) (h : L X fa cf (a :: es) (.cons ia is))
    (hdb : (x == ("__debug__" : Str)) = false) (hcd : (x == ("__classdict__" : Str)) = false) (he : starEach (a :: es) X.env = (false, eval a X.env) :: starEach es X.env) (hpl : (backTo pos (starEach es X.env)).any (·.1) = false) :
    E X fa cf (.Call (.Name x p) (a :: es) [] pos) (.callv i (.cons ia is)) := by
  refine ⟨fun pins s σ H Q I ⟨μ, M, S, σd, r, S', p, e, q⟩ => ?_⟩
  simp only [ev] at e
  split at e
  · rename_i k0 ek
    simp only [Option.bind_eq_some_iff] at e
    obtain ⟨⟨rs, S1⟩, e1, e⟩ := e
    obtain ⟨ps, h1, h2⟩ := hcf _ _ _ _ _ e
    have c0 := c _ _ h1
    obtain ⟨fd, F, hb⟩ := c0.ex
    obtain ⟨v, h3, h4⟩ := p.sl i _ ek
    cases (show v = .ref (fa k0) from h4)
    refine (pe_callL F hr hN hv c0.kp (Cal.binds c0.nd hb) .nil (E := fun _ _ _ => False) pass0 h hdb hcd he hpl).run pins s σ H Q I ⟨h3, ⟨μ, M, S, σd, rs, S1, p, e1, fun vs H1 M1 as g1 q1 => ?_⟩⟩
    show spF X.K fa cf k0 ps.length (vs ++ []) H1 Q fun _ _ _ => False
    rw [List.append_nil]
    exact sp_of p.toRS g1 q1 h2 e q
  · cases e

/-! ### keywords -/
abbrev KL (X : Cx) (fa : Nat → Addr) (cf : Cf) (ks : List Keyword) (is : IEs) : Prop := PK X ks (tL X.K fa cf is)
theorem PK.imp {e : List Keyword} {t u : TA} (h : PK X e t) (m : ∀ σ H Q, u σ H Q → t σ H Q) : PK X e u := ⟨fun pos pins s σ H Q I q => h.run pos pins s σ H Q I (m σ H Q q)⟩
theorem sl_consA {te : TE} {tr : TA} (hte : te = tE X.K fa cf ia) (htr : tr = tL X.K fa cf is) : ∀ σ H Q, tL X.K fa cf (.cons ia is) σ H Q → tCons te tr σ H Q := by
  subst hte htr
  intro σ H Q ⟨μ, M, S, σd, rs, S', p, e, q⟩
  simp only [evs, Option.bind_eq_some_iff] at e
  obtain ⟨⟨x, S1⟩, e1, ⟨ys, S2⟩, e2, e3⟩ := e
  cases e3
  refine ⟨μ, M, S, σd, x, S1, p, e1, fun v H1 M1 g1 q1 => ⟨μ, M1, S1, σd, ys, S2, g1.rp p, e2, fun vs H2 M2 as g2 q2 => ?_⟩⟩
  have q1' := g1.rr2 p.toRS g2 q1
  have q2' : RRL X.K fa μ S.length H H2 M2 ys vs as := by
    rw [g1.ln] at q2
    exact q2.since fun b h => g1.none h
  cases x with
  | f y =>
    obtain ⟨a0, rfl, h0, _, c0⟩ := q1
    obtain ⟨a1, e4, h1, h2, c⟩ := q1'
    cases e4
    exact q _ _ M2 _ (g1.then g2) (.f h1 h2 c (fun z => c0.dom (q2.new _ z).1) q2')
  | d y => exact q _ _ M2 _ (g1.then g2) (.o (fun _ z => by cases z) q1' q2')
  | l y => exact q _ _ M2 _ (g1.then g2) (.o (fun _ z => by cases z) q1' q2')
  | fn y => exact q _ _ M2 _ (g1.then g2) (.o (fun _ z => by cases z) q1' q2')
  | s0 y => exact q _ _ M2 _ (g1.then g2) (.o (fun _ z => by cases z) q1' q2')
  | fr y => exact q _ _ M2 _ (g1.then g2) (.o (fun _ z => by cases z) q1' q2')
  | rw y => exact q _ _ M2 _ (g1.then g2) (.o (fun _ z => by cases z) q1' q2')
theorem sk_nil : KL X fa cf [] .nil := by
  refine PK.imp pk_nil fun σ H Q ⟨μ, M, S, σd, rs, S', p, e, q⟩ => ?_
  cases e
  exact q _ _ _ _ p.toRS.refl .nil
theorem sk_cons {nm : Option Str} {kws : List Keyword} {kpos : Pos} (ha : E X fa cf a ia) (hr : KL X fa cf kws is) : KL X fa cf (⟨nm, a, kpos⟩ :: kws) (.cons ia is) := PK.imp (pk_cons ha hr) (sl_consA rfl rfl)
def app : IEs → IEs → IEs
  | .nil, b => b
  | .cons e r, b => .cons e (app r b)
theorem evs_app : ∀ (i j : IEs) (σ : Ev) (S S' : Store) (rs : List R), evs cf (app i j) σ S = some (rs, S') → ∃ r1 S1 r2, evs cf i σ S = some (r1, S1) ∧ evs cf j σ S1 = some (r2, S') ∧ rs = r1 ++ r2
  | .nil, j, σ, S, S', rs, e => ⟨[], S, rs, rfl, e, rfl⟩
  | .cons a r, j, σ, S, S', rs, e => by
    simp only [app, evs, Option.bind_eq_some_iff] at e
    obtain ⟨⟨x, S1⟩, e1, ⟨ys, S2⟩, e2, e3⟩ := e
    cases e3
    obtain ⟨r1, S3, r2, h1, h2, h3⟩ := evs_app r j _ _ _ _ e2
    subst h3
    exact ⟨x :: r1, S3, r2, by simp only [evs, e1, h1, Option.bind_some], h2, rfl⟩
theorem RRL.app {K : PySem.W.Frag} {μ : Nat → Addr} {m : Nat} {H H' : Hp} {M' : Mk} {rs rs2 : List R} {vs vs2 : List V} {as as2 : List Addr} (q : RRL K fa μ m H H' M' rs vs as) (q2 : RRL K fa μ m H H' M' rs2 vs2 as2) (hd : ∀ a ∈ as, a ∉ as2) : RRL K fa μ m H H' M' (rs ++ rs2) (vs ++ vs2) (as ++ as2) := by
  induction q with
  | nil => exact q2
  | f h0 h1 c ha _ ih => exact .f h0 h1 c (fun z => (List.mem_append.mp z).elim ha (hd _ (List.mem_cons_self ..))) (ih fun b hb => hd b (List.mem_cons_of_mem _ hb))
  | o hr q _ ih => exact .o hr q (ih hd)
theorem RRL.next {K : PySem.W.Frag} {μ : Nat → Addr} {H H1 H2 : Hp} {M M1 M2 : Mk} {S S1 S2 : Store} {rs : List R} {vs : List V} {as : List Addr} (g1 : Go K μ S.length H M H1 M1 S1) (p : RS K μ H M S) (g2 : Go K μ S1.length H1 M1 H2 M2 S2) (q : RRL K fa μ S.length H H1 M1 rs vs as) : RRL K fa μ S.length H H2 M2 rs vs as := by
  induction q with
  | nil => exact .nil
  | @f x a rs vs as h0 h1 c ha _ ih =>
    have q1 : RR K fa μ S.length H H1 M1 (.f x) (.ref a) := ⟨a, rfl, h0, h1, c⟩
    obtain ⟨b, e, h2, h3, c2⟩ := g1.rr2 p g2 q1
    cases e
    exact .f h2 h3 c2 ha ih
  | o hr q _ ih => exact .o hr (g1.rr2 p g2 q) ih
theorem RRL.mem {K : PySem.W.Frag} {μ : Nat → Addr} {m : Nat} {H H' : Hp} {M' : Mk} {rs : List R} {vs : List V} {as : List Addr} (q : RRL K fa μ m H H' M' rs vs as) : ∀ a ∈ as, H' a ≠ none := by
  induction q with
  | nil => intro a h; cases h
  | f h0 h1 c ha _ ih =>
    intro b hb
    rcases List.mem_cons.mp hb with rfl | hb
    · exact c.dom
    · exact ih b hb
  | o hr q _ ih => exact ih
def len : IEs → Nat
  | .nil => 0
  | .cons _ r => len r + 1
theorem evs_len : ∀ (i : IEs) (σ : Ev) (S S' : Store) (rs : List R), evs cf i σ S = some (rs, S') → rs.length = len i
  | .nil, σ, S, S', rs, e => by cases e; rfl
  | .cons a r, σ, S, S', rs, e => by
    simp only [evs, Option.bind_eq_some_iff] at e
    obtain ⟨⟨x, S1⟩, e1, ⟨ys, S2⟩, e2, e3⟩ := e
    cases e3
    simp [len, evs_len r _ _ _ _ e2]
/-- two lists in a row, the second one the keywords -/
theorem both {is js : IEs} {σ : L2.St} {H : Hp} {Q : List V → List V → Hp → Prop} {μ : Nat → Addr} {M : Mk} {S S' : Store} {σd : Ev} {rs : List R} (p : Rp X.K fa μ H M S σd σ) (e : evs cf (app is js) σd S = some (rs, S'))
    (q : ∀ vs zs H' M' as, vs.length = len is → zs.length = len js → Go X.K μ S.length H M H' M' S' → RRL X.K fa μ S.length H H' M' rs (vs ++ zs) as → Q vs zs H') : tL X.K fa cf is σ H fun vs H1 => tL X.K fa cf js σ H1 fun zs H2 => Q vs zs H2 := by
  obtain ⟨r1, S1, r2, e1, e2, rfl⟩ := evs_app is js _ _ _ _ e
  refine ⟨μ, M, S, σd, r1, S1, p, e1, fun vs H1 M1 as g1 q1 => ⟨μ, M1, S1, σd, r2, S', g1.rp p, e2, fun zs H2 M2 bs g2 q2 => ?_⟩⟩
  have q2' : RRL X.K fa μ S.length H H2 M2 r2 zs bs := by
    rw [g1.ln] at q2
    exact q2.since fun b h => g1.none h
  refine q vs zs H2 M2 _ (by rw [q1.length, evs_len _ _ _ _ _ e1]) (by rw [q2.length, evs_len _ _ _ _ _ e2]) (g1.then g2) ((RRL.next g1 p.toRS g2 q1).app q2' fun a ha hb => ?_)
  exact q1.mem a ha (q2.new a hb).1

/-- perm says at which written place each parameter's value stands -/
def permOk (ps : List Str) (np : Nat) (ks : List Str) (perm : List Nat) : Bool :=
  decide (perm ≠ []) && (decide (np ≤ ps.length) && (decide ((ps.take np ++ ks).Nodup) && (ks.all (fun k => decide (k ∈ ps)) && decide (perm.map (fun i => (ps.take np ++ ks)[i]?) = ps.map some))))
def gK {α : Type} (d : α) (np nk : Nat) (perm : List Nat) (us ws : List α) : List α := if us.length = np ∧ ws.length = nk then perm.map fun i => (us ++ ws).getD i d else []
theorem perm_at {ps : List Str} {np : Nat} {ks : List Str} {perm : List Nat} (h : permOk ps np ks perm = true) : perm ≠ [] ∧ np ≤ ps.length ∧ (ps.take np ++ ks).Nodup ∧ (∀ k ∈ ks, k ∈ ps) ∧ perm.length = ps.length ∧
    ∀ (i : Nat) (p : Str), ps[i]? = some p → ∃ j, perm[i]? = some j ∧ (ps.take np ++ ks)[j]? = some p := by
  simp only [permOk, Bool.and_eq_true, decide_eq_true_eq, List.all_eq_true] at h
  obtain ⟨h0, h1, h2, h3, h4⟩ := h
  have hl : perm.length = ps.length := by
    have := congrArg List.length h4
    simpa using this
  refine ⟨h0, h1, h2, h3, hl, fun i p hp => ?_⟩
  have hi : i < perm.length := by rw [hl]; exact (List.getElem?_eq_some_iff.mp hp).1
  have e := congrArg (fun l => l[i]?) h4
  simp only [List.getElem?_map, hp, Option.map_some, List.getElem?_eq_getElem hi] at e
  exact ⟨_, List.getElem?_eq_getElem hi, Option.some.inj e⟩
theorem kbinds_of {K : PySem.W.Frag} {fd : FuncData} {np : Nat} {ks : List Str} {perm : List Nat} (h : permOk ps np ks perm = true)
    (bd : ∀ (s : Shared) (us ws vals : List Value) (ks : List Str), (ps.take us.length ++ ks).Nodup → (∀ k ∈ ks, k ∈ ps) → us.length ≤ ps.length → ks.length = ws.length → vals.length = ps.length →
      (∀ (i : Nat) (p : Str) (v : Value), ps[i]? = some p → vals[i]? = some v → ∃ j : Nat, (ps.take us.length ++ ks)[j]? = some p ∧ (us ++ ws)[j]? = some v) → BindsTo s fd ⟨us, ks.zip ws⟩ (ps.zip vals)) :
    KBinds K fd ps ks (gK .none np ks.length perm) (gK .non np ks.length perm) := by
  obtain ⟨h0, h1, h2, h3, h4, h5⟩ := perm_at h
  refine ⟨fun s us ws _ hl => ?_, fun {vs us zs ws} r1 r2 => ?_⟩
  · unfold gK at hl ⊢
    by_cases c : us.length = np ∧ ws.length = ks.length
    · rw [if_pos c] at hl ⊢
      obtain ⟨c1, c2⟩ := c
      subst c1
      refine bd s us ws _ ks h2 h3 h1 c2.symm hl fun i p v e1 e2 => ?_
      obtain ⟨j, e3, e4⟩ := h5 i p e1
      refine ⟨j, e4, ?_⟩
      simp only [List.getElem?_map, e3, Option.map_some, Option.some.injEq] at e2
      rw [List.getD_eq_getElem?_getD] at e2
      have hj : j < (us ++ ws).length := by
        have := (List.getElem?_eq_some_iff.mp e4).1
        simp only [List.length_append, List.length_take] at this ⊢
        omega
      rw [List.getElem?_eq_getElem hj] at e2 ⊢
      exact congrArg some e2
    · rw [if_neg c] at hl
      have : perm.length = 0 := by rw [h4]; exact hl.symm
      exact absurd (List.length_eq_zero_iff.mp this) h0
  · unfold gK
    rw [r1.length, r2.length]
    by_cases c : us.length = np ∧ ws.length = ks.length
    · rw [if_pos c, if_pos c]
      have ra := r1.append r2
      clear h h4 h5 h0
      induction perm with
      | nil => exact .nil
      | cons i is ih =>
        refine .cons ?_ ih
        show L2.RelV ((vs ++ zs).getD i .non) ((us ++ ws).getD i .none)
        rw [List.getD_eq_getElem?_getD, List.getD_eq_getElem?_getD]
        cases e : (vs ++ zs)[i]? with
        | none => rw [ra.none_of e]; exact rfl
        | some x =>
          obtain ⟨u, e1, e2⟩ := ra.get e
          rw [e1]; exact e2
    · rw [if_neg c, if_neg c]; exact .nil
/-- f(k = v, ..) -/
theorem pe_callK0 {CX : CXT} {f : Addr} {fd : FuncData} {sp : Sp} {EE : XK} {kws : List Keyword} {ks : List Str} {g : List Value → List Value → List Value} {gV : List V → List V → List V} {tk : TA} (F : FnOk X.prog X.w X.K X.mg X.base CX n f fd ps sp) (hr : Room n X.A) (hg : Gl X x) (hm : X.mg x = some (.ref f)) (hk : PySem.W.keepIn X.K (.ref f) = true) (hb : KBinds X.K fd ps ks g gV) (hx : Passes CX X EE)
    (hkw : PK X kws tk) (hall : (backToKw pos (keywordEach kws X.env)).all (·.1.isSome) = true) (hks : (backToKw pos (keywordEach kws X.env)).filterMap (·.1) = ks)
    (hdb : (x == ("__debug__" : Str)) = false)
    (hpl : ((backTo pos (starEach [] X.env)).any (·.1) || (backToKw pos (keywordEach kws X.env)).any (·.1.isNone)) = false) :
    PE X (.Call (.Name x p) [] kws pos) (fun σ H Q => tk σ H fun zs H2 => sp (gV [] zs) H2 Q EE) := by
  refine ⟨fun pins s σ H Q I h => ?_⟩
  refine wpAny_Call_Name_kw (ld_glob I hg hm ?_ hdb)
  refine PySem.W.callWith_KW0 (first := []) (h₀ := X.base) I.ok.mod.kin hk hall ?_ hpl
  refine thn (hkw.run pos pins s σ H _ I h) fun ws s2 ⟨zs, H2, I2, rz, q2⟩ => ⟨I2.kIn, ?_⟩
  rw [hks]
  exact run_fnk (us := []) (vs := []) F hr hb hx I2 .nil rz q2
theorem perm_sp {μ : Nat → Addr} {H H1 : Hp} {M M1 : Mk} {S S1 S' : Store} {rs : List R} {vs zs : List V} {as : List Addr} {r : R} {Q : VK} {EE : XK} {np : Nat} {ks : List Str} {perm : List Nat} (h : permOk ps np ks perm = true) (p : RS X.K μ H M S) (g1 : Go X.K μ S.length H M H1 M1 S1) (q1 : RRL X.K fa μ S.length H H1 M1 rs (vs ++ zs) as)
    (l1 : vs.length = np) (l2 : zs.length = ks.length) (e : (permR rs perm).bind (fun q => cf k q S1) = some (r, S')) (q : ∀ v H' M', Go X.K μ S.length H M H' M' S' → RR X.K fa μ S.length H H' M' r v → Q v H') : spF X.K fa cf k ps.length (gK .non np ks.length perm vs zs) H1 Q EE := by
  obtain ⟨h0, h1, h2, h3, h4, h5⟩ := perm_at h
  simp only [Option.bind_eq_some_iff] at e
  obtain ⟨qs, e1, e2⟩ := e
  have hq := q1.perm p.dom g1.mm H e1
  unfold gK
  rw [if_pos ⟨l1, l2⟩]
  exact sp_of p (g1.base p) hq (by rw [permR_length e1, h4]) e2 q
theorem se_callK0 {kws : List Keyword} {ks : List Str} {js : IEs} {perm : List Nat} (c : Cal X fa cf n k ps) (hr : Room n X.A) (hg : Gl X x) (hm : X.mg x = some (.ref (fa k))) (hkw : KL X fa cf kws js) (hp : permOk ps 0 ks perm = true) (hj : len js = ks.length)
    (hall : (backToKw pos (keywordEach kws X.env)).all (·.1.isSome) = true) (hks : (backToKw pos (keywordEach kws X.env)).filterMap (·.1) = ks)
    (hdb : (x == ("__debug__" : Str)) = false) (hpl : ((backTo pos (starEach [] X.env)).any (·.1) || (backToKw pos (keywordEach kws X.env)).any (·.1.isNone)) = false) :
    E X fa cf (.Call (.Name x p) [] kws pos) (.call k perm js) := by
  obtain ⟨fd, F, hb⟩ := c.ex
  have hkb := kbinds_of (K := X.K) hp hb
  obtain ⟨i0, is0, e0⟩ : ∃ i is, perm = i :: is := by
    cases perm with
    | nil => exact absurd rfl (perm_at hp).1
    | cons i is => exact ⟨i, is, rfl⟩
  refine PE.imp (pe_callK0 F hr hg hm c.kp hkb (EE := fun _ _ _ => False) pass0 hkw hall hks hdb hpl) fun σ H Q ⟨μ, M, S, σd, r, S', p, e, q⟩ => ?_
  simp only [ev, Option.bind_eq_some_iff] at e
  obtain ⟨⟨rs, S1⟩, e1, e⟩ := e
  rw [e0] at e
  simp only at e
  rw [← e0] at e
  exact ⟨μ, M, S, σd, rs, S1, p, e1, fun zs H1 M1 as g1 q1 => perm_sp (vs := []) hp p.toRS g1 q1 rfl (by rw [q1.length, evs_len _ _ _ _ _ e1, hj]) e q⟩
theorem se_callK {kws : List Keyword} {ks : List Str} {js : IEs} {perm : List Nat} (c : Cal X fa cf n k ps) (hr : Room n X.A) (hg : Gl X x) (hm : X.mg x = some (.ref (fa k))) (h : L X fa cf (a :: es) is) (hkw : KL X fa cf kws js) (hp : permOk ps (len is) ks perm = true) (hj : len js = ks.length)
    (hall : (backToKw pos (keywordEach kws X.env)).all (·.1.isSome) = true) (hks : (backToKw pos (keywordEach kws X.env)).filterMap (·.1) = ks)
    (hdb : (x == ("__debug__" : Str)) = false) (he : starEach (a :: es) X.env = (false, eval a X.env) :: starEach es X.env)
    (hpl : ((backTo pos (starEach (a :: es) X.env)).any (·.1) || (backToKw pos (keywordEach kws X.env)).any (·.1.isNone)) = false) :
    E X fa cf (.Call (.Name x p) (a :: es) kws pos) (.call k perm (app is js)) := by
  obtain ⟨fd, F, hb⟩ := c.ex
  have hkb := kbinds_of (K := X.K) hp hb
  obtain ⟨i0, is0, e0⟩ : ∃ i is, perm = i :: is := by
    cases perm with
    | nil => exact absurd rfl (perm_at hp).1
    | cons i is => exact ⟨i, is, rfl⟩
  refine PE.imp (pe_callK F hr hg hm c.kp hkb (E := fun _ _ _ => False) pass0 h hkw hall hks hdb he hpl) fun σ H Q ⟨μ, M, S, σd, r, S', p, e, q⟩ => ?_
  simp only [ev, Option.bind_eq_some_iff] at e
  obtain ⟨⟨rs, S1⟩, e1, e⟩ := e
  rw [e0] at e
  simp only at e
  rw [← e0] at e
  exact both (Q := fun vs zs H2 => spF X.K fa cf k ps.length (gK .non (len is) ks.length perm vs zs) H2 Q fun _ _ _ => False) p e1 fun vs zs H' M' as l1 l2 g rr => perm_sp hp p.toRS g rr l1 (by rw [l2, hj]) e q
end
end Ip

set_option Elab.async false
set_option linter.all false
set_option maxRecDepth 100000
set_option maxHeartbeats 1000000
/-! enumerate over a tuple. -/
namespace Ip
open PySem PySem.Spec PyProof.Rows L2
open AutoSeq1 (wpAny_loadPart')

theorem meets_enumT (l : Addr) (items : Array Value) (n : Nat) (dct : Option Addr) (sl : Array (Option Value)) :
    Meets (Builtin.«enumerate.__new__» ⟨[.type "enumerate", .ref l], []⟩) (fun _ R s => s.heap.get? l = some { cls := .type "tuple", dict := dct, data := .seq items n, slots := sl } ∧
      R (.ok (.ret (.ref (s.heap.push { cls := .type "tuple_iterator", data := .fields #[.ref l, .int 0 0] }).objs.size)))
        { s with heap := (s.heap.push { cls := .type "tuple_iterator", data := .fields #[.ref l, .int 0 0] }).push { cls := .type "enumerate", data := .fields #[.none, .bool false, .ref s.heap.objs.size, rawInt 0, .none, .none] } }) :=
  .of_wp fun prog w A R s h => by
    obtain ⟨hp, g, d, tk, os⟩ := s; obtain ⟨hl, h⟩ := h
    have hsub := sub_enumerate
    have hL : Heap.IsTuple (Shared.heap ⟨hp, g, d, tk, os⟩) l items := ⟨_, hl, rfl, n, rfl⟩
    wp_walk using wpAny_loadPart' hl
    refine wpAny_stack_any fun st => wpAny_pure ?_
    split
    · rename_i c _ _ _ _ _
      cases (c == Value.type "enumerate")
      · wp_walk using wpAny_loadPart' hl, wpAny_pyIter_tuple hL
        exact ⟨_, rfl, h⟩
      · wp_walk using wpAny_loadPart' hl, wpAny_pyIter_tuple hL
        exact ⟨_, rfl, h⟩
    · wp_walk using wpAny_loadPart' hl, wpAny_pyIter_tuple hL
      exact ⟨_, rfl, h⟩
theorem call_enumT {prog : Program} {w : World} {A : Around} {E : Value → Shared → Prop} {s : Shared} {l : Addr} {items : Array Value} {Q : Value → Shared → Prop} (hL : s.heap.IsTuple l items)
    (h : ∀ h', IsEnum h' (s.heap.objs.size + 1) s.heap.objs.size 0 .none → h'.IsTupleIter s.heap.objs.size l 0 → h'.objs.size = s.heap.objs.size + 2 →
      (∀ b o, s.heap.get? b = some o → h'.get? b = some o) → Q (.ref (s.heap.objs.size + 1)) { s with heap := h' }) :
    wpAny (model prog w) A (call (.type "enumerate") [.ref l]) Q E s := by
  obtain ⟨⟨c, dct, dt, sl⟩, hl, hc, n, hd⟩ := hL
  replace hc : c = .type "tuple" := hc
  replace hd : dt = .seq items n := hd
  subst hc hd
  refine callType_new F.called_enumerate (by decide) (F.typeCall_enumerate_1 _) (F.newCall_enumerate_1 _) (fun obj => F.args_object_init_2 obj _) F.entry_enumerate_new
    (meets_enumT l items n dct sl) ⟨hl, ?_⟩
  have hz : (s.heap.push { cls := .type "tuple_iterator", data := .fields #[.ref l, .int 0 0] }).objs.size = s.heap.objs.size + 1 := Heap.size_push ..
  show _ ∧ _
  rw [hz]
  have he : IsEnum ((s.heap.push { cls := .type "tuple_iterator", data := .fields #[.ref l, .int 0 0] }).push
      { cls := .type "enumerate", data := .fields #[.none, .bool false, .ref s.heap.objs.size, rawInt 0, .none, .none] }) (s.heap.objs.size + 1) s.heap.objs.size 0 .none := by
    have := Heap.get?_push_size (s.heap.push { cls := .type "tuple_iterator", data := .fields #[.ref l, .int 0 0] })
      (o := { cls := .type "enumerate", data := .fields #[.none, .bool false, .ref s.heap.objs.size, rawInt 0, .none, .none] }) rfl
    rw [hz] at this; exact this
  refine ⟨⟨_, he, rfl⟩, h _ he ⟨_, Heap.get?_push_of_some _ (Heap.get?_push_size _ rfl), rfl, rfl⟩ (by rw [Heap.size_push, hz]) fun b o x => Heap.get?_push_of_some _ (Heap.get?_push_of_some _ x)⟩
/-- the tuple at a, each item in a new pair -/
def IteT (K : PySem.W.Frag) (a : Addr) : L2.It :=
  ⟨fun i H => ∃ (xs : List V) (x : V), SqT K H a xs ∧ xs[i]? = some x, fun i H v H' => ∃ T x, v = .ref T ∧ H T = none ∧ H' = upd H T (.tup [.int (i : Nat), x]) ∧ ∀ xs, SqT K H a xs → xs[i]? = some x, fun i H => ∃ xs : List V, SqT K H a xs ∧ xs.length = i⟩
theorem turn_enumT {P : Program} {w : World} {K : PySem.W.Frag} {elts : List Expr} {kk : Nat} {tpos : Pos} (a e it : Addr) :
    Turn P w K (.Tuple elts kk tpos) (IteT K a) [e, it] e (fun i h => (∃ old, IsEnum h e it ((i : Nat) : Int) old) ∧ h.IsTupleIter it a i ∧ e ≠ it) where
  mem := by simp
  obj := fun i h st b hb => by
    obtain ⟨⟨old, he⟩, ⟨o, ho, hc, hd⟩, _⟩ := st
    have e' : b = e ∨ b = it := by simpa using hb
    rcases e' with z | z
    · rw [z]; exact ⟨_, he, fun v q => nomatch q⟩
    · rw [z]; exact ⟨o, ho, fun v q => by rw [hd] at q; cases q⟩
  keep := fun i h h' st k => let ⟨⟨old, he⟩, hi, hne⟩ := st; ⟨⟨old, k e (by simp) _ he⟩, hi.at fun o q => k it (by simp) o q, hne⟩
  item := by
    intro X hP hw hK hc i pins s σ H E I hf st hg
    subst hP hw hK
    obtain ⟨⟨old, he⟩, hit, hne⟩ := st
    obtain ⟨xs, x, hq, hx⟩ := hg
    obtain ⟨its, rv, p, hz⟩ := I.tuple hq
    obtain ⟨u, hu, ru⟩ := rv.get hx
    have hel : e < s.heap.objs.size := Heap.lt_size he
    have hil : it < s.heap.objs.size := by obtain ⟨_, q, _⟩ := hit; exact Heap.lt_size q
    have pt : s.heap.IsTuple a its.toArray := p
    have nai : a ≠ it := fun z => by
      obtain ⟨o1, g1, g2, _⟩ := pt
      obtain ⟨o2, g3, g4, _⟩ := hit
      rw [z, g3] at g1; cases g1; rw [g4] at g2; exact absurd (Value.type.inj g2) (by decide)
    have nae : e ≠ a := fun z => by
      obtain ⟨o1, g1, g2, _⟩ := pt
      have he' := he
      unfold IsEnum at he'
      rw [z, g1] at he'
      cases he'
      exact absurd (Value.type.inj g2) (by decide)
    have hlt : i < its.toArray.size := by
      have := (List.getElem?_eq_some_iff.mp hu).1
      simpa using this
    refine wpAny_pyNext_enum_itemD (Draws.tuple (A := X.A.in1) (prog := X.prog) (w := X.w) (I.ok.hd hc) it a nai its.toArray) he ⟨hit, pt⟩ hlt hne (by simp; exact ⟨hne, nae⟩) fun y h' tk hy ho st' hT hsz hk => ?_
    have ey : y = u := by
      have : its.toArray[i]? = some u := by simpa using hu
      rw [this] at hy; exact (Option.some.inj hy).symm
    subst ey
    refine ⟨_, rfl, wpAny_letOwnedTupleGo_enum (s := { s with heap := h', toks := tk + 1 }) ho fun h'' he' sb => ?_⟩
    have hT2 : h''.get? s.heap.objs.size = some { cls := .type "tuple", data := .seq #[.int i tk, y] } := (sb.2 _ (Nat.ne_of_gt hel)).trans hT
    have new : ObjOk X.prog X.w (upd H s.heap.objs.size (.tup [.int (i : Nat), x])) h'' s.heap.objs.size (.tup [.int (i : Nat), x]) :=
      ⟨by show 2 ≤ sizeLine; decide, [.int i tk, y], .cons ⟨_, rfl⟩ (.cons ru .nil), ⟨_, hT2, rfl, _, rfl⟩⟩
    have I1 : L2.Inv X pins σ (upd H s.heap.objs.size (.tup [.int (i : Nat), x])) { s with heap := h'', toks := tk + 1 } :=
      I.turnedNew (ch := [e, it]) (fun b ob hb q => (sb.2 b (fun z => hb (by simp [z]))).trans (hk b ob (fun z => hb (by simp [z])) (fun z => hb (by simp [z])) q)) hf (Nat.le_refl _) new
    refine ⟨.ref s.heap.objs.size, _, I1, rfl, ⟨_, x, rfl, I.hok.fresh (Nat.le_refl _), rfl, fun ys hy => by rw [I.tuple_inj hy hq]; exact hx⟩, ⟨⟨y, ?_⟩, st'.1.at fun o q => (sb.2 it (Ne.symm hne)).trans q, hne⟩, fun b hb => ?_⟩
    · have e1 : ((i + 1 : Nat) : Int) = (i : Int) + 1 := by omega
      rw [e1]; exact he'
    · have hb' : b < s.heap.objs.size := by
        have e' : b = e ∨ b = it := by simpa using hb
        rcases e' with z | z
        · rw [z]; exact hel
        · rw [z]; exact hil
      rw [upd_ne (Nat.ne_of_lt hb')]
      exact (hf b hb).1
  done := by
    intro X hP hw hK hc i pins s σ H E I hf st hg
    subst hP hw hK
    obtain ⟨⟨old, he⟩, hit, hne⟩ := st
    obtain ⟨xs, hq, hx⟩ := hg
    obtain ⟨its, rv, p, hz⟩ := I.tuple hq
    obtain ⟨f0, f1, f2, f3, f4, f5⟩ := hf it (by simp)
    have pt : s.heap.IsTuple a its.toArray := p
    have nai : a ≠ it := fun z => by
      obtain ⟨o1, g1, g2, _⟩ := pt
      obtain ⟨o2, g3, g4, _⟩ := hit
      rw [z, g3] at g1; cases g1; rw [g4] at g2; exact absurd (Value.type.inj g2) (by decide)
    have hn : its.toArray.size = i := by rw [List.size_toArray, ← rv.length]; exact hx
    subst hn
    exact wpAny_pyNext_enum_endD (Draws.tuple (A := X.A.in1) (prog := X.prog) (w := X.w) (I.ok.hd hc) it a nai its.toArray) he ⟨hit, pt⟩ fun h' eb => ⟨rfl, I.turned (t' := s.toks) (fun b o hb q => eb b o hb q) f0 f1 f3 f4 f5⟩
  self := fun A i s Q E st h => let ⟨⟨_, he⟩, _⟩ := st; wpAny_pyIter_enum he h
def iEnumT (K : PySem.W.Frag) (ta : TA) : TI := fun σ H R => ta σ H fun vs H1 => ∃ a xs, vs = [.ref a] ∧ SqT K H1 a xs ∧ R (IteT K a) H1
theorem pi_enumT {X : Cx} {e : Expr} {ta : TA} {p pos tpos : Pos} {elts : List Expr} {kk : Nat} (hg : Gl X "enumerate") (hm : X.mg "enumerate" = none) (ha : PA X [e] ta) (hs : starEach [e] X.env = [(false, eval e X.env)]) :
    PI X (.Tuple elts kk tpos) (.Call (.Name "enumerate" p) [e] [] pos) (iEnumT X.K ta) := by
  refine ⟨fun pins s σ H R I h => ?_⟩
  refine Call_ (ld_blt I hg hm boot_enumerate (PyProof.Rows.callWith_type1 (thn (ha.run pos pins s σ H _ I h) fun us s1 ⟨vs, H1, I1, r1, q1⟩ => ?_) hs rfl))
  obtain ⟨a, xs, ex, hq, q⟩ := q1
  subst ex
  cases r1 with
  | cons r rr =>
    cases rr
    cases r
    obtain ⟨its, rv, p', hz⟩ := I1.tuple hq
    refine call_enumT (show s1.heap.IsTuple a its.toArray from p') fun h' he hit hsz hk => wpAny_pyIter_enum he ?_
    have I2 : L2.Inv X pins σ H1 { s1 with heap := h' } := I1.kept (t' := s1.toks) hk
    refine ⟨s1.heap.objs.size + 1, [s1.heap.objs.size + 1, s1.heap.objs.size], _, _, H1, rfl, I2, turn_enumT a (s1.heap.objs.size + 1) s1.heap.objs.size, ⟨⟨.none, he⟩, hit, Nat.succ_ne_self _⟩, fun b hb => ?_, q⟩
    have e' : b = s1.heap.objs.size + 1 ∨ b = s1.heap.objs.size := by simpa using hb
    have hle : s1.heap.objs.size ≤ b := by
      rcases e' with z | z
      · rw [z]; exact Nat.le_add_right _ _
      · rw [z]; exact Nat.le_refl _
    exact I1.fpOk hle (I1.hok.fresh hle)
end Ip

set_option Elab.async false
set_option linter.all false
set_option maxRecDepth 100000
set_option maxHeartbeats 1000000
/-! What is walked. -/
namespace Ip
open PySem PySem.Spec PyProof.Rows L2

/-- what stood stays -/
structure Kp (H : Hp) (M : Mk) (H' : Hp) (M' : Mk) : Prop where
  kp : ∀ b o, H b = some o → ¬ M b → H' b = some o
  old : ∀ b o, H b = some o → M' b → M b
section
variable {K : PySem.W.Frag} {fa μ μ' : Nat → Addr} {n : Nat} {H H1 H2 H3 H' : Hp} {M M1 M2 M3 M' : Mk} {S S1 S2 S' : Store} {σd : Ev} {σ : L2.St} {r : R} {v : V}
theorem Kp.refl : Kp H M H M := ⟨fun _ _ e _ => e, fun _ _ _ z => z⟩
theorem Kp.trans (a : Kp H1 M1 H2 M2) (b : Kp H2 M2 H3 M3) : Kp H1 M1 H3 M3 :=
  ⟨fun x o e n => b.kp x o (a.kp x o e n) fun z => n (a.old x o e z), fun x o e z => by
    by_cases m : M1 x
    · exact m
    · exact absurd (a.old x o e (b.old x o (a.kp x o e m) z)) m⟩
theorem Kp.pu (a : Kp H M H' M') {x : D} (q : Pu K H M v x) : Pu K H' M' v x := q.mono a.kp a.old
theorem Kp.pua (a : Kp H M H' M') {vs : List V} {x : List D} (q : PuA K H M vs x) : PuA K H' M' vs x := q.mono a.kp a.old
theorem Kp.sc (a : Kp H M H' M') {p : Addr} {ns : List Int} (q : Sc K H M p ns) : Sc K H' M' p ns := q.mono a.kp a.old
theorem Kp.sv (a : Kp H M H' M') {p : Addr} {x : D} (q : Sv K H M p x) : Sv K H' M' p x := q.mono a.kp a.old
theorem Go.kpt (g : Go K μ S.length H M H' M' S') (p : RS K μ H M S) : Kp H M H' M' := ⟨g.keep p, g.old⟩
theorem Kp.ext (x : Ext H H') : Kp H M H' M := ⟨fun b o e _ => x b o e, fun _ _ _ z => z⟩

/-- what the walk J offers at a state -/
structure WalkAt (K : PySem.W.Frag) (J : L2.It) (xs : List D) (H : Hp) (M : Mk) : Prop where
  go : ∀ i d, xs[i]? = some d → J.go i H ∧ ∀ x H', J.yld i H x H' → Ext H H' ∧ Pu K H' M x d
  stop : J.stop xs.length H
def Walk (K : PySem.W.Frag) (J : L2.It) (xs : List D) (k : Option (Nat × List D)) (μ : Nat → Addr) (H : Hp) (M : Mk) : Prop :=
  ∀ μ2 H2 M2 S2, Kp H M H2 M2 → RS K μ2 H2 M2 S2 → (∀ n l, k = some (n, l) → μ2 n = μ n) → still k S2 → WalkAt K J xs H2 M2
theorem walk_l {a : Addr} {vs : List V} {xs : List D} (hs : SqL K H a vs) (pa : PuA K H M vs xs) : WalkAt K (Itl K a) xs H M := by
  refine ⟨fun i d e => ?_, ⟨vs, hs, by rw [pa.length]; exact Nat.le_refl _⟩⟩
  obtain ⟨v, h1, h2⟩ := pa.get e
  refine ⟨⟨vs, v, hs, h1⟩, fun x H' y => ?_⟩
  obtain ⟨rfl, y⟩ := y
  have := y vs hs
  rw [h1] at this; cases this
  exact ⟨.refl, h2⟩
theorem walk_t {a : Addr} {vs : List V} {xs : List D} (hs : SqT K H a vs) (pa : PuA K H M vs xs) : WalkAt K (Itt K a) xs H M := by
  refine ⟨fun i d e => ?_, ⟨vs, hs, by rw [pa.length]; exact Nat.le_refl _⟩⟩
  obtain ⟨v, h1, h2⟩ := pa.get e
  refine ⟨⟨vs, v, hs, h1⟩, fun x H' y => ?_⟩
  obtain ⟨rfl, y⟩ := y
  have := y vs hs
  rw [h1] at this; cases this
  exact ⟨.refl, h2⟩
theorem walk_r {lo hi : Int} : WalkAt K (Itr lo (hi - lo).toNat) (rngD lo hi) H M := by
  refine ⟨fun i d e => ?_, ?_⟩
  · simp only [rngD, List.getElem?_map, Option.map_eq_some_iff, List.getElem?_range'] at e
    obtain ⟨j, e1, rfl⟩ := e
    obtain ⟨h1, h2⟩ := List.getElem?_eq_some_iff.mp e1
    simp only [List.length_range] at h1
    simp only [List.getElem_range] at h2
    subst h2
    refine ⟨h1, fun x H' y => ?_⟩
    obtain ⟨rfl, rfl⟩ := y
    exact ⟨.refl, .int _⟩
  · show _ ≤ _
    simp [rngD]
theorem enumD_get : ∀ {xs : List D} {k i : Nat} {d : D}, (enumD k xs)[i]? = some d → ∃ x, xs[i]? = some x ∧ d = .tuple [.int ((k + i : Nat) : Int), x]
  | [], k, i, d, e => by simp [enumD] at e
  | x :: r, k, 0, d, e => by simp [enumD] at e; exact ⟨x, rfl, e.symm⟩
  | x :: r, k, i + 1, d, e => by
    simp only [enumD, List.getElem?_cons_succ] at e
    obtain ⟨y, h1, h2⟩ := enumD_get e
    exact ⟨y, by simpa using h1, by rw [h2, Nat.add_assoc, Nat.add_comm 1 i]⟩
theorem enumD_len : ∀ {xs : List D} {k : Nat}, (enumD k xs).length = xs.length
  | [], k => rfl
  | x :: r, k => by simp [enumD, enumD_len]
theorem zipD_get : ∀ {xs ys : List D} {i : Nat} {d : D}, (zipD xs ys)[i]? = some d → ∃ x y, xs[i]? = some x ∧ ys[i]? = some y ∧ d = .tuple [x, y]
  | [], _, i, d, e => by simp [zipD] at e
  | _ :: _, [], i, d, e => by simp [zipD] at e
  | x :: r, y :: t, 0, d, e => by simp [zipD] at e; exact ⟨x, y, rfl, rfl, e.symm⟩
  | x :: r, y :: t, i + 1, d, e => by
    simp only [zipD, List.getElem?_cons_succ] at e
    obtain ⟨x', y', h1, h2, h3⟩ := zipD_get e
    exact ⟨x', y', by simpa using h1, by simpa using h2, h3⟩
theorem zipD_len : ∀ {xs ys : List D}, xs.length ≤ (zipD xs ys).length ∨ ys.length ≤ (zipD xs ys).length
  | [], _ => .inl (by simp)
  | _ :: _, [] => .inr (by simp)
  | x :: r, y :: t => by
    rcases zipD_len (xs := r) (ys := t) with h | h
    · exact .inl (by simp [zipD]; omega)
    · exact .inr (by simp [zipD]; omega)
theorem new_pair {T : Addr} {x y : V} {a b : D} (dm : Dom H M) (hT : H T = none) (px : Pu K H M x a) (py : Pu K H M y b) : Pu K (upd H T (.tup [x, y])) M (.ref T) (.tuple [a, b]) :=
  .tup upd_same (fun z => (dm T z).1 hT) (PuA.ext (.upd hT) (.cons px (.cons py .nil)))
theorem walk_e {a : Addr} {vs : List V} {xs : List D} (dm : Dom H M) (hs : SqL K H a vs) (pa : PuA K H M vs xs) : WalkAt K (Ite K a) (enumD 0 xs) H M := by
  refine ⟨fun i d e => ?_, ⟨vs, hs, by rw [pa.length, enumD_len]; exact Nat.le_refl _⟩⟩
  obtain ⟨x0, e1, rfl⟩ := enumD_get e
  obtain ⟨v, h1, h2⟩ := pa.get e1
  refine ⟨⟨vs, v, hs, h1⟩, fun x H' y => ?_⟩
  obtain ⟨T, w, rfl, hT, rfl, y⟩ := y
  have := y vs hs
  rw [h1] at this; cases this
  rw [Nat.zero_add]
  exact ⟨.upd hT, new_pair dm hT (.int _) h2⟩
theorem walk_eT {a : Addr} {vs : List V} {xs : List D} (dm : Dom H M) (hs : SqT K H a vs) (pa : PuA K H M vs xs) : WalkAt K (IteT K a) (enumD 0 xs) H M := by
  refine ⟨fun i d e => ?_, ⟨vs, hs, by rw [pa.length, enumD_len]⟩⟩
  obtain ⟨x0, e1, rfl⟩ := enumD_get e
  obtain ⟨v, h1, h2⟩ := pa.get e1
  refine ⟨⟨vs, v, hs, h1⟩, fun x H' y => ?_⟩
  obtain ⟨T, w, rfl, hT, rfl, y⟩ := y
  have := y vs hs
  rw [h1] at this; cases this
  rw [Nat.zero_add]
  exact ⟨.upd hT, new_pair dm hT (.int _) h2⟩
theorem walk_z {a b : Addr} {vs ws : List V} {xs ys : List D} (dm : Dom H M) (hs : SqL K H a vs) (ht : SqL K H b ws) (pa : PuA K H M vs xs) (pb : PuA K H M ws ys) : WalkAt K (Itz K a b) (zipD xs ys) H M := by
  refine ⟨fun i d e => ?_, ⟨vs, ws, hs, ht, by rw [pa.length, pb.length]; exact zipD_len⟩⟩
  obtain ⟨x0, y0, e1, e2, rfl⟩ := zipD_get e
  obtain ⟨v, h1, h2⟩ := pa.get e1
  obtain ⟨w, h3, h4⟩ := pb.get e2
  refine ⟨⟨vs, ws, v, w, hs, ht, h1, h3⟩, fun x H' y => ?_⟩
  obtain ⟨T, x', y', rfl, hT, rfl, y1, y2⟩ := y
  have := y1 vs hs
  rw [h1] at this; cases this
  have := y2 ws ht
  rw [h3] at this; cases this
  exact ⟨.upd hT, new_pair dm hT h2 h4⟩
theorem walk_zT {a b : Addr} {vs ws : List V} {xs ys : List D} (dm : Dom H M) (hs : SqT K H a vs) (ht : SqT K H b ws) (pa : PuA K H M vs xs) (pb : PuA K H M ws ys) : WalkAt K (RZ.ItzT K a b) (zipD xs ys) H M := by
  refine ⟨fun i d e => ?_, ⟨vs, ws, hs, ht, by rw [pa.length, pb.length]; exact zipD_len⟩⟩
  obtain ⟨x0, y0, e1, e2, rfl⟩ := zipD_get e
  obtain ⟨v, h1, h2⟩ := pa.get e1
  obtain ⟨w, h3, h4⟩ := pb.get e2
  refine ⟨⟨vs, ws, v, w, hs, ht, h1, h3⟩, fun x H' y => ?_⟩
  obtain ⟨T, x', y', rfl, hT, rfl, y1, y2⟩ := y
  have := y1 vs hs
  rw [h1] at this; cases this
  have := y2 ws ht
  rw [h3] at this; cases this
  exact ⟨.upd hT, new_pair dm hT h2 h4⟩
/-- the container that is walked: a tuple, a list -/
theorem src {x : R} {xs : List D} {k : Option (Nat × List D)} (p : RS K μ H M S) (g : Go K μ S.length H M H1 M1 S1) (q : RR K fa μ S.length H H1 M1 x v) (e : iterOf S1 x = some (xs, k)) :
    ((∃ a vs, v = .ref a ∧ SqT K H1 a vs ∧ (x = .d (.tuple xs) ∨ x = .s0 (.tuple xs))) ∧ ∀ H2 M2, Kp H1 M H2 M2 → ∃ a vs, v = .ref a ∧ SqT K H2 a vs ∧ PuA K H2 M2 vs xs) ∨
    ((∃ a vs, v = .ref a ∧ SqL K H1 a vs ∧ x ≠ .d (.tuple xs) ∧ x ≠ .s0 (.tuple xs)) ∧ ∀ μ2 H2 M2 S2, Kp H1 M H2 M2 → RS K μ2 H2 M2 S2 → (∀ n l, k = some (n, l) → μ2 n = μ n) → still k S2 → ∃ a vs, v = .ref a ∧ SqL K H2 a vs ∧ PuA K H2 M2 vs xs) := by
  have fin : ∀ u, pureR x = some u → Pu K H1 M v u := fun u hu => q.pure p.dom g.mm hu
  unfold iterOf at e
  split at e
  · cases e
    have h := fin _ rfl
    refine .inr ⟨?_, fun μ2 H2 M2 S2 kp _ _ _ => (kp.pu h).va.list⟩
    obtain ⟨a, vs, e, h, _⟩ := h.va.list
    exact ⟨a, vs, e, h, (fun z => by cases z), fun z => by cases z⟩
  · cases e
    have h := fin _ rfl
    refine .inr ⟨?_, fun μ2 H2 M2 S2 kp _ _ _ => (kp.pu h).va.list⟩
    obtain ⟨a, vs, e, h, _⟩ := h.va.list
    exact ⟨a, vs, e, h, (fun z => by cases z), fun z => by cases z⟩
  · cases e
    have h := fin _ rfl
    refine .inl ⟨?_, fun H2 M2 kp => (kp.pu h).tuple⟩
    obtain ⟨a, vs, e, h, _⟩ := h.tuple
    exact ⟨a, vs, e, h, .inl rfl⟩
  · cases e
    obtain ⟨a, rfl, ns, rfl, h⟩ := q
    refine .inr ⟨⟨a, _, rfl, h.sq, (fun z => by cases z), fun z => by cases z⟩, fun μ2 H2 M2 S2 kp _ _ _ => ⟨a, _, rfl, (kp.sc (h.mono (fun _ _ e _ => e) fun b _ _ z => g.mm b z)).sq, PuA.ints _⟩⟩
  · cases e
    obtain ⟨a, rfl, h⟩ := q
    obtain ⟨n, o, vs, h2, h3, h4⟩ := h
    refine .inl ⟨⟨a, vs, rfl, .inl (.inr ⟨o, h2⟩), .inr rfl⟩, fun H2 M2 kp => ?_⟩
    obtain ⟨n', o', vs', k2, k3, k4⟩ := kp.sv (x := .tuple _) (Sv.mono (x := .tuple _) (fun _ _ e _ => e) (fun b _ _ z => g.mm b z) ⟨n, o, vs, h2, h3, h4⟩)
    exact ⟨a, vs', rfl, .inl (.inr ⟨o', k2⟩), k4⟩
  · split at e
    · rename_i e0
      cases e
      obtain ⟨_, rfl⟩ := q
      obtain ⟨vs, hv, _⟩ := (g.st _ _ e0).2.list
      refine .inr ⟨⟨_, vs, rfl, .of hv, (fun z => by cases z), fun z => by cases z⟩, fun μ2 H2 M2 S2 kp p2 hm st => ?_⟩
      obtain ⟨ws, hw, pw⟩ := (p2.st _ _ st).2.list
      rw [hm _ _ rfl] at hw
      exact ⟨_, ws, rfl, .of hw, pw⟩
    · cases e
  · cases e
end
section
variable (K : PySem.W.Frag) (fa : Nat → Addr) (cf : Cf)
def tI (i : It) : TI := fun σ H Z => ∃ μ M S σd xs k S', Rp K fa μ H M S σd σ ∧ evi cf i σd S = some (xs, k, S') ∧ ∀ J H' M', Go K μ S.length H M H' M' S' → Walk K J xs k μ H' M' → Z J H'
end
section
variable {X : Cx} {fa : Nat → Addr} {cf : Cf} {tg a b : Expr} {ia ib : IE} {pos p0 : Pos}
abbrev I (X : Cx) (fa : Nat → Addr) (cf : Cf) (tg e : Expr) (i : It) : Prop := PI X tg e (tI X.K fa cf i)
theorem si_ex (ha : E X fa cf a ia) : I X fa cf tg a (.ex ia) := by
  refine ⟨fun pins s σ H Z I0 ⟨μ, M, S, σd, xs, k, S', p, e, q⟩ => ?_⟩
  simp only [evi, Option.bind_eq_some_iff] at e
  obtain ⟨⟨x, S1⟩, e1, ⟨xs', k'⟩, e2, e⟩ := e
  cases e
  by_cases ht : x = .d (.tuple xs') ∨ x = .s0 (.tuple xs')
  · refine (pi_tup ha).run pins s σ H Z I0 ⟨μ, M, S, σd, x, S1, p, e1, fun v H1 M1 g1 q1 => ?_⟩
    rcases src p.toRS g1 q1 e2 with ⟨⟨a, vs, rfl, hs, _⟩, w⟩ | ⟨⟨_, _, _, _, c⟩, _⟩
    · refine ⟨a, rfl, ⟨vs, hs⟩, q _ H1 M (g1.base p.toRS) fun μ2 H2 M2 S2 kp p2 _ _ => ?_⟩
      obtain ⟨a', vs', e, h1, h2⟩ := w H2 M2 kp
      cases e
      exact walk_t h1 h2
    · exact ht.elim (fun z => absurd z c.1) fun z => absurd z c.2
  · refine (pi_list ha).run pins s σ H Z I0 ⟨μ, M, S, σd, x, S1, p, e1, fun v H1 M1 g1 q1 => ?_⟩
    rcases src p.toRS g1 q1 e2 with ⟨⟨_, _, _, _, c⟩, _⟩ | ⟨⟨a, vs, rfl, hs, _⟩, w⟩
    · exact absurd c ht
    · refine ⟨a, rfl, ⟨vs, hs⟩, q _ H1 M (g1.base p.toRS) fun μ2 H2 M2 S2 kp p2 hm st => ?_⟩
      obtain ⟨a', vs', e, h1, h2⟩ := w μ2 H2 M2 S2 kp p2 hm st
      cases e
      exact walk_l h1 h2
theorem rr_int {K : PySem.W.Frag} {μ : Nat → Addr} {n : Nat} {H H' : Hp} {M' : Mk} {v : V} {j : Int} (q : RR K fa μ n H H' M' (.d (.int j)) v) : v = .int j := by
  cases (show Pu K H' M' v (.int j) from q); rfl
theorem inR_of {i : Int} (h : inR i = true) : -(2 ^ 62) ≤ i ∧ i < 2 ^ 62 := by
  have h := of_decide_eq_true h
  omega
theorem si_rng1 (hg : Gl X "range") (hm : X.mg "range" = none) (ha : L X fa cf [a] (.cons ia .nil)) (hs : starEach [a] X.env = [(false, eval a X.env)]) : I X fa cf tg (.Call (.Name "range" p0) [a] [] pos) (.rng (.cons ia .nil)) := by
  refine ⟨fun pins s σ H Z I0 ⟨μ, M, S, σd, xs, k, S', p, e, q⟩ => ?_⟩
  simp only [evi, Option.bind_eq_some_iff] at e
  obtain ⟨⟨rs, S1⟩, e1, e⟩ := e
  split at e
  · rename_i j hj
    split at e
    · rename_i hr
      have hj : rs = [Ip.R.d (.int j)] := hj
      subst hj
      cases e
      refine (pi_range1 hg hm ha hs).run pins s σ H Z I0 ⟨μ, M, S, σd, _, S1, p, e1, fun vs H1 M1 as g1 q1 => ?_⟩
      cases q1 with
      | o _ q2 q3 =>
        cases q3
        obtain ⟨h1, h2⟩ := inR_of hr
        refine ⟨j, by rw [rr_int q2], h1, h2, q _ H1 M1 g1 fun μ2 H2 M2 S2 kp p2 hm st => ?_⟩
        have := walk_r (K := X.K) (H := H2) (M := M2) (lo := 0) (hi := j)
        rw [Int.sub_zero] at this
        exact this
    · cases e
  · rename_i i j hj
    have hj : rs = [Ip.R.d (.int i), Ip.R.d (.int j)] := hj
    have := evs_len _ _ _ _ _ e1
    rw [hj] at this
    simp [len] at this
  · cases e
theorem si_rng2 (hg : Gl X "range") (hm : X.mg "range" = none) (ha : L X fa cf [a, b] (.cons ia (.cons ib .nil))) (hs : starEach [a, b] X.env = [(false, eval a X.env), (false, eval b X.env)]) (hs2 : starEach [b] X.env = [(false, eval b X.env)]) :
    I X fa cf tg (.Call (.Name "range" p0) [a, b] [] pos) (.rng (.cons ia (.cons ib .nil))) := by
  refine ⟨fun pins s σ H Z I0 ⟨μ, M, S, σd, xs, k, S', p, e, q⟩ => ?_⟩
  simp only [evi, Option.bind_eq_some_iff] at e
  obtain ⟨⟨rs, S1⟩, e1, e⟩ := e
  split at e
  · rename_i j hj
    have hj : rs = [Ip.R.d (.int j)] := hj
    have := evs_len _ _ _ _ _ e1
    rw [hj] at this
    simp [len] at this
  · rename_i i j hj
    split at e
    · rename_i hr
      have hj : rs = [Ip.R.d (.int i), Ip.R.d (.int j)] := hj
      subst hj
      cases e
      rw [Bool.and_eq_true] at hr
      refine (pi_range2 hg hm ha hs hs2).run pins s σ H Z I0 ⟨μ, M, S, σd, _, S1, p, e1, fun vs H1 M1 as g1 q1 => ?_⟩
      cases q1 with
      | o _ q2 q3 =>
        cases q3 with
        | o _ q4 q5 =>
          cases q5
          obtain ⟨h1, h2⟩ := inR_of hr.1
          obtain ⟨h3, h4⟩ := inR_of hr.2
          exact ⟨i, j, by rw [rr_int q2, rr_int q4], ⟨h1, h2, h3, h4⟩, q _ H1 M1 g1 fun μ2 H2 M2 S2 kp p2 hm st => walk_r⟩
    · cases e
  · cases e
theorem evs_one {σ : Ev} {S S1 : Store} {x : R} (e : ev cf ia σ S = some (x, S1)) : evs cf (.cons ia .nil) σ S = some ([x], S1) := by
  simp only [evs, e, Option.bind_some]
theorem one_rr {K : PySem.W.Frag} {μ : Nat → Addr} {n : Nat} {H H' : Hp} {M' : Mk} {x : R} {vs : List V} {as : List Addr} (q : RRL K fa μ n H H' M' [x] vs as) : ∃ v, vs = [v] ∧ RR K fa μ n H H' M' x v := by
  obtain ⟨v, h1, h2⟩ := q.nf 0 x rfl
  have l := q.length
  match vs, l, h1 with
  | [w], _, h1 => simp at h1; subst h1; exact ⟨_, rfl, h2⟩
theorem si_enum {elts : List Expr} {kk : Nat} {tpos : Pos} (hg : Gl X "enumerate") (hm : X.mg "enumerate" = none) (ha : L X fa cf [a] (.cons ia .nil)) (hs : starEach [a] X.env = [(false, eval a X.env)]) : I X fa cf (.Tuple elts kk tpos) (.Call (.Name "enumerate" p0) [a] [] pos) (.enum ia) := by
  refine ⟨fun pins s σ H Z I0 ⟨μ, M, S, σd, xs, k, S', p, e, q⟩ => ?_⟩
  simp only [evi, Option.bind_eq_some_iff] at e
  obtain ⟨⟨x, S1⟩, e1, ⟨xs', k'⟩, e2, e⟩ := e
  cases e
  by_cases ht : x = .d (.tuple xs') ∨ x = .s0 (.tuple xs')
  · refine (pi_enumT hg hm ha hs).run pins s σ H Z I0 ⟨μ, M, S, σd, [x], S1, p, evs_one e1, fun vs H1 M1 as g1 q1 => ?_⟩
    obtain ⟨v, rfl, q2⟩ := one_rr q1
    rcases src p.toRS g1 q2 e2 with ⟨⟨a, vs, rfl, hs, _⟩, w⟩ | ⟨⟨_, _, _, _, c⟩, _⟩
    · refine ⟨a, vs, rfl, hs, q _ H1 M (g1.base p.toRS) fun μ2 H2 M2 S2 kp p2 _ _ => ?_⟩
      obtain ⟨a', vs', e, h1, h2⟩ := w H2 M2 kp
      cases e
      exact walk_eT p2.dom h1 h2
    · exact ht.elim (fun z => absurd z c.1) fun z => absurd z c.2
  · refine (pi_enum hg hm ha hs).run pins s σ H Z I0 ⟨μ, M, S, σd, [x], S1, p, evs_one e1, fun vs H1 M1 as g1 q1 => ?_⟩
    obtain ⟨v, rfl, q2⟩ := one_rr q1
    rcases src p.toRS g1 q2 e2 with ⟨⟨_, _, _, _, c⟩, _⟩ | ⟨⟨a, vs, rfl, hs, _⟩, w⟩
    · exact absurd c ht
    · refine ⟨a, vs, rfl, hs, q _ H1 M (g1.base p.toRS) fun μ2 H2 M2 S2 kp p2 hm st => ?_⟩
      obtain ⟨a', vs', e, h1, h2⟩ := w μ2 H2 M2 S2 kp p2 hm st
      cases e
      exact walk_e p2.dom h1 h2
theorem two_rr {K : PySem.W.Frag} {μ : Nat → Addr} {n : Nat} {H H' : Hp} {M' : Mk} {x y : R} {vs : List V} {as : List Addr} (q : RRL K fa μ n H H' M' [x, y] vs as) : ∃ v w, vs = [v, w] ∧ RR K fa μ n H H' M' x v ∧ RR K fa μ n H H' M' y w := by
  obtain ⟨v, h1, h2⟩ := q.nf 0 x rfl
  obtain ⟨w, h3, h4⟩ := q.nf 1 y rfl
  have l := q.length
  match vs, l, h1, h3 with
  | [v', w'], _, h1, h3 => simp at h1 h3; subst h1; subst h3; exact ⟨_, _, rfl, h2, h4⟩
theorem si_zip {elts : List Expr} {kk : Nat} {tpos : Pos} (hg : Gl X "zip") (hm : X.mg "zip" = none) (ha : L X fa cf [a, b] (.cons ia (.cons ib .nil))) (hs : starEach [a, b] X.env = (false, eval a X.env) :: starEach [b] X.env) (hpl : (backTo pos (starEach [b] X.env)).any (·.1) = false) :
    I X fa cf (.Tuple elts kk tpos) (.Call (.Name "zip" p0) [a, b] [] pos) (.zip ia ib) := by
  refine ⟨fun pins s σ H Z I0 ⟨μ, M, S, σd, xs, k, S', p, e, q⟩ => ?_⟩
  simp only [evi, Option.bind_eq_some_iff] at e
  obtain ⟨⟨x, S1⟩, e1, ⟨y, S2⟩, e2, e⟩ := e
  have e3 : evs cf (.cons ia (.cons ib .nil)) σd S = some ([x, y], S2) := by simp only [evs, e1, e2, Option.bind_some]
  refine (RZ.pi_zipA hg hm ha hs hpl).run pins s σ H Z I0 ⟨μ, M, S, σd, [x, y], S2, p, e3, fun vs H1 M1 as g1 q1 => ?_⟩
  obtain ⟨v, w, rfl, q1', q2⟩ := two_rr q1
  dsimp only at e
  clear q1 e1 e2 e3
  split at e
  · rename_i xs ys hx hy
    cases e
    have p1 := q1'.pure p.dom g1.mm hx
    have p2 := q2.pure p.dom g1.mm hy
    obtain ⟨a1, vs1, rfl, h1, _⟩ := p1.tuple
    obtain ⟨a2, vs2, rfl, h2, _⟩ := p2.tuple
    refine ⟨a1, a2, vs1, vs2, rfl, .inr ⟨h1, h2, q _ H1 M (g1.base p.toRS) fun μ2 H2 M2 S2 kp q2 hm st => ?_⟩⟩
    obtain ⟨b1, ws1, e1, k1, k2⟩ := (kp.pu p1).tuple
    obtain ⟨b2, ws2, e2, k3, k4⟩ := (kp.pu p2).tuple
    cases e1; cases e2
    exact walk_zT q2.dom k1 k3 k2 k4
  · rename_i xs ys hx hy
    cases e
    have p1 := q1'.pure p.dom g1.mm hx
    have p2 := q2.pure p.dom g1.mm hy
    obtain ⟨a1, vs1, rfl, h1, _⟩ := p1.va.list
    obtain ⟨a2, vs2, rfl, h2, _⟩ := p2.va.list
    refine ⟨a1, a2, vs1, vs2, rfl, .inl ⟨h1, h2, q _ H1 M (g1.base p.toRS) fun μ2 H2 M2 S2 kp q2 hm st => ?_⟩⟩
    obtain ⟨b1, ws1, e1, k1, k2⟩ := (kp.pu p1).va.list
    obtain ⟨b2, ws2, e2, k3, k4⟩ := (kp.pu p2).va.list
    cases e1; cases e2
    exact walk_z q2.dom k1 k3 k2 k4
  · cases e
end
end Ip

set_option Elab.async false
set_option linter.all false
set_option maxRecDepth 100000
set_option maxHeartbeats 1000000
/-! Targets, comprehensions. -/
namespace Ip
open PySem PySem.Spec PyProof.Rows L2

structure Sl (K : PySem.W.Frag) (fa : Nat → Addr) (μ : Nat → Addr) (n : Nat) (H : Hp) (M : Mk) (σd : Ev) (σ : L2.St) : Prop where
  ln : σd.length = σ.length
  sl : ∀ (i : Nat) (r : Ip.R), σd[i]? = some (some r) → ∃ v, σ[i]? = some (some v) ∧ RV K fa μ n H M r v
section
variable {K : PySem.W.Frag} {fa μ : Nat → Addr} {n : Nat} {H H1 H2 H' : Hp} {M M1 M2 M' : Mk} {S S1 S2 S' : Store} {σd : Ev} {σ : L2.St} {r : Ip.R} {v : V} {d : D}
theorem Rp.toSl (p : Rp K fa μ H M S σd σ) : Sl K fa μ S.length H M σd σ := ⟨p.ln, p.sl⟩
theorem Sl.rp (s : Sl K fa μ S.length H M σd σ) (p : RS K μ H M S) : Rp K fa μ H M S σd σ := ⟨p, s.ln, s.sl⟩
theorem Sl.set (s : Sl K fa μ n H M σd σ) (p : Pu K H M v d) (i : Nat) : Sl K fa μ n H M (σd.set i (some (.d d))) (σ.set i (some v)) := by
  refine ⟨by simp [s.ln], fun j r e => ?_⟩
  by_cases h : i = j
  · subst h
    by_cases hl : i < σd.length
    · rw [List.getElem?_set_self hl] at e
      cases e
      exact ⟨v, List.getElem?_set_self (by rw [← s.ln]; exact hl), p⟩
    · rw [List.getElem?_eq_none (by simpa using hl)] at e; cases e
  · rw [List.getElem?_set_ne h] at e ⊢
    exact s.sl j r e
theorem wipe_ln (σ : Ev) : ∀ vs : List Nat, (Ip.wipe σ vs).length = σ.length
  | [] => rfl
  | v :: vs => by unfold Ip.wipe; rw [List.length_set, wipe_ln σ vs]
theorem wipe_in {σ : Ev} {i : Nat} {x : Ip.R} : ∀ {vs : List Nat}, (Ip.wipe σ vs)[i]? = some (some x) → σ[i]? = some (some x) ∧ i ∉ vs
  | [], h => ⟨h, by simp⟩
  | v :: vs, h => by
    unfold Ip.wipe at h
    by_cases hi : v = i
    · subst hi
      by_cases hv : v < (Ip.wipe σ vs).length
      · rw [List.getElem?_set_self hv] at h; cases h
      · rw [List.getElem?_eq_none (by simpa using hv)] at h; cases h
    · rw [List.getElem?_set_ne hi] at h
      obtain ⟨h1, h2⟩ := wipe_in h
      exact ⟨h1, by simp only [List.mem_cons, not_or]; exact ⟨fun e => hi e.symm, h2⟩⟩
theorem Sl.wipe (s : Sl K fa μ n H M σd σ) (vs : List Nat) : Sl K fa μ n H M (Ip.wipe σd vs) (L2.wipe σ vs) := by
  refine ⟨by rw [wipe_ln, wipe_length, s.ln], fun i r e => ?_⟩
  obtain ⟨h1, h2⟩ := wipe_in e
  rw [wipe_out h2]
  exact s.sl i r h1
/-- wiped, two that differ there alone are one -/
theorem wipe_none {σ : L2.St} {i : Nat} : ∀ {vs : List Nat}, i ∈ vs → i < σ.length → (L2.wipe σ vs)[i]? = some none
  | [], h, _ => by cases h
  | v :: vs, h, hl => by
    unfold L2.wipe
    by_cases e : v = i
    · subst e; exact List.getElem?_set_self (by rw [wipe_length]; exact hl)
    · rw [List.getElem?_set_ne e]
      exact wipe_none ((List.mem_cons.mp h).resolve_left fun z => e z.symm) hl
theorem wipe_eq {σ τ : L2.St} {vs : List Nat} (hl : σ.length = τ.length) (h : ∀ j, j ∉ vs → σ[j]? = τ[j]?) : L2.wipe σ vs = L2.wipe τ vs := by
  refine List.ext_getElem? fun i => ?_
  by_cases c : i ∈ vs
  · by_cases hi : i < σ.length
    · rw [wipe_none c hi, wipe_none c (hl ▸ hi)]
    · rw [List.getElem?_eq_none (by rw [wipe_length]; omega), List.getElem?_eq_none (by rw [wipe_length]; omega)]
  · rw [wipe_out c, wipe_out c, h i c]
theorem wipe_wipe {σ τ : L2.St} {vs ws : List Nat} (hs : ∀ j ∈ ws, j ∈ vs) (hl : σ.length = τ.length) (h : ∀ j, j ∉ ws → σ[j]? = (L2.wipe τ vs)[j]?) : L2.wipe σ vs = L2.wipe τ vs :=
  wipe_eq hl fun j hj => by rw [h j fun z => hj (hs j z), wipe_out hj]
end
section
variable (K : PySem.W.Frag) (fa : Nat → Addr) (cf : Cf)
def tG (t : Tg) : TG := fun v σ H Z => ∃ μ n M d σd σd', Pu K H M v d ∧ Sl K fa μ n H M σd σ ∧ asg t d σd = some σd' ∧ ∀ σ', Sl K fa μ n H M σd' σ' → (∀ j, j ∉ tgn t → σ'[j]? = σ[j]?) → σ'.length = σ.length → Z σ' H
def tGs (t : Tgs) : L2.TGs := fun v σ H Z => ∃ μ n M d σd σd', PuA K H M v d ∧ Sl K fa μ n H M σd σ ∧ asgs t d σd = some σd' ∧ ∀ σ', Sl K fa μ n H M σd' σ' → (∀ j, j ∉ tgns t → σ'[j]? = σ[j]?) → σ'.length = σ.length → Z σ' H
/-- the tests of a clause -/
def tTs (ifs : IEs) : TT := fun σ H Z => ∃ μ M S σd b S', Rp K fa μ H M S σd σ ∧ tst cf ifs σd S = some (b, S') ∧ ∀ H' M', Go K μ S.length H M H' M' S' → Z b H'
end
def tgsl : Tgs → Nat
  | .nil => 0
  | .cons _ r => tgsl r + 1
theorem asgs_len : ∀ {t : Tgs} {ds : List D} {σ σ' : Ev}, asgs t ds σ = some σ' → ds.length = tgsl t
  | .nil, [], _, _, _ => rfl
  | .nil, _ :: _, _, _, e => by simp [asgs] at e
  | .cons _ _, [], _, _, e => by simp [asgs] at e
  | .cons t r, d :: ds, σ, σ', e => by
    simp only [asgs, Option.bind_eq_some_iff] at e
    obtain ⟨σ1, _, e2⟩ := e
    simp [tgsl, asgs_len e2]
section
variable {X : Cx} {fa : Nat → Addr} {cf : Cf} {pos : Pos}
abbrev G (X : Cx) (fa : Nat → Addr) (e : Expr) (t : Tg) : Prop := PG X e (tG X.K fa t)
abbrev Gz (X : Cx) (fa : Nat → Addr) (e : List Expr) (t : Tgs) : Prop := PGs X e (tGs X.K fa t)
abbrev Ts (X : Cx) (fa : Nat → Addr) (cf : Cf) (ifs : List Expr) (i : IEs) : Prop := PTs X ifs (tTs X.K fa cf i)
theorem PG.imp {e : Expr} {t u : TG} (h : PG X e t) (m : ∀ v σ H Q, u v σ H Q → t v σ H Q) : PG X e u := ⟨fun pins s σ H v w Q I r q => h.run pins s σ H v w Q I r (m v σ H Q q)⟩
theorem PGs.imp {e : List Expr} {t u : L2.TGs} (h : PGs X e t) (m : ∀ v σ H Q, u v σ H Q → t v σ H Q) : PGs X e u := ⟨fun pins s σ H v w Q I r q => h.run pins s σ H v w Q I r (m v σ H Q q)⟩
theorem PTs.imp {e : List Expr} {t u : TT} (h : PTs X e t) (m : ∀ σ H Q, u σ H Q → t σ H Q) : PTs X e u := ⟨fun pins s σ H Q I q => h.run pins s σ H Q I (m σ H Q q)⟩
theorem sg_nm {i : Nat} {x : Str} (hN : X.N.Nodup) (hi : X.N[i]? = some x) (hx : Loc X.env.scope x) (hf : X.fn x = true ∨ X.env.scope.names.lookup x = some .local) : G X fa (.Name x pos) (.nm i) := by
  refine PG.imp (pg_name hN hi hx hf) fun v σ H Z ⟨μ, n, M, d, σd, σd', pu, s, e, q⟩ => ?_
  cases e
  exact q _ (s.set pu i) (fun j hj => List.getElem?_set_ne (fun z => hj (by rw [z]; exact List.mem_cons_self))) (by simp)
theorem sgs_nil : Gz X fa [] .nil := by
  refine PGs.imp pgs_nil fun v σ H Z ⟨μ, n, M, d, σd, σd', pu, s, e, q⟩ => ?_
  cases d with
  | nil => cases pu; cases e; exact ⟨rfl, q _ s (fun _ _ => rfl) rfl⟩
  | cons _ _ => simp [asgs] at e
theorem sgs_cons {a : Expr} {es : List Expr} {t : Tg} {r : Tgs} (h1 : G X fa a t) (h2 : Gz X fa es r) (hs : (assignEach (a :: es) X.env).map (·.2) = assign a X.env :: (assignEach es X.env).map (·.2)) : Gz X fa (a :: es) (.cons t r) := by
  refine PGs.imp (pgs_cons h1 h2 hs) fun v σ H Z ⟨μ, n, M, d, σd, σd', pu, s, e, q⟩ => ?_
  cases d with
  | nil => simp [asgs] at e
  | cons d ds =>
    cases pu with
    | cons p1 p2 =>
      simp only [asgs, Option.bind_eq_some_iff] at e
      obtain ⟨σ1, e1, e2⟩ := e
      refine ⟨_, _, rfl, μ, n, M, d, σd, σ1, p1, s, e1, fun σ' s' hj hl => ⟨μ, n, M, ds, σ1, σd', p2, s', e2, fun σ2 s2 hj2 hl2 => ?_⟩⟩
      refine q σ2 s2 (fun j hj' => ?_) (by rw [hl2, hl])
      simp only [tgns, List.mem_append, not_or] at hj'
      rw [hj2 j hj'.2, hj j hj'.1]
theorem sg_tup {es : List Expr} {k : Nat} {ts : Tgs} (hc : X.calm = true) (h : Gz X fa es ts) (hn : (assignEach es X.env).length = tgsl ts) (hst : (assignEach es X.env).findIdx? (·.1) = none) : G X fa (.Tuple es k pos) (.tup ts) := by
  refine PG.imp (pg_tup hc h hn hst) fun v σ H Z ⟨μ, n, M, d, σd, σd', pu, s, e, q⟩ => ?_
  cases d with
  | tuple ds =>
    obtain ⟨a, vs, rfl, hs, pa⟩ := pu.tuple
    simp only [asg] at e
    exact ⟨a, vs, rfl, hs, by rw [pa.length, asgs_len e], μ, n, M, ds, σd, σd', pa, s, e, q⟩
  | _ => simp [asg] at e
theorem sts_nil : Ts X fa cf [] .nil := by
  refine PTs.imp pts_nil fun σ H Z ⟨μ, M, S, σd, b, S', p, e, q⟩ => ?_
  cases e
  exact q _ _ p.toRS.refl
theorem sts_one {c : Expr} {ic : IE} (h : T X fa cf c ic) : Ts X fa cf [c] (.cons ic .nil) := by
  refine PTs.imp (pts_one h) fun σ H Z ⟨μ, M, S, σd, b, S', p, e, q⟩ => ?_
  simp only [tst, Option.bind_eq_some_iff] at e
  obtain ⟨⟨x, S1⟩, e1, k, e2, e⟩ := e
  refine ⟨μ, M, S, σd, x, S1, k, p, e1, e2, fun H' M' g => ?_⟩
  cases k with
  | true => simp only [if_true] at e; cases e; exact q _ _ g
  | false => simp only [Bool.false_eq_true, if_false] at e; cases e; exact q _ _ g
end

/-! ### comprehensions -/
/-- the new list at D holds acc -/
structure LcI (K : PySem.W.Frag) (μ : Nat → Addr) (n : Nat) (H0 : Hp) (M0 : Mk) (Dl : Addr) (acc : List D) (H : Hp) (M : Mk) (S : Store) : Prop where
  go : Go K μ n H0 M0 H M S
  md : M Dl
  nw : H0 Dl = none
  ct : Ct K H M Dl (.list acc)
section
variable {K : PySem.W.Frag} {fa μ : Nat → Addr} {n : Nat} {H0 Ha H H1 H2 H' : Hp} {M0 Ma M M1 M2 M' : Mk} {S0 S S1 S2 S3 S' : Store} {σd : Ev} {σ : L2.St} {v : V} {d : D} {Dl : Addr} {acc ys : List D} {cf : Cf}
theorem LcI.ne (I : LcI K μ S0.length H0 M0 Dl acc H M S) (p : RS K μ H0 M0 S0) : ∀ k, k < S0.length → Dl ≠ μ k := fun k hk z => (p.dom _ (p.mu hk)).1 (z ▸ I.nw)
theorem LcI.step (I : LcI K μ S0.length H0 M0 Dl acc H M S) (p : RS K μ H0 M0 S0) (g : Go K μ S.length H M H' M' S') : LcI K μ S0.length H0 M0 Dl acc H' M' S' :=
  ⟨I.go.then g, g.mm _ I.md, I.nw, I.ct.mono (g.keep (I.go.rs p)) g.old fun o e => g.fr _ o e fun k hk => I.ne p k (by rw [← I.go.ln]; exact hk)⟩
theorem LcI.base (I : LcI K μ S0.length H0 M0 Dl acc H M S) (p : RS K μ H0 M0 S0) (g : Go K μ S.length H M H' M' S') : LcI K μ S0.length H0 M0 Dl acc H' M S' := I.step p (g.base (I.go.rs p))
theorem LcI.ext (I : LcI K μ S0.length H0 M0 Dl acc H M S) (x : Ext H H') : LcI K μ S0.length H0 M0 Dl acc H' M S :=
  ⟨I.go.ext x, I.md, I.nw, I.ct.mono (fun b o e _ => x b o e) (fun _ _ _ z => z) fun o e => x _ o e⟩
theorem kp_upd {o : HO} (h : M Dl) : Kp H M (upd H Dl o) M := ⟨fun b u e n => by rw [upd_ne (show b ≠ Dl from fun z => n (by rw [z]; exact h))]; exact e, fun _ _ _ z => z⟩
theorem LcI.push (I : LcI K μ S0.length H0 M0 Dl acc H M S) (p : RS K μ H0 M0 S0) (q : Pu K H M v d) : ∃ vs, H Dl = some (.lst vs) ∧ vs.length = acc.length ∧ LcI K μ S0.length H0 M0 Dl (acc ++ [d]) (upd H Dl (.lst (vs ++ [v]))) M S := by
  obtain ⟨vs, e, pa⟩ := I.ct
  have kp : Kp H M (upd H Dl (.lst (vs ++ [v]))) M := kp_upd I.md
  refine ⟨vs, e, pa.length, ⟨I.go.mm, I.go.new, fun b z => ?_, fun b o e2 k => ?_, fun b z => ?_, fun b o u e2 => by rw [upd_ne (fun z => by rw [z, I.nw] at e2; cases e2)]; exact I.go.fz b o u e2, I.go.ln, fun k x e2 => ?_⟩, I.md, I.nw, _, upd_same, kp.pua (pa.append (.cons q .nil))⟩
  · by_cases h : b = Dl
    · rw [h, upd_same]; simp
    · rw [upd_ne h]; exact I.go.dom b z
  · rw [upd_ne (fun z => by rw [z, I.nw] at e2; cases e2)]; exact I.go.fr b o e2 k
  · by_cases h : b = Dl
    · rw [h, upd_same]; simp
    · rw [upd_ne h]; exact I.go.dm b z
  · obtain ⟨h1, h2⟩ := I.go.st k x e2
    refine ⟨h1, h2.mono kp.kp kp.old fun o e3 => ?_⟩
    rw [upd_ne (Ne.symm (I.ne p k (by rw [← I.go.ln]; exact (List.getElem?_eq_some_iff.mp e2).1)))]
    exact e3
/-- an item is made and put behind -/
theorem lc_elem {ie : IE} {r : Ip.R} {Nx : Hp → Prop} (p : RS K μ H0 M0 S0) (I : LcI K μ S0.length H0 M0 Dl acc H M S) (sl : Sl K fa μ S.length H M σd σ) (e : ev cf ie σd S = some (r, S')) (er : pureR r = some d) (hl : acc.length < LIM)
    (hN : ∀ H', LcI K μ S0.length H0 M0 Dl (acc ++ [d]) H' M S' → Kp H M H' M → Nx H') : tE K fa cf ie σ H fun y H4 => ∃ accv, H4 Dl = some (.lst accv) ∧ accv.length < sizeLine ∧ Nx (upd H4 Dl (.lst (accv ++ [y]))) := by
  refine ⟨μ, M, S, σd, r, S', sl.rp (I.go.rs p), e, fun v H4 M4 g q => ?_⟩
  have I4 := I.base p g
  have pu := q.pure (I.go.rs p).dom g.mm er
  obtain ⟨vs, h1, h2, I5⟩ := I4.push p pu
  refine ⟨vs, h1, ?_, hN _ I5 ((g.base (I.go.rs p)).kpt (I.go.rs p) |>.trans (kp_upd I4.md))⟩
  rw [h2, sizeLine_eq]; exact hl
/-- the loop -/
theorem lc_loop {J : L2.It} {xs : List D} {k : Option (Nat × List D)} {f : D → Store → Option (List D × Store)} {Fin : Hp → Prop} {turn : V → Hp → (Hp → Prop) → Prop} (p : RS K μ H0 M0 S0) (w : ∀ acc H M S, LcI K μ S0.length H0 M0 Dl acc H M S → Kp H1 M1 H M → still k S → ∃ M2, LcI K μ S0.length H0 M0 Dl acc H M2 S ∧ Kp H1 M1 H M2 ∧ WalkAt K J xs H M2)
    (I : LcI K μ S0.length H0 M0 Dl acc Ha Ma S1) (kp : Kp H1 M1 Ha Ma) (e : lpC k f xs S1 = some (ys, S2))
    (hturn : ∀ acc' x zs H M S S', LcI K μ S0.length H0 M0 Dl acc' H M S → Kp H1 M1 H M → f x S = some (zs, S') → (acc' ++ zs).length ≤ (acc ++ ys).length → ∀ v, Pu K H M v x → ∀ Nx : Hp → Prop, (∀ H' M', LcI K μ S0.length H0 M0 Dl (acc' ++ zs) H' M' S' → Kp H1 M1 H' M' → Nx H') → turn v H Nx)
    (fin : ∀ H M, LcI K μ S0.length H0 M0 Dl (acc ++ ys) H M S2 → Kp H1 M1 H M → Fin H) :
    ∃ W : Nat → Nat → Hp → Prop, (∃ m, W 0 m Ha) ∧ ∀ i m H, W i m H → (J.stop i H ∧ Fin H) ∨ (J.go i H ∧ ∃ Nx : Hp → Prop, (∀ H', Nx H' → ∃ m', m' < m ∧ W (i + 1) m' H') ∧ ∀ x H', J.yld i H x H' → turn x H' Nx) := by
  refine ⟨fun i m H => ∃ acc' M S zs, LcI K μ S0.length H0 M0 Dl acc' H M S ∧ Kp H1 M1 H M ∧ lpC k f (xs.drop i) S = some (zs, S2) ∧ acc' ++ zs = acc ++ ys ∧ i ≤ xs.length ∧ m = xs.length - i,
    ⟨_, acc, Ma, S1, ys, I, kp, e, rfl, Nat.zero_le _, rfl⟩, ?_⟩
  rintro i m H ⟨acc', M, S, zs, I', kp', e', ea, hi, rfl⟩
  by_cases hlt : i < xs.length
  · rw [List.drop_eq_getElem_cons hlt] at e'
    simp only [lpC] at e'
    split at e'
    · rename_i st
      simp only [Option.bind_eq_some_iff] at e'
      obtain ⟨⟨z1, S3⟩, e1, ⟨z2, S4⟩, e2, e3⟩ := e'
      cases e3
      obtain ⟨M, I', kp', wa⟩ := w acc' H M S I' kp' st
      obtain ⟨go, yl⟩ := wa.go i xs[i] (List.getElem?_eq_getElem hlt)
      refine .inr ⟨go, fun H' => ∃ M', LcI K μ S0.length H0 M0 Dl (acc' ++ z1) H' M' S3 ∧ Kp H1 M1 H' M', fun H' ⟨M', I2, kp2⟩ => ⟨xs.length - (i + 1), by omega, acc' ++ z1, M', S3, z2, I2, kp2, e2, by rw [← ea]; simp, hlt, rfl⟩, fun x H' y => ?_⟩
      obtain ⟨x1, x2⟩ := yl x H' y
      refine hturn acc' xs[i] z1 H' M S S3 (I'.ext x1) (kp'.trans (Kp.ext x1)) e1 ?_ x x2 _ fun H2 M2 I2 kp2 => ⟨M2, I2, kp2⟩
      rw [← ea]; simp
    · cases e'
  · have hx : i = xs.length := by omega
    subst hx
    rw [List.drop_length] at e'
    simp only [lpC] at e'
    split at e'
    · rename_i st
      cases e'
      obtain ⟨M, I', kp', wa⟩ := w acc' H M _ I' kp' st
      rw [List.append_nil] at ea
      subst ea
      exact .inl ⟨wa.stop, fin H M I' kp'⟩
    · cases e'
/-- of a walk -/
theorem walk_any {J : L2.It} {xs : List D} {k : Option (Nat × List D)} (p : RS K μ H0 M0 S0) (w : Walk K J xs k μ H1 M1) : ∀ acc H M S, LcI K μ S0.length H0 M0 Dl acc H M S → Kp H1 M1 H M → still k S → ∃ M2, LcI K μ S0.length H0 M0 Dl acc H M2 S ∧ Kp H1 M1 H M2 ∧ WalkAt K J xs H M2 :=
  fun acc H M S I kp st => ⟨M, I, kp, w μ H M S kp (I.go.rs p) (fun _ _ _ => rfl) st⟩
/-- a turn of one clause: store, tests, what comes behind -/
theorem lc_turn {t : Tg} {ifs : IEs} {x : D} {vs : List Nat} {zs : List D} {fn : Ev → Store → Option (List D × Store)} {B : L2.St → Hp → Prop} {Nx : Hp → Prop} (p : RS K μ H0 M0 S0) (I : LcI K μ S0.length H0 M0 Dl acc H M S) (kp : Kp H1 M1 H M) (sl : Sl K fa μ S.length H M σd σ)
    (ht : ∀ j ∈ tgn t, j ∈ vs) (e : ((asg t x (Ip.wipe σd vs)).bind fun σ1 => (tst cf ifs σ1 S).bind fun (b, S3) => if b then fn σ1 S3 else some ([], S3)) = some (zs, S')) (pv : Pu K H M v x)
    (hN : ∀ H' M', LcI K μ S0.length H0 M0 Dl (acc ++ zs) H' M' S' → Kp H1 M1 H' M' → Nx H')
    (hB : ∀ σ1 σ2 H3 M3 S3, LcI K μ S0.length H0 M0 Dl acc H3 M3 S3 → Kp H1 M1 H3 M3 → Sl K fa μ S3.length H3 M3 σ1 σ2 → fn σ1 S3 = some (zs, S') → B σ2 H3) :
    tG K fa t v (L2.wipe σ vs) H fun σ2 H2 => L2.wipe σ2 vs = L2.wipe σ vs ∧ tTs K fa cf ifs σ2 H2 fun b H3 => if b = true then B σ2 H3 else Nx H3 := by
  simp only [Option.bind_eq_some_iff] at e
  obtain ⟨σ1, e1, ⟨b, S3⟩, e2, e3⟩ := e
  refine ⟨μ, S.length, M, x, _, σ1, pv, sl.wipe vs, e1, fun σ' s' hj hl => ⟨wipe_wipe ht (by rw [hl, wipe_length]) hj, ?_⟩⟩
  refine ⟨μ, M, S, σ1, b, S3, s'.rp (I.go.rs p), e2, fun H3 M3 g => ?_⟩
  have I3 := I.step p g
  have kp3 := kp.trans (g.kpt (I.go.rs p))
  cases b with
  | false =>
    simp only [Bool.false_eq_true, if_false] at e3 ⊢
    cases e3
    exact hN _ _ (by rw [List.append_nil]; exact I3) kp3
  | true =>
    simp only [if_true] at e3 ⊢
    exact hB σ1 σ' H3 M3 S3 I3 kp3 ((g.rp (s'.rp (I.go.rs p))).toSl) e3
end
section
variable {X : Cx} {fa : Nat → Addr} {cf : Cf} {pos : Pos}
/-- the end of the block: the list is a new one -/
theorem lc_fin {K : PySem.W.Frag} {μ : Nat → Addr} {n : Nat} {H0 H : Hp} {M0 M : Mk} {Dl : Addr} {acc : List D} {S : Store} (I : LcI K μ n H0 M0 Dl acc H M S) : RR K fa μ n H0 H M (.f (.list acc)) (.ref Dl) := ⟨Dl, rfl, I.nw, I.md, I.ct⟩
/-- the block's first state -/
theorem lc_start {K : PySem.W.Frag} {μ : Nat → Addr} {n : Nat} {H0 H : Hp} {M0 M : Mk} {Dl : Addr} {S : Store} (g : Go K μ n H0 M0 H M S) (hD : H Dl = none) : LcI K μ n H0 M0 Dl [] (upd H Dl (.lst [])) (fun b => M b ∨ b = Dl) S ∧ Kp H M (upd H Dl (.lst [])) (fun b => M b ∨ b = Dl) :=
  ⟨⟨g.put (.upd hD) hD (by rw [upd_same]; exact ⟨by simp, fun xs z => by cases z⟩), .inr rfl, g.none hD, [], upd_same, .nil⟩, fun b o e _ => Ext.upd hD b o e, fun b o e z => z.elim id fun z => by rw [z, hD] at e; cases e⟩
theorem lc_one {it : It} {t : Tg} {ifs : IEs} {ie : IE} {own : List Nat} {σ : L2.St} {H : Hp} {Z : VK} (ht : ∀ j ∈ tgn t, j ∈ own) (h : tE X.K fa cf (.comp ie own (.cons t it ifs .nil)) σ H Z) :
    tLc (tI X.K fa cf it) (tG X.K fa t) (tTs X.K fa cf ifs) (tE X.K fa cf ie) own σ H Z := by
  obtain ⟨μ, M, S, σd, r, S', p, e, q⟩ := h
  simp only [ev, Option.bind_eq_some_iff] at e
  obtain ⟨⟨xs, k, S1⟩, e1, ⟨ys, S4⟩, e2, e⟩ := e
  split at e
  · rename_i hlim
    cases e
    have hlim : ys.length ≤ LIM := hlim
    refine ⟨μ, M, S, σd, xs, k, S1, p, e1, fun J H1 M1 g1 w Dl hD => ?_⟩
    obtain ⟨I0, k0⟩ := lc_start g1 hD
    refine lc_loop (turn := fun x H' Nx => tG X.K fa t x (L2.wipe σ own) H' fun σ2 H2 => L2.wipe σ2 own = L2.wipe σ own ∧ tTs X.K fa cf ifs σ2 H2 fun b H3 => if b = true then tE X.K fa cf ie σ2 H3 fun y H4 => ∃ acc, H4 Dl = some (.lst acc) ∧ acc.length < sizeLine ∧ Nx (upd H4 Dl (.lst (acc ++ [y]))) else Nx H3)
      p.toRS (walk_any p.toRS w) I0 k0 e2 (fun acc x zs H M S S' I kp ef hle v pv Nx hN => ?_) fun H M I _ => q _ H M (by have := I.go; exact this) (by have := lc_fin (fa := fa) I; exact this)
    refine lc_turn p.toRS I kp (I.go.rp p).toSl ht ef pv hN fun σ1 σ2 H3 M3 S3 I3 kp3 s3 ef3 => ?_
    simp only [evg, Option.bind_eq_some_iff] at ef3
    obtain ⟨⟨r, S5⟩, e3, y, e4, e5⟩ := ef3
    cases e5
    refine lc_elem p.toRS I3 s3 e3 e4 ?_ fun H' I4 kp4 => hN H' M3 I4 (kp3.trans kp4)
    simp only [List.length_append, List.length_cons, List.length_nil, List.nil_append] at hle
    omega
  · cases e
theorem lc_two {it it1 : It} {t t1 : Tg} {ifs ifs1 : IEs} {ie : IE} {own : List Nat} {σ : L2.St} {H : Hp} {Z : VK} (ht : ∀ j ∈ tgn t, j ∈ own) (h : tE X.K fa cf (.comp ie own (.cons t it ifs (.cons t1 it1 ifs1 .nil))) σ H Z) :
    tLc2 (tI X.K fa cf it) (tG X.K fa t) (tTs X.K fa cf ifs) (tI X.K fa cf it1) (tG X.K fa t1) (tTs X.K fa cf ifs1) (tE X.K fa cf ie) own (tgn t1) σ H Z := by
  obtain ⟨μ, M, S, σd, r, S', p, e, q⟩ := h
  simp only [ev, Option.bind_eq_some_iff] at e
  obtain ⟨⟨xs, k, S1⟩, e1, ⟨ys, S4⟩, e2, e⟩ := e
  split at e
  · rename_i hlim
    cases e
    have hlim : ys.length ≤ LIM := hlim
    refine ⟨μ, M, S, σd, xs, k, S1, p, e1, fun J H1 M1 g1 w Dl hD => ?_⟩
    obtain ⟨I0, k0⟩ := lc_start g1 hD
    refine lc_loop (turn := fun x H' Nx => tG X.K fa t x (L2.wipe σ own) H' fun σ2 H2 => L2.wipe σ2 own = L2.wipe σ own ∧ tTs X.K fa cf ifs σ2 H2 fun b H3 => if b = true then tI X.K fa cf it1 σ2 H3 fun J1 H4 => ∃ W1 : Nat → Nat → Hp → Prop, (∃ m, W1 0 m H4) ∧ ∀ j k H, W1 j k H →
      (J1.stop j H ∧ Nx H) ∨ (J1.go j H ∧ ∃ Nx1 : Hp → Prop, (∀ H', Nx1 H' → ∃ k', k' < k ∧ W1 (j + 1) k' H') ∧ ∀ x H', J1.yld j H x H' → tG X.K fa t1 x (L2.wipe σ2 (tgn t1)) H' fun σ3 H5 => L2.wipe σ3 (tgn t1) = L2.wipe σ2 (tgn t1) ∧ tTs X.K fa cf ifs1 σ3 H5 fun b H6 =>
        if b = true then tE X.K fa cf ie σ3 H6 fun y H7 => ∃ acc, H7 Dl = some (.lst acc) ∧ acc.length < sizeLine ∧ Nx1 (upd H7 Dl (.lst (acc ++ [y]))) else Nx1 H6) else Nx H3)
      p.toRS (walk_any p.toRS w) I0 k0 e2 (fun acc x zs H M S S' I kp ef hle v pv Nx hN => ?_) fun H M I _ => q _ H M (by have := I.go; exact this) (by have := lc_fin (fa := fa) I; exact this)
    refine lc_turn p.toRS I kp (I.go.rp p).toSl ht ef pv hN fun σ1 σ2 H3 M3 S3 I3 kp3 s3 ef3 => ?_
    rw [evg] at ef3
    simp only [Option.bind_eq_some_iff] at ef3
    obtain ⟨⟨xs1, k1, S5⟩, e3, e4⟩ := ef3
    refine ⟨μ, M3, S3, σ1, xs1, k1, S5, s3.rp (I3.go.rs p.toRS), e3, fun J1 H4 M4 g4 w4 => ?_⟩
    have I4 := I3.step p.toRS g4
    have kp4 := kp3.trans (g4.kpt (I3.go.rs p.toRS))
    have sl4 := (g4.rp (s3.rp (I3.go.rs p.toRS))).toSl
    refine lc_loop (turn := fun x H' Nx1 => tG X.K fa t1 x (L2.wipe σ2 (tgn t1)) H' fun σ3 H5 => L2.wipe σ3 (tgn t1) = L2.wipe σ2 (tgn t1) ∧ tTs X.K fa cf ifs1 σ3 H5 fun b H6 =>
        if b = true then tE X.K fa cf ie σ3 H6 fun y H7 => ∃ acc, H7 Dl = some (.lst acc) ∧ acc.length < sizeLine ∧ Nx1 (upd H7 Dl (.lst (acc ++ [y]))) else Nx1 H6)
      p.toRS (walk_any p.toRS w4) I4 Kp.refl e4 (fun acc' x' zs' H5 M5 S6 S6' I5 kp5 ef5 hle5 v' pv' Nx1 hN1 => ?_) fun H6 M6 I6 kp6 => hN H6 M6 I6 (kp4.trans kp6)
    have sl5 : Sl X.K fa μ S6.length H5 M5 σ1 σ2 := by
      refine ⟨sl4.ln, fun i r hr => ?_⟩
      obtain ⟨u, h1, h2⟩ := sl4.sl i r hr
      refine ⟨u, h1, ?_⟩
      rw [I5.go.ln]; rw [I4.go.ln] at h2
      cases r with
      | d x => exact kp5.pu h2
      | l k => exact h2
      | f x => exact h2
      | fn k => exact h2
      | s0 ns => obtain ⟨a, e, h⟩ := h2; exact ⟨a, e, kp5.sv h⟩
      | fr xs => exact h2.elim
      | rw ks => obtain ⟨a, e, h1, h3, h4⟩ := h2; exact ⟨a, e, fun z => h1 (kp5.old _ _ h3 z), kp5.kp _ _ h3 h1, h4⟩
    refine lc_turn p.toRS I5 kp5 sl5 (fun j hj => hj) ef5 pv' hN1 fun σ7 σ8 H7 M7 S7 I7 kp7 s7 ef7 => ?_
    simp only [evg, Option.bind_eq_some_iff] at ef7
    obtain ⟨⟨r, S8⟩, e8, y, e9, e10⟩ := ef7
    cases e10
    refine lc_elem p.toRS I7 s7 e8 e9 ?_ fun H' I8 kp8 => hN1 H' M7 I8 (kp7.trans kp8)
    simp only [List.length_append, List.length_cons, List.length_nil, List.nil_append] at hle hle5
    omega
  · cases e
theorem se_lc1 {elt tg iter : Expr} {ifs : List Expr} {scope : Scope} {own : List (Str × Nat)} {it : It} {t : Tg} {iifs : IEs} {ie : IE} (hc : X.calm = true) (hN : X.N.Nodup) (hi : I X fa cf tg iter it) (ok : BlkOk X.N X.env.scope scope own) (ht : ∀ j ∈ tgn t, j ∈ own.map (·.2))
    (hg : ∀ (s : Shared) (H : Hp) (C : Addr) (cl : List (Str × Addr)) (fp : List Addr), G (X.blk s H scope (compEnvC scope cl C X.env) fp) fa tg t) (hts : ∀ (s : Shared) (H : Hp) (C : Addr) (cl : List (Str × Addr)) (fp : List Addr), Ts (X.blk s H scope (compEnvC scope cl C X.env) fp) fa cf ifs iifs)
    (he : ∀ (s : Shared) (H : Hp) (C : Addr) (cl : List (Str × Addr)) (fp : List Addr), E (X.blk s H scope (compEnvC scope cl C X.env) fp) fa cf elt ie) (hs : ∀ x, foldedSetIterable iter X.env x = pure x) :
    E X fa cf (.ListComp elt [⟨tg, iter, ifs, 0⟩] scope pos) (.comp ie (own.map (·.2)) (.cons t it iifs .nil)) :=
  PE.imp (pe_lc hc hN hi ok hg hts he hs) fun σ H Z h => lc_one ht h
theorem se_lc2 {elt tg iter tg1 iter1 : Expr} {ifs ifs1 : List Expr} {scope : Scope} {own : List (Str × Nat)} {it it1 : It} {t t1 : Tg} {iifs iifs1 : IEs} {ie : IE} (hc : X.calm = true) (hN : X.N.Nodup) (hi : I X fa cf tg iter it) (ok : BlkOk X.N X.env.scope scope own) (ht : ∀ j ∈ tgn t, j ∈ own.map (·.2)) (ht1 : ∀ j ∈ tgn t1, j ∈ own.map (·.2))
    (hg : ∀ (s : Shared) (H : Hp) (C : Addr) (cl : List (Str × Addr)) (fp : List Addr), G (X.blk s H scope (compEnvC scope cl C X.env) fp) fa tg t) (hts : ∀ (s : Shared) (H : Hp) (C : Addr) (cl : List (Str × Addr)) (fp : List Addr), Ts (X.blk s H scope (compEnvC scope cl C X.env) fp) fa cf ifs iifs)
    (hi1 : ∀ (s : Shared) (H : Hp) (C : Addr) (cl : List (Str × Addr)) (fp : List Addr), I (X.blk s H scope (compEnvC scope cl C X.env) fp) fa cf tg1 iter1 it1)
    (hg1 : ∀ (s : Shared) (H : Hp) (C : Addr) (cl : List (Str × Addr)) (fp : List Addr), G (X.blk s H scope (compEnvC scope cl C X.env) fp) fa tg1 t1) (hts1 : ∀ (s : Shared) (H : Hp) (C : Addr) (cl : List (Str × Addr)) (fp : List Addr), Ts (X.blk s H scope (compEnvC scope cl C X.env) fp) fa cf ifs1 iifs1)
    (he : ∀ (s : Shared) (H : Hp) (C : Addr) (cl : List (Str × Addr)) (fp : List Addr), E (X.blk s H scope (compEnvC scope cl C X.env) fp) fa cf elt ie) (hs : ∀ x, foldedSetIterable iter X.env x = pure x) (hs1 : ∀ env x, foldedSetIterable iter1 env x = pure x) :
    E X fa cf (.ListComp elt [⟨tg, iter, ifs, 0⟩, ⟨tg1, iter1, ifs1, 0⟩] scope pos) (.comp ie (own.map (·.2)) (.cons t it iifs (.cons t1 it1 iifs1 .nil))) :=
  PE.imp (pe_lc2 hc hN hi ok ht1 hg hts hi1 hg1 hts1 he hs hs1) fun σ H Z h => lc_two ht h
end
end Ip

set_option Elab.async false
set_option linter.all false
set_option maxRecDepth 100000
set_option maxHeartbeats 1000000
/-! isinstance, methods, list(range). -/
namespace Ip
open PySem PySem.Spec PyProof.Rows L2

section
variable {X : Cx} {fa : Nat → Addr} {cf : Cf} {a b : Expr} {ia ib : IE} {es : List Expr} {is : IEs} {pos p0 apos cpos : Pos}
theorem ty_any {K : PySem.W.Frag} {H : Hp} {M : Mk} {x : V} {u : D} (p : Va K H M x u) (ts : List Ty) : ∃ n : String, TyX K H x (.type n) ∧ PySem.W.kitAny K (.type n) (ts.map fun t => .type (tyName t)) = some (ts.any (isTy u)) := by
  obtain ⟨n, h1, h2⟩ := va_ty p
  exact ⟨n, h1, kit_any h2 ts⟩
theorem rdi_ty {K : PySem.W.Frag} {μ : Nat → Addr} {n : Nat} {H H' : Hp} {M' : Mk} {S : Store} {r : Ip.R} {v : V} (q : RR K fa μ n H H' M' r v) (p : RS K μ H' M' S) {u : D} (e : rdi S r = some u) : ∃ n : String, TyX K H' v (.type n) ∧ (∀ t : Ty, PySem.W.kitOne K (.type n) (.type (tyName t)) = some (isTy u t)) := by
  unfold rdi at e
  split at e
  · cases e
    obtain ⟨a, rfl, _, o, vs, h2, _⟩ := q
    exact ⟨"tuple", .fTuple h2, fun t => kit_ty (show kitB "tuple" (tyName t) = some (isTyO (some .tuple) t) from by cases t <;> decide +kernel)⟩
  · exact va_ty (q.va p e)
theorem se_isi1 {t : Ty} (hg : Gl X "isinstance") (hm : X.mg "isinstance" = none) (ha : E X fa cf a ia) (hb : PE X b (tC (.ty (tyName t)))) (hs : starEach [a, b] X.env = (false, eval a X.env) :: starEach [b] X.env) (hs2 : starEach [b] X.env = (false, eval b X.env) :: starEach [] X.env) (hpl : (backTo pos (starEach [b] X.env)).any (·.1) = false) :
    E X fa cf (.Call (.Name "isinstance" p0) [a, b] [] pos) (.isi ia [t]) := by
  refine PE.imp (pe_callB call_isi hg hm (by decide +kernel) (pa_cons ha (pa_cons hb pa_nil hs2) hs) (by decide) (by decide) hs hpl) fun σ H Z ⟨μ, M, S, σd, r, S', p, e, q⟩ => ?_
  simp only [ev, Option.bind_eq_some_iff] at e
  obtain ⟨⟨x, S1⟩, e1, u, e2, e⟩ := e
  cases e
  refine ⟨μ, M, S, σd, x, S1, p, e1, fun v H1 M1 g1 q1 => ?_⟩
  obtain ⟨n, h1, h2⟩ := rdi_ty q1 (g1.rs p.toRS) e2
  refine ⟨v, .ty (tyName t), .type n, .type (tyName t), isTy u t, rfl, .ty _, h1, h2 t, ?_⟩
  refine q _ _ M1 g1 ?_
  show Pu _ _ _ _ _
  rw [List.any_cons, List.any_nil, Bool.or_false]
  exact .bl _
def tCs (vs : List V) : TA := fun _ H Z => Z vs H
theorem pa_cs_nil : PA X [] (tCs []) := PA.imp pa_nil fun _ _ _ q => q
theorem pa_cs_cons {v : V} {vs : List V} (ha : PE X a (tC v)) (hr : PA X es (tCs vs)) (hs : starEach (a :: es) X.env = (false, eval a X.env) :: starEach es X.env) : PA X (a :: es) (tCs (v :: vs)) := PA.imp (pa_cons ha hr hs) fun _ _ _ q => q
theorem cls_all : ∀ ts : List Ty, Paired ClsV (ts.map fun t => V.ty (tyName t)) (ts.map fun t => Value.type (tyName t))
  | [] => .nil
  | t :: ts => .cons (.ty _) (cls_all ts)
theorem se_isiT {ts : List Ty} {k : Nat} {tp : Pos} (hg : Gl X "isinstance") (hm : X.mg "isinstance" = none) (ha : E X fa cf a ia) (hb : PA X es (tCs (ts.map fun t => V.ty (tyName t)))) (hl : ts.length ≤ LIM)
    (hs : starEach [a, .Tuple es k tp] X.env = (false, eval a X.env) :: starEach [.Tuple es k tp] X.env) (hs2 : starEach [.Tuple es k tp] X.env = (false, eval (.Tuple es k tp) X.env) :: starEach [] X.env) (hpl : (backTo pos (starEach [.Tuple es k tp] X.env)).any (·.1) = false) :
    E X fa cf (.Call (.Name "isinstance" p0) [a, .Tuple es k tp] [] pos) (.isi ia ts) := by
  refine PE.imp (pe_callB call_isiT hg hm (by decide +kernel) (pa_cons ha (pa_cons (pe_tup hb) pa_nil hs2) hs) (by decide) (by decide) hs hpl) fun σ H Z ⟨μ, M, S, σd, r, S', p, e, q⟩ => ?_
  simp only [ev, Option.bind_eq_some_iff] at e
  obtain ⟨⟨x, S1⟩, e1, u, e2, e⟩ := e
  cases e
  refine ⟨μ, M, S, σd, x, S1, p, e1, fun v H1 M1 g1 q1 => ⟨by rw [List.length_map]; exact lim_line hl, fun ad n => ?_⟩⟩
  have g2 := g1.ext (Ext.upd (o := .tup (ts.map fun t => V.ty (tyName t))) n)
  have g2' : Go X.K μ S.length H M (upd H1 ad (.tup (ts.map fun t => V.ty (tyName t)))) M1 S1 := g1.ext (Ext.upd (o := .tup (ts.map fun t => V.ty (tyName t))) n)
  have q2 : RR X.K fa μ S.length H (upd H1 ad (.tup (ts.map fun t => V.ty (tyName t)))) M1 x v := by
    cases x with
    | d y => exact Pu.ext (.upd n) q1
    | l k => exact q1
    | f y => obtain ⟨a, e, h0, h1, c⟩ := q1; exact ⟨a, e, h0, h1, c.mono (fun b o e _ => Ext.upd n b o e) (fun _ _ _ z => z) fun o e => Ext.upd n _ o e⟩
    | fn k => exact q1
    | s0 y => obtain ⟨a, e, h⟩ := q1; exact ⟨a, e, h.mono (fun b o e _ => Ext.upd n b o e) fun _ _ _ z => z⟩
    | fr y => cases e2
    | rw y => cases e2
  obtain ⟨nm, h1, h2⟩ := rdi_ty q2 (g2'.rs p.toRS) e2
  exact ⟨v, ad, _, .type nm, _, _, rfl, upd_same, cls_all ts, h1, kit_any h2 ts, q _ _ M1 g2 (.bl _)⟩

/-! ### methods -/
theorem Va.sqL {K : PySem.W.Frag} {H : Hp} {M : Mk} {v : V} {u : D} (p : Va K H M v u) (h : isL u = true) : tyV K "list" v H := by
  cases u with
  | list ds => obtain ⟨a, vs, rfl, hs, _⟩ := p.list; exact .inl ⟨rfl, vs, hs⟩
  | _ => cases h
/-- a method of a tuple that has no dict -/
def tBMT (r : V → List V → Hp → VK → Prop) (to : TE) (t : TA) : TE := fun σ H Q => to σ H fun x H1 => (∃ a o ys, x = .ref a ∧ H1 a = some (.frz o (.tup ys)) ∧ o.dict = none) ∧ t σ H1 fun xs H2 => r x xs H2 Q
theorem pe_bmT {o e : Expr} {es : List Expr} {to : TE} {t : TA} {name : Str} {id : String} {r : V → List V → Hp → VK → Prop} (slot : Slot "tuple" name id) (hty : typeOf (.builtin id) = pure (.type "method_descriptor")) (hm : MtR X id r) (ho : PE X o to) (ha : PA X (e :: es) t)
    (hbase : attributeBase o name X.env (eval o X.env) = eval o X.env)
    (hfew : ((backTo cpos (starEach (e :: es) X.env)).all (fun x => !x.1) && (backToKw cpos (keywordEach [] X.env)).all (fun x => x.1.isSome)
      && decide ((e :: es).length + ([] : List Keyword).length + (if ([] : List Keyword).isEmpty then 0 else 1) < 30)) = true)
    (hline : (apos.endLine == cpos.line) = true) (hs : starEach (e :: es) X.env = (false, eval e X.env) :: starEach es X.env) (hplain : (backTo cpos (starEach es X.env)).any (·.1) = false) :
    PE X (.Call (.Attribute o name apos) (e :: es) [] cpos) (tBMT r to t) := by
  refine ⟨fun pins s σ H Q I h => ?_⟩
  refine wpAny_Call_method_late hbase hfew hline rfl (thn (ho.run pins s σ H _ I h) fun v s1 ⟨x, H1, I1, r1, ty, q1⟩ => ?_)
  obtain ⟨a, ob, ys, rfl, h1, h2⟩ := ty
  obtain rfl : v = Value.ref a := r1
  obtain ⟨e1, z, its, rv, ob', e2, hc, n, hd⟩ := I1.hok a _ h1
  rw [e1] at e2
  cases e2
  refine ⟨"tuple", id, F.plainAttrs_tuple, slot, hty, ⟨ob, e1, hc⟩, fun b eb => ?_, ?_⟩
  · cases eb; exact ⟨ob, e1, h2⟩
  have hA := ha.run cpos pins s1 σ H1 _ I1 q1
  rw [hs] at hA ⊢
  refine Calls.callWith_builtin (by show (false || (backTo cpos (starEach es X.env)).any (·.1)) = false; rw [hplain] <;> rfl) (Calls.evalArgs_plain ?_)
  exact thn hA fun us s2 ⟨vs, H2, I2, r2, q2⟩ => hm pins s2 σ H2 (V.ref a) vs (Value.ref a) us Q I2 rfl r2 q2
theorem se_mth {m : Mt} {name : Str} (hu : X.A.units + 65 < cLine) (slot : Slot "list" name (mId m)) (hty : typeOf (.builtin (mId m)) = pure (.type "method_descriptor")) (slotT : Slot "tuple" name (mIdT m)) (htyT : typeOf (.builtin (mIdT m)) = pure (.type "method_descriptor")) (ha : E X fa cf a ia) (h : L X fa cf (b :: es) is)
    (hbase : attributeBase a name X.env (eval a X.env) = eval a X.env)
    (hfew : ((backTo cpos (starEach (b :: es) X.env)).all (fun x => !x.1) && (backToKw cpos (keywordEach [] X.env)).all (fun x => x.1.isSome) && decide ((b :: es).length + ([] : List Keyword).length + (if ([] : List Keyword).isEmpty then 0 else 1) < 30)) = true)
    (hline : (apos.endLine == cpos.line) = true) (hs : starEach (b :: es) X.env = (false, eval b X.env) :: starEach es X.env) (hpl : (backTo cpos (starEach es X.env)).any (·.1) = false) :
    E X fa cf (.Call (.Attribute a name apos) (b :: es) [] cpos) (.mth m ia is) := by
  refine ⟨fun pins s σ H Z I h0 => ?_⟩
  have h1 := h0
  obtain ⟨μ, M, S, σd, r, S', p, e, q⟩ := h1
  simp only [ev, Option.bind_eq_some_iff] at e
  obtain ⟨⟨x, S1⟩, e1, e⟩ := e
  dsimp only at e
  split at e
  · rename_i zs
    simp only [Option.bind_eq_some_iff] at e
    obtain ⟨⟨rs, S2⟩, e3, ys, e5, r0, e6, e7⟩ := e
    cases e7
    refine (pe_bmT slotT htyT (mthT_all hu m) ha h hbase hfew hline hs hpl).run pins s σ H Z I ?_
    refine ⟨μ, M, S, σd, _, S1, p, e1, fun v H1 M1 g1 q1 => ?_⟩
    have q1c := q1
    obtain ⟨a0, rfl, n, o, ws, k2, k3, k4⟩ := q1c
    refine ⟨⟨a0, o, ws, rfl, k2, k3⟩, μ, M1, S1, σd, rs, S2, g1.rp p, e3, fun vs H2 M2 as g2 q2 => ?_⟩
    have g12 := g1.then g2
    have p2 := g12.rs p.toRS
    obtain ⟨a1, e8, n', o', ws', l2, l3, l4⟩ := g1.rr2 p.toRS g2 q1
    cases e8
    refine ⟨M2, a0, ws', zs, ys, _, rfl, .inl (.inr ⟨o', l2⟩), l4, g2.dom, q2.va p2 e5, e6, fun z H3 x3 qz => ?_⟩
    obtain ⟨M', g, rr⟩ := Rs.go (fa := fa) g12 x3 qz
    exact q z H3 M' g rr
  · simp only [Option.bind_eq_some_iff] at e
    obtain ⟨u0, e2, e⟩ := e
    split at e
    · rename_i hl
      simp only [Option.bind_eq_some_iff] at e
      obtain ⟨⟨rs, S2⟩, e3, u, e4, ys, e5, r0, e6, e7⟩ := e
      cases e7
      refine (pe_bm F.plainAttrs_list slot hty (mth_all hu m) ha h hbase hfew hline hs hpl).run pins s σ H Z I ?_
      refine ⟨μ, M, S, σd, x, S1, p, e1, fun v H1 M1 g1 q1 => ⟨(q1.va (g1.rs p.toRS) e2).sqL hl, μ, M1, S1, σd, rs, S2, g1.rp p, e3, fun vs H2 M2 as g2 q2 => ?_⟩⟩
      have g12 := g1.then g2
      have p2 := g12.rs p.toRS
      refine ⟨M2, u, ys, _, g2.dom, (g1.rr2 p.toRS g2 q1).va p2 e4, q2.va p2 e5, e6, fun z H3 x3 qz => ?_⟩
      obtain ⟨M', g, rr⟩ := Rs.go (fa := fa) g12 x3 qz
      exact q z H3 M' g rr
    · cases e

/-! ### a change of an own list -/
/-- one object changes -/
theorem Go.chg {K : PySem.W.Frag} {μ : Nat → Addr} {H : Hp} {M : Mk} {H1 : Hp} {M1 : Mk} {S S1 : Store} {n : Nat} {x : D} {o : HO} (g : Go K μ S.length H M H1 M1 S1) (p : RS K μ H M S) (hn : n < S1.length) (nf : ∀ oo u, H1 (μ n) ≠ some (.frz oo u)) (c : ∀ H2, Kp H1 M1 H2 M1 → H2 (μ n) = some o → Pl K H2 M1 (μ n) x) :
    Go K μ S.length H M (upd H1 (μ n) o) M1 (S1.set n x) := by
  have p1 := g.rs p
  have hm : M1 (μ n) := p1.mu hn
  have kp : Kp H1 M1 (upd H1 (μ n) o) M1 := kp_upd hm
  have hn' : n < S.length := by rw [← g.ln]; exact hn
  refine ⟨g.mm, g.new, fun b z => ?_, fun b u e k => ?_, fun b z => ?_, fun b oo u e => by rw [upd_ne (show b ≠ μ n from fun z => nf oo u (by rw [← z]; exact g.fz b oo u e))]; exact g.fz b oo u e, by rw [List.length_set, g.ln], fun k y e => ?_⟩
  · by_cases h : b = μ n
    · have hc := c _ kp upd_same
      rw [h]; exact ⟨hc.dom, hc.nt⟩
    · rw [upd_ne h]; exact g.dom b z
  · rw [upd_ne (k n hn')]; exact g.fr b u e k
  · by_cases h : b = μ n
    · rw [h, upd_same]; simp
    · rw [upd_ne h]; exact g.dm b z
  · by_cases h : n = k
    · subst h
      rw [List.getElem?_set_self hn] at e
      cases e
      exact ⟨hm, c _ kp upd_same⟩
    · rw [List.getElem?_set_ne h] at e
      obtain ⟨h1, h2⟩ := g.st k y e
      refine ⟨h1, h2.mono kp.kp kp.old fun u e2 => ?_⟩
      rw [upd_ne (fun z => h (p1.inj k n (List.getElem?_eq_some_iff.mp e).1 hn z).symm)]
      exact e2
def mmId : Mm → String
  | .append => "list.append" | .extend => "list.extend" | .pop => "list.pop" | .remove => "list.remove" | .insert => "list.insert"
/-- by values -/
def rMut (K : PySem.W.Frag) (m : Mm) : V → List V → Hp → VK → Prop := fun x xs H Z => ∃ (M : Mk) (a : Addr) (vs : List V) (ds us : List D) (u' r : D), x = .ref a ∧ H a = some (.lst vs) ∧ PuA K H M vs ds ∧ PuA K H M xs us ∧ mutD m (.list ds) us = some (u', r) ∧
  ∀ z o, Pu K H M z r → (∀ H2, Kp H M H2 M → H2 a = some o → Ct K H2 M a u') → Z z (upd H a o)
theorem PuA.one {K : PySem.W.Frag} {H : Hp} {M : Mk} {vs : List V} {d : D} (p : PuA K H M vs [d]) : ∃ v, vs = [v] ∧ Pu K H M v d := by
  cases p with
  | cons h q => cases q; exact ⟨_, rfl, h⟩
theorem mut_all (m : Mm) : MtR X (mmId m) (rMut X.K m) := by
  intro pins s σ H x xs v us Z I rx rs hh
  obtain ⟨M, a, vs, ds, ws, u', r, rfl, ha, pa, pw, h, q⟩ := hh
  unfold mutD at h
  split at h
  · obtain ⟨y, rfl, py⟩ := pw.one
    rename_i xs' y' e1
    cases e1
    split at h
    · rename_i hl
      cases h
      exact mt_append pins s σ H _ _ v us Z I rx rs ⟨a, vs, y, rfl, rfl, ha, by rw [pa.length, sizeLine_eq]; exact hl, q _ _ .non fun H2 kp e => ⟨_, e, kp.pua (pa.append (.cons py .nil))⟩⟩
    · cases h
  · obtain ⟨y, rfl, py⟩ := pw.one
    rename_i xs' ys' e1
    cases e1
    split at h
    · rename_i hl
      cases h
      cases py with
      | lst hb nb pb =>
        exact mt_extend pins s σ H _ _ v us Z I rx rs ⟨a, _, vs, _, rfl, rfl, ha, hb, by rw [pa.length, pb.length, sizeLine_eq]; exact hl, q _ _ .non fun H2 kp e => ⟨_, e, kp.pua (pa.append pb)⟩⟩
    · cases h
  · rename_i xs' e1
    cases e1
    cases pw
    rw [Option.map_eq_some_iff] at h
    obtain ⟨y, e, e2⟩ := h
    cases e2
    obtain ⟨w, h1, h2⟩ := pa.get e
    rw [← pa.length] at h1
    exact mt_pop pins s σ H _ _ v us Z I rx rs ⟨a, vs, w, rfl, rfl, ha, h1, q _ _ h2 fun H2 kp e => ⟨_, e, kp.pua pa.dropLast⟩⟩
  · obtain ⟨y, rfl, py⟩ := pw.one
    rename_i xs' i e1
    cases e1
    cases py
    split at h
    · rename_i hl
      simp only [Option.bind_eq_some_iff, Option.map_eq_some_iff] at h
      obtain ⟨k, hk, y, e, e2⟩ := h
      cases e2
      obtain ⟨w, h1, h2⟩ := pa.get e
      obtain ⟨k1, k2, k3, k4⟩ := L2.ixN_seq hk
      have hL : LIM = 16777216 := rfl
      exact mt_popAt pins s σ H _ _ v us Z I rx rs ⟨a, vs, i, k, w, rfl, rfl, ha, by omega, by omega, by rw [pa.length]; exact k1, h1, q _ _ h2 fun H2 kp e => ⟨_, e, kp.pua (pa.erase k)⟩⟩
    · cases h
  · cases h
theorem pures_of {rs : List Ip.R} {us : List D} (e : pures rs = some us) : True := trivial
theorem mutD_list {m : Mm} {u : D} {ys : List D} {o : D × D} (h : mutD m u ys = some o) : ∃ ds, u = .list ds := by
  cases u with
  | list ds => exact ⟨ds, rfl⟩
  | _ => cases m <;> simp [mutD] at h
/-- x.append(e) .. -/
theorem mut_read {m : Mm} {i : Nat} {σ : L2.St} {H : Hp} {Z : VK} (h : tE X.K fa cf (.mut m i is) σ H Z) : ∃ μ M S σd n u0 rs S1 ys u u' r0, Rp X.K fa μ H M S σd σ ∧ σd[i]? = some (some (.l n)) ∧ S[n]? = some u0 ∧ isL u0 = true ∧ evs cf is σd S = some (rs, S1) ∧ pures rs = some ys ∧ S1[n]? = some u ∧ mutD m u ys = some (u', r0) ∧
    ∀ v H' M', Go X.K μ S.length H M H' M' (S1.set n u') → Pu X.K H' M' v r0 → Z v H' := by
  obtain ⟨μ, M, S, σd, r, S', p, e, q⟩ := h
  simp only [ev] at e
  split at e
  · rename_i n hn
    simp only [Option.bind_eq_some_iff] at e
    obtain ⟨u0, e0, e⟩ := e
    split at e
    · rename_i hl
      simp only [Option.bind_eq_some_iff] at e
      obtain ⟨⟨rs, S1⟩, e1, ys, e2, u, e3, ⟨u', r0⟩, e4, e5⟩ := e
      cases e5
      exact ⟨μ, M, S, σd, n, u0, rs, S1, ys, u, u', r0, p, hn, e0, hl, e1, e2, e3, e4, q⟩
    · cases e
  · cases e
theorem mut_end {m : Mm} {n : Nat} {μ : Nat → Addr} {H H1 : Hp} {M M1 : Mk} {S S1 : Store} {rs : List Ip.R} {vs : List V} {as : List Addr} {ys : List D} {u u' r0 : D} {Z : VK} (p : RS X.K μ H M S) (g : Go X.K μ S.length H M H1 M1 S1) (q1 : RRL X.K fa μ S.length H H1 M1 rs vs as)
    (e2 : pures rs = some ys) (e3 : S1[n]? = some u) (e4 : mutD m u ys = some (u', r0)) (q : ∀ v H' M', Go X.K μ S.length H M H' M' (S1.set n u') → Pu X.K H' M' v r0 → Z v H') : rMut X.K m (.ref (μ n)) vs H1 Z := by
  obtain ⟨ds, rfl⟩ := mutD_list e4
  have gb := g.base p
  obtain ⟨hM, hpl⟩ := gb.st n _ e3
  obtain ⟨ws, hw, pw⟩ := hpl.list
  refine ⟨M, μ n, ws, ds, ys, u', r0, rfl, hw, pw, q1.pure p.dom g.mm e2, e4, fun z o pz c => q z _ M (gb.chg p (List.getElem?_eq_some_iff.mp e3).1 (fun oo uu z => hpl.list.nofrz z) fun H2 kp e => .inr (c H2 kp e)) ((kp_upd hM).pu pz)⟩
theorem mut_ty {μ : Nat → Addr} {H : Hp} {M : Mk} {S : Store} {n : Nat} {u0 : D} (p : RS X.K μ H M S) (e : S[n]? = some u0) (h : isL u0 = true) : tyV X.K "list" (.ref (μ n)) H := by
  cases u0 with
  | list ds => obtain ⟨vs, hv, _⟩ := (p.st n _ e).2.list; exact .inl ⟨rfl, vs, .of hv⟩
  | _ => cases h
theorem se_mut {m : Mm} {name : Str} {i : Nat} (slot : Slot "list" name (mmId m)) (hty : typeOf (.builtin (mmId m)) = pure (.type "method_descriptor")) (hv : PE X a (tVar i)) (h : L X fa cf (b :: es) is)
    (hbase : attributeBase a name X.env (eval a X.env) = eval a X.env)
    (hfew : ((backTo cpos (starEach (b :: es) X.env)).all (fun x => !x.1) && (backToKw cpos (keywordEach [] X.env)).all (fun x => x.1.isSome) && decide ((b :: es).length + ([] : List Keyword).length + (if ([] : List Keyword).isEmpty then 0 else 1) < 30)) = true)
    (hline : (apos.endLine == cpos.line) = true) (hs : starEach (b :: es) X.env = (false, eval b X.env) :: starEach es X.env) (hpl : (backTo cpos (starEach es X.env)).any (·.1) = false) :
    E X fa cf (.Call (.Attribute a name apos) (b :: es) [] cpos) (.mut m i is) := by
  refine PE.imp (pe_bm F.plainAttrs_list slot hty (mut_all m) hv h hbase hfew hline hs hpl) fun σ H Z hz => ?_
  obtain ⟨μ, M, S, σd, n, u0, rs, S1, ys, u, u', r0, p, hn, e0, hl, e1, e2, e3, e4, q⟩ := mut_read hz
  obtain ⟨v, h1, h2⟩ := p.sl i _ hn
  obtain ⟨hk, rfl⟩ := h2
  exact ⟨_, h1, mut_ty p.toRS e0 hl, μ, M, S, σd, rs, S1, p, e1, fun vs H1 M1 as g1 q1 => mut_end p.toRS g1 q1 e2 e3 e4 q⟩
theorem se_mut0 {m : Mm} {name : Str} {i : Nat} (slot : Slot "list" name (mmId m)) (hty : typeOf (.builtin (mmId m)) = pure (.type "method_descriptor")) (hv : PE X a (tVar i))
    (hbase : attributeBase a name X.env (eval a X.env) = eval a X.env) (hline : (apos.endLine == cpos.line) = true) :
    E X fa cf (.Call (.Attribute a name apos) [] [] cpos) (.mut m i .nil) := by
  refine PE.imp (pe_bm0 F.plainAttrs_list slot hty (mut_all m) hv hbase hline) fun σ H Z hz => ?_
  obtain ⟨μ, M, S, σd, n, u0, rs, S1, ys, u, u', r0, p, hn, e0, hl, e1, e2, e3, e4, q⟩ := mut_read hz
  obtain ⟨v, h1, h2⟩ := p.sl i _ hn
  obtain ⟨hk, rfl⟩ := h2
  cases e1
  exact ⟨_, h1, mut_ty p.toRS e0 hl, mut_end (fa := fa) p.toRS p.toRS.refl .nil e2 e3 e4 q⟩
theorem se_stw {ib : IE} (ha : E X fa cf a ia) (hb : E X fa cf b ib) (hbase : attributeBase a "startswith" X.env (eval a X.env) = eval a X.env)
    (hfew : ((backTo cpos (starEach [b] X.env)).all (fun x => !x.1) && (backToKw cpos (keywordEach [] X.env)).all (fun x => x.1.isSome) && decide ([b].length + ([] : List Keyword).length + (if ([] : List Keyword).isEmpty then 0 else 1) < 30)) = true)
    (hline : (apos.endLine == cpos.line) = true) (hs : starEach [b] X.env = (false, eval b X.env) :: starEach [] X.env) (hpl : (backTo cpos (starEach [] X.env)).any (·.1) = false) :
    E X fa cf (.Call (.Attribute a "startswith" apos) [b] [] cpos) (.stw ia ib) := by
  refine PE.imp (pe_bm F.plainAttrs_str F.slot_str_startswith F.type_str_startswith mt_startswith ha (pa_cons hb pa_nil hs) hbase hfew hline hs hpl) fun σ H Z ⟨μ, M, S, σd, r, S', p, e, q⟩ => ?_
  simp only [ev, Option.bind_eq_some_iff] at e
  obtain ⟨⟨x, S1⟩, e1, ⟨y, S2⟩, e2, e⟩ := e
  split at e
  · rename_i s t hx hy
    cases e
    have hx : x = R.d (.str s) := hx
    have hy : y = R.d (.str t) := hy
    subst hx hy
    refine ⟨μ, M, S, σd, _, S1, p, e1, fun v1 H1 M1 g1 q1 => ?_⟩
    have e3 := (show Va X.K H1 M1 v1 (.str s) from .inl (.inl q1)).str
    subst e3
    refine ⟨rfl, μ, M1, S1, σd, _, S2, g1.rp p, e2, fun v2 H2 M2 g2 q2 => ?_⟩
    have e4 := (show Va X.K H2 M2 v2 (.str t) from .inl (.inl q2)).str
    subst e4
    exact ⟨s, t, rfl, rfl, q _ _ M2 (g1.then g2) (.bl _)⟩
  · cases e
/-! ### list(range(..)), tuple(range(..)) -/
theorem rg_pu {K : PySem.W.Frag} {H : Hp} {M : Mk} {i j : Int} : PuA K H M (rgV i j) (rngD i j) := by
  unfold rgV rngD
  generalize (j - i).toNat = n
  have : ∀ l : List Nat, PuA K H M (l.map fun (k : Nat) => V.int (i + k)) (l.map fun (k : Nat) => PyData.int (i + k)) := fun l => by
    induction l with
    | nil => exact .nil
    | cons x r ih => exact .cons (.int _) ih
  exact this _
theorem rng1_inv {σ : Ev} {S S' : Store} {xs : List D} {k : Option (Nat × List D)} (e : evi cf (.rng (.cons ia .nil)) σ S = some (xs, k, S')) : ∃ j, ev cf ia σ S = some (.d (.int j), S') ∧ inR j = true ∧ xs = rngD 0 j := by
  simp only [evi, evs, Option.bind_eq_some_iff] at e
  obtain ⟨⟨rs, S1⟩, ⟨⟨x, S2⟩, e1, ⟨ys, S3⟩, e2, e3⟩, e⟩ := e
  cases e2; cases e3
  dsimp only at e
  split at e
  · rename_i j hj
    cases hj
    split at e
    · cases e; exact ⟨j, e1, by assumption, rfl⟩
    · cases e
  · rename_i hj; cases hj
  · cases e
theorem rng2_inv {σ : Ev} {S S' : Store} {xs : List D} {k : Option (Nat × List D)} (e : evi cf (.rng (.cons ia (.cons ib .nil))) σ S = some (xs, k, S')) : ∃ i j S1, ev cf ia σ S = some (.d (.int i), S1) ∧ ev cf ib σ S1 = some (.d (.int j), S') ∧ inR i = true ∧ inR j = true ∧ xs = rngD i j := by
  simp only [evi, evs, Option.bind_eq_some_iff] at e
  obtain ⟨⟨rs, S1⟩, ⟨⟨x, S2⟩, e1, ⟨ys, S3⟩, ⟨⟨y, S4⟩, e2, ⟨zs, S5⟩, e3, e4⟩, e5⟩, e⟩ := e
  cases e3; cases e4; cases e5
  dsimp only at e
  split at e
  · rename_i hj; cases hj
  · rename_i i j hj
    cases hj
    split at e
    · rename_i hr
      rw [Bool.and_eq_true] at hr
      cases e; exact ⟨i, j, S2, e1, e2, hr.1, hr.2, rfl⟩
    · cases e
  · cases e
theorem rgok {i j : Int} (h1 : inR i = true) (h2 : inR j = true) (h3 : (rngD i j).length ≤ LIM) : RgOk i j := by
  obtain ⟨a, b⟩ := inR_of h1
  obtain ⟨c, d⟩ := inR_of h2
  refine ⟨a, b, c, d, ?_⟩
  simp only [rngD, List.length_map, List.length_range] at h3
  exact h3
theorem se_lofR1 {p1 rp : Pos} (hc : X.calm = true) (hl : Gl X "list") (hml : X.mg "list" = none) (hg : Gl X "range") (hm : X.mg "range" = none) (ha : E X fa cf a ia) (na : starEach [a] X.env = (false, eval a X.env) :: starEach [] X.env)
    (nr : starEach [.Call (.Name "range" p1) [a] [] rp] X.env = (false, eval (.Call (.Name "range" p1) [a] [] rp) X.env) :: starEach [] X.env) : E X fa cf (.Call (.Name "list" p0) [.Call (.Name "range" p1) [a] [] rp] [] pos) (.lof (.rng (.cons ia .nil))) := by
  refine PE.imp (pe_listRg hc hl hml (prg_1 hg hm ha na) nr) fun σ H Z ⟨μ, M, S, σd, r, S', p, e, q⟩ => ?_
  simp only [ev, Option.bind_eq_some_iff] at e
  obtain ⟨⟨xs, k, S1⟩, e1, e⟩ := e
  obtain ⟨j, e2, h1, rfl⟩ := rng1_inv e1
  split at e
  · rename_i hlim
    cases e
    refine ⟨μ, M, S, σd, _, S1, p, e2, fun v H1 M1 g1 q1 => ⟨j, rr_int q1, rgok (by decide) h1 hlim, fun ad n => ?_⟩⟩
    obtain ⟨M', g, rr⟩ := Rs.go (fa := fa) g1 (.upd n) (Rs.lst g1.dom n (rg_pu (K := X.K) (i := 0) (j := j)))
    exact q _ _ M' g rr
  · cases e
theorem se_lofR2 {p1 rp : Pos} (hc : X.calm = true) (hl : Gl X "list") (hml : X.mg "list" = none) (hg : Gl X "range") (hm : X.mg "range" = none) (ha : E X fa cf a ia) (hb : E X fa cf b ib) (na : starEach [a, b] X.env = (false, eval a X.env) :: starEach [b] X.env) (nb : starEach [b] X.env = (false, eval b X.env) :: starEach [] X.env) (hpl : (backTo rp (starEach [b] X.env)).any (·.1) = false)
    (nr : starEach [.Call (.Name "range" p1) [a, b] [] rp] X.env = (false, eval (.Call (.Name "range" p1) [a, b] [] rp) X.env) :: starEach [] X.env) : E X fa cf (.Call (.Name "list" p0) [.Call (.Name "range" p1) [a, b] [] rp] [] pos) (.lof (.rng (.cons ia (.cons ib .nil)))) := by
  refine PE.imp (pe_listRg hc hl hml (prg_2 hg hm ha hb na nb hpl) nr) fun σ H Z ⟨μ, M, S, σd, r, S', p, e, q⟩ => ?_
  simp only [ev, Option.bind_eq_some_iff] at e
  obtain ⟨⟨xs, k, S1⟩, e1, e⟩ := e
  obtain ⟨i, j, S2, e2, e3, h1, h2, rfl⟩ := rng2_inv e1
  split at e
  · rename_i hlim
    cases e
    refine ⟨μ, M, S, σd, _, S2, p, e2, fun v H1 M1 g1 q1 => ⟨μ, M1, S2, σd, _, S1, g1.rp p, e3, fun w H2 M2 g2 q2 => ⟨i, j, rr_int q1, rr_int q2, rgok h1 h2 hlim, fun ad n => ?_⟩⟩⟩
    have g12 := g1.then g2
    obtain ⟨M', g, rr⟩ := Rs.go (fa := fa) g12 (.upd n) (Rs.lst g12.dom n (rg_pu (K := X.K) (i := i) (j := j)))
    exact q _ _ M' g rr
  · cases e
theorem se_tofR1 {p1 rp : Pos} (hc : X.calm = true) (hl : Gl X "tuple") (hml : X.mg "tuple" = none) (hg : Gl X "range") (hm : X.mg "range" = none) (ha : E X fa cf a ia) (na : starEach [a] X.env = (false, eval a X.env) :: starEach [] X.env)
    (nr : starEach [.Call (.Name "range" p1) [a] [] rp] X.env = (false, eval (.Call (.Name "range" p1) [a] [] rp) X.env) :: starEach [] X.env) : E X fa cf (.Call (.Name "tuple" p0) [.Call (.Name "range" p1) [a] [] rp] [] pos) (.tof (.rng (.cons ia .nil))) := by
  refine PE.imp (pe_tupRg hc hl hml (prg_1 hg hm ha na) nr) fun σ H Z ⟨μ, M, S, σd, r, S', p, e, q⟩ => ?_
  simp only [ev, Option.bind_eq_some_iff] at e
  obtain ⟨⟨xs, k, S1⟩, e1, e⟩ := e
  obtain ⟨j, e2, h1, rfl⟩ := rng1_inv e1
  split at e
  · rename_i hlim
    cases e
    refine ⟨μ, M, S, σd, _, S1, p, e2, fun v H1 M1 g1 q1 => ⟨j, rr_int q1, rgok (by decide) h1 hlim, fun ad n => ?_⟩⟩
    exact q _ _ M1 (g1.ext (.upd n)) (Rs.tup g1.dom n (rg_pu (K := X.K) (i := 0) (j := j)))
  · cases e
theorem se_tofR2 {p1 rp : Pos} (hc : X.calm = true) (hl : Gl X "tuple") (hml : X.mg "tuple" = none) (hg : Gl X "range") (hm : X.mg "range" = none) (ha : E X fa cf a ia) (hb : E X fa cf b ib) (na : starEach [a, b] X.env = (false, eval a X.env) :: starEach [b] X.env) (nb : starEach [b] X.env = (false, eval b X.env) :: starEach [] X.env) (hpl : (backTo rp (starEach [b] X.env)).any (·.1) = false)
    (nr : starEach [.Call (.Name "range" p1) [a, b] [] rp] X.env = (false, eval (.Call (.Name "range" p1) [a, b] [] rp) X.env) :: starEach [] X.env) : E X fa cf (.Call (.Name "tuple" p0) [.Call (.Name "range" p1) [a, b] [] rp] [] pos) (.tof (.rng (.cons ia (.cons ib .nil)))) := by
  refine PE.imp (pe_tupRg hc hl hml (prg_2 hg hm ha hb na nb hpl) nr) fun σ H Z ⟨μ, M, S, σd, r, S', p, e, q⟩ => ?_
  simp only [ev, Option.bind_eq_some_iff] at e
  obtain ⟨⟨xs, k, S1⟩, e1, e⟩ := e
  obtain ⟨i, j, S2, e2, e3, h1, h2, rfl⟩ := rng2_inv e1
  split at e
  · rename_i hlim
    cases e
    refine ⟨μ, M, S, σd, _, S2, p, e2, fun v H1 M1 g1 q1 => ⟨μ, M1, S2, σd, _, S1, g1.rp p, e3, fun w H2 M2 g2 q2 => ⟨i, j, rr_int q1, rr_int q2, rgok h1 h2 hlim, fun ad n => ?_⟩⟩⟩
    have g12 := g1.then g2
    exact q _ _ M2 (g12.ext (.upd n)) (Rs.tup g12.dom n (rg_pu (K := X.K) (i := i) (j := j)))
  · cases e
end
end Ip

set_option Elab.async false
set_option linter.all false
set_option maxRecDepth 100000
set_option maxHeartbeats 1000000
/-! Displays with stars, things turned round. -/
namespace Ip
open PySem PySem.Spec PyProof.Rows L2

/-- a list of expressions, some with a star, as data -/
def tLS (K : PySem.W.Frag) (fa : Nat → Addr) (cf : Cf) (is : IEs) (fl : List Bool) : TA := fun σ H Z => ∃ μ M S σd rs S' xs ys, Rp K fa μ H M S σd σ ∧ evs cf is σd S = some (rs, S') ∧ pures rs = some xs ∧ splice fl xs = some ys ∧
  ∀ vs H' M', Go K μ S.length H M H' M' S' → PuA K H' M vs ys → Z vs H'
section
variable {X : Cx} {fa : Nat → Addr} {cf : Cf} {a : Expr} {ia : IE} {es : List Expr} {is : IEs} {fl : List Bool} {pos p0 : Pos}
abbrev LS (X : Cx) (fa : Nat → Addr) (cf : Cf) (es : List Expr) (is : IEs) (fl : List Bool) : Prop := PA X es (tLS X.K fa cf is fl)
theorem sls_nil : LS X fa cf [] .nil [] := by
  refine PA.imp pa_nil fun σ H Z ⟨μ, M, S, σd, rs, S', xs, ys, p, e, e2, e3, q⟩ => ?_
  cases e; cases e2; cases e3
  exact q _ _ _ p.toRS.refl .nil
theorem sls_cons (ha : E X fa cf a ia) (hr : LS X fa cf es is fl) (hs : starEach (a :: es) X.env = (false, eval a X.env) :: starEach es X.env) : LS X fa cf (a :: es) (.cons ia is) (false :: fl) := by
  refine PA.imp (pa_cons ha hr hs) fun σ H Z ⟨μ, M, S, σd, rs, S', xs, ys, p, e, e2, e3, q⟩ => ?_
  simp only [evs, Option.bind_eq_some_iff] at e
  obtain ⟨⟨r, S1⟩, e4, ⟨rs', S2⟩, e5, e6⟩ := e
  cases e6
  simp only [pures, Option.bind_eq_some_iff] at e2
  obtain ⟨x, e7, xs', e8, e9⟩ := e2
  cases e9
  simp only [splice, Option.map_eq_some_iff] at e3
  obtain ⟨ys', e10, rfl⟩ := e3
  refine ⟨μ, M, S, σd, r, S1, p, e4, fun v H1 M1 g1 q1 => ?_⟩
  have gb := g1.base p.toRS
  have pv := q1.pure p.dom g1.mm e7
  refine ⟨μ, M, S1, σd, rs', _, xs', ys', gb.rp p, e5, e8, e10, fun vs H2 M2 g2 q2 => ?_⟩
  exact q _ _ M2 (gb.then g2) (.cons (Pu.mono (g2.keep (gb.rs p.toRS)) (fun _ _ _ z => z) pv) q2)
theorem sls_star {sp : Pos} (ha : E X fa cf a ia) (hr : LS X fa cf es is fl) (hs : starEach (.Starred a sp :: es) X.env = (true, eval a X.env) :: starEach es X.env) : LS X fa cf (.Starred a sp :: es) (.cons ia is) (true :: fl) := by
  refine PA.imp (StX.pa_star ha hr hs) fun σ H Z ⟨μ, M, S, σd, rs, S', xs, ys, p, e, e2, e3, q⟩ => ?_
  simp only [evs, Option.bind_eq_some_iff] at e
  obtain ⟨⟨r, S1⟩, e4, ⟨rs', S2⟩, e5, e6⟩ := e
  cases e6
  simp only [pures, Option.bind_eq_some_iff] at e2
  obtain ⟨x, e7, xs', e8, e9⟩ := e2
  cases e9
  obtain ⟨zs, ys', ex, e10, rfl⟩ : ∃ zs ys', (x = .tuple zs ∨ x = .list zs) ∧ splice fl xs' = some ys' ∧ ys = zs ++ ys' := by
    cases x with
    | tuple zs =>
      simp only [splice, Option.map_eq_some_iff] at e3
      obtain ⟨ys', h, rfl⟩ := e3
      exact ⟨zs, ys', .inl rfl, h, rfl⟩
    | list zs =>
      simp only [splice, Option.map_eq_some_iff] at e3
      obtain ⟨ys', h, rfl⟩ := e3
      exact ⟨zs, ys', .inr rfl, h, rfl⟩
    | _ => simp [splice] at e3
  refine ⟨μ, M, S, σd, r, S1, p, e4, fun v H1 M1 g1 q1 => ?_⟩
  have gb := g1.base p.toRS
  have pv := q1.pure p.dom g1.mm e7
  have key : ∃ ad vs, v = .ref ad ∧ (SqT X.K H1 ad vs ∨ SqL X.K H1 ad vs) ∧ PuA X.K H1 M vs zs := by
    rcases ex with rfl | rfl
    · obtain ⟨ad, vs, h1, h2, h3⟩ := pv.tuple; exact ⟨ad, vs, h1, .inl h2, h3⟩
    · obtain ⟨ad, vs, h1, h2, h3⟩ := pv.va.list; exact ⟨ad, vs, h1, .inr h2, h3⟩
  obtain ⟨ad, vs, h1, h2, h3⟩ := key
  refine ⟨ad, vs, h1, h2, μ, M, S1, σd, rs', _, xs', ys', gb.rp p, e5, e8, e10, fun ws H2 M2 g2 q2 => ?_⟩
  exact q _ _ M2 (gb.then g2) ((h3.mono (g2.keep (gb.rs p.toRS)) (fun _ _ _ z => z)).append q2)
theorem se_tups {k : Nat} (h : LS X fa cf es is fl) : E X fa cf (.Tuple es k pos) (.tups fl is) := by
  refine PE.imp (pe_tup h) fun σ H Z ⟨μ, M, S, σd, r, S', p, e, q⟩ => ?_
  simp only [ev, Option.bind_eq_some_iff] at e
  obtain ⟨⟨rs, S1⟩, e1, xs, e2, ys, e3, e⟩ := e
  split at e
  · rename_i hl
    cases e
    refine ⟨μ, M, S, σd, rs, S1, xs, ys, p, e1, e2, e3, fun vs H1 M1 g1 pa => ⟨by rw [pa.length]; exact lim_line hl, fun ad n => ?_⟩⟩
    have gb := g1.base p.toRS
    exact q _ _ M (gb.ext (.upd n)) (Rs.tup gb.dom n pa)
  · cases e
theorem se_lsts (h : LS X fa cf es is fl) : E X fa cf (.List es pos) (.lsts fl is) := by
  refine PE.imp (pe_lst h) fun σ H Z ⟨μ, M, S, σd, r, S', p, e, q⟩ => ?_
  simp only [ev, Option.bind_eq_some_iff] at e
  obtain ⟨⟨rs, S1⟩, e1, xs, e2, ys, e3, e⟩ := e
  split at e
  · rename_i hl
    cases e
    refine ⟨μ, M, S, σd, rs, S1, xs, ys, p, e1, e2, e3, fun vs H1 M1 g1 pa => ⟨by rw [pa.length]; exact lim_line hl, fun ad n => ?_⟩⟩
    have gb := g1.base p.toRS
    obtain ⟨M', g, rr⟩ := Rs.go (fa := fa) gb (.upd n) (Rs.lst gb.dom n pa)
    exact q _ _ M' g rr
  · cases e
end
end Ip

set_option Elab.async false
set_option linter.all false
set_option maxRecDepth 100000
set_option maxHeartbeats 1000000
/-! x[::-1]. -/
namespace Ip
open PySem PySem.Spec PyProof.Rows L2

section
variable {prog : Program} {w : World} {A : Around} {E : Value → Shared → Prop} {s : Shared}
theorem applied_rev {sl : Addr} {vl vu vs : Value} {n : Nat} {Q : Int × Int × Nat → Shared → Prop} (hs : s.heap.IsSliceOf sl vl vu vs) (pl : IsPart vl none) (pu : IsPart vu none) (ps : IsPart vs (some (-1)))
    (h : Q ((n : Int) - 1, -1, n) s) : wpAny (model prog w) A (Builtin.Slice.sliceApplied (.ref sl) (pure (n : Int))) Q E s := by
  obtain ⟨os, hos, hcs, hds⟩ := id hs
  unfold Builtin.Slice.sliceApplied Builtin.Slice.sliceFields
  refine wpAny_bind (wpAny_bind (wpAny_field hos hds (x := vl) rfl (wpAny_bind (wpAny_field hos hds (x := vu) rfl (wpAny_bind (wpAny_field hos hds (x := vs) rfl (wpAny_pure ?_)))))))
  refine wpAny_bind (HT.slicePart_ ps ?_)
  show wpAny _ _ (if ((-1 : Int) == 0) = true then _ else _) _ _ s
  rw [if_neg (by decide)]
  refine wpAny_bind (HT.slicePart_ pl (wpAny_bind (HT.slicePart_ pu (wpAny_bind (wpAny_pure ?_)))))
  show wpAny _ _ (pure ((n : Int) - 1, (-1 : Int), Builtin.Slice.slicePlaces ((n : Int) - 1) (-1) (-1))) _ _ s
  have e : Builtin.Slice.slicePlaces ((n : Int) - 1) (-1) (-1) = n := by
    unfold Builtin.Slice.slicePlaces
    rw [if_neg (by decide)]
    have : (-(-1 : Int)) = 1 := by decide
    rw [this, Int.ediv_one]
    split <;> omega
  rw [e]
  exact wpAny_pure h
theorem pick_rev (xs : Array Value) : ((List.range xs.size).filterMap fun (m : Nat) => xs[((xs.size : Int) - 1 + (m : Int) * (-1)).toNat]?).toArray = xs.toList.reverse.toArray := by
  have e : (fun (m : Nat) => xs[((xs.size : Int) - 1 + (m : Int) * (-1)).toNat]?) = fun m => xs[xs.size - 1 - m]? := by
    funext m
    congr 1; omega
  rw [e]
  have h1 : ((List.range xs.size).map fun k => xs.size - 1 - k).filterMap (xs[·]?) = (List.range xs.size).reverse.filterMap (xs[·]?) := by rw [PySem.W.krv_range]
  rw [List.filterMap_map, List.filterMap_reverse, PySem.W.krv_all] at h1
  exact congrArg List.toArray h1
theorem getItem_tuple_rev {t sl : Addr} {items : Array Value} {vl vu vs : Value} {Q : Value → Shared → Prop} (ht : IsTup s.heap t items) (hs : s.heap.IsSliceOf sl vl vu vs) (pl : IsPart vl none) (pu : IsPart vu none) (ps : IsPart vs (some (-1)))
    (h : Q (.ref s.heap.objs.size) { s with heap := s.heap.push { cls := .type "tuple", data := .seq items.toList.reverse.toArray } }) (hsz : items.size ≤ sizeLine) : wpAny (model prog w) A (getItem (.ref t) (.ref sl)) Q E s := by
  have htake : sizeOk (.seq items.toList.reverse.toArray) := by
    show items.toList.reverse.toArray.size ≤ sizeLine
    simpa using hsz
  obtain ⟨os, hos, hcs, hds⟩ := id hs
  have hTs : s.TypeIs (.ref sl) "slice" := ⟨os, hos, hcs⟩
  unfold getItem
  try with_reducible refine wpAny_holding ?_
  first | refine wpAny_bind (wpAny_pure ?_) | skip
  refine wpAny_bind (wpAny_sequenceKey ht.typeIs (by decide) ?_)
  refine wpAny_bind (wpAny_callSpecial?_slot (name := Str.ofString "__getitem__") ht.typeIs PyProof.Rows.slot_tuple_getitem
    (wpAny_call_entry PyProof.Rows.slot_tuple_getitem ht.typeIs entry_tuple_getitem ?_ (args_tuple_getitem _ _)))
  show wpAny _ _ (Builtin.Tuple.tupleItemsOf (.ref t) >>= _) _ _ s
  refine wpAny_bind (tupleItemsOf_ ht ?_)
  refine wpAny_bind (wpAny_typeOf hTs ?_)
  rw [if_pos (by decide)]
  refine wpAny_bind (applied_rev hs pl pu ps ?_)
  show wpAny _ _ (if (((items.size : Int) - 1) == 0 && (-1 : Int) == 1 && items.size == items.size) = true then _ else _) _ _ s
  rw [if_neg (by simp), pick_rev]
  first
    | exact wpAny_bind (m := Builtin.Tuple.tupleExact _) (wpAny_newObj_type (wpAny_pure ⟨_, rfl, wpAny_pure h⟩) htake)
    | exact wpAny_bind (m := Builtin.Tuple.tupleExact _) (wpAny_newObj_type (wpAny_bind (wpAny_pure (wpAny_pure ⟨_, rfl, wpAny_pure h⟩))) htake)
    | exact wpAny_bind (wpAny_bind (m := Builtin.Tuple.tupleExact _) (wpAny_newObj_type (wpAny_pure (wpAny_pure ⟨_, rfl, wpAny_pure h⟩)) htake))
    | exact wpAny_bind (wpAny_bind (m := Builtin.Tuple.tupleExact _) (wpAny_newObj_type (wpAny_pure ⟨_, rfl, wpAny_pure h⟩) htake))
end
def tRevT (K : PySem.W.Frag) (te : TE) : TE := fun σ H Q => te σ H fun x H1 => ∃ a xs, x = .ref a ∧ SqT K H1 a xs ∧ ∀ p, H1 p = none → Q (.ref p) (upd H1 p (.tup xs.reverse))
section
variable {X : Cx}
theorem pe_revT {e : Expr} {te : TE} {k : Nat} {p1 p2 p3 pos : Pos} (he : PE X e te) : PE X (.Subscript e (.Slice none none (some (.UnaryOp .USub (.Constant (.int 1) k p1) p2)) p3) pos) (tRevT X.K te) := by
  refine ⟨fun pins s σ H Q I h => ?_⟩
  refine Subscript_ (thn (he.run pins s σ H _ I h) fun v s1 ⟨x, H1, I1, r1, q1⟩ => ?_)
  obtain ⟨a, xs, ex, hx, q⟩ := q1
  subst ex
  cases r1
  have hst : PO X (some (.UnaryOp .USub (.Constant (.int 1) k p1) p2)) (tPart (tUn (rU fun i => .int (-i)) (tC (.int 1)))) := po_some (pe_un un_neg pe_int)
  refine wpAny_Slice (thn (po_none.run pins s1 σ H1 (fun o H2 => o = none ∧ H2 = H1) I1 ⟨rfl, rfl⟩) fun vl s2 ⟨l, H2, I2, pl, el, e2⟩ => ?_)
  subst el e2
  refine thn (po_none.run pins s2 σ H2 (fun o H3 => o = none ∧ H3 = H2) I2 ⟨rfl, rfl⟩) fun vu s3 ⟨u, H3, I3, pu, eu, e3⟩ => ?_
  subst eu e3
  refine thn (hst.run pins s3 σ H3 (fun o H4 => o = some (-1) ∧ H4 = H3) I3 ⟨1, rfl, -1, rfl, rfl, rfl⟩) fun vs s4 ⟨o, H4, I4, ps, eo, e4⟩ => ?_
  subst eo e4
  have I5 : L2.Inv X pins σ H4 { s4 with heap := s4.heap.push { cls := .type "slice", data := .fields #[vl, vu, vs] } } := I4.kept (t' := s4.toks) fun b ob q => Heap.get?_push_of_some _ q
  obtain ⟨its, r, ht, hz⟩ := I5.tuple hx
  have hlen := r.length
  show wpAny (model X.prog X.w) X.A (subscriptTail e (.Slice none none (some (.UnaryOp .USub (.Constant (.int 1) k p1) p2)) p3) (.ref a) (.ref s4.heap.objs.size)) (EP X pins σ Q) X.xe { s4 with heap := s4.heap.push { cls := .type "slice", data := .fields #[vl, vu, vs] } }
  refine tail_any (ops := [.ref a, .ref s4.heap.objs.size]) ht.typeIs (PyProof.Rows.slot_tuple_getitem.lookup) ?_ (by with_unfolding_all rfl)
  refine getItem_tuple_rev ht (Heap.IsSliceOf.new _ vl vu vs) pl pu ps ?_ (by rw [List.size_toArray]; omega)
  refine ⟨.ref _, _, I5.laid (t' := s4.toks) (o := .tup xs.reverse) (fun b ob q => Heap.get?_push_of_some _ q) (Nat.le_refl _) ?_, rfl, q _ (I5.hok.fresh (Nat.le_refl _))⟩
  exact ⟨by rw [List.length_reverse]; exact hz, _, r.reverse, ⟨_, Heap.get?_push_size _ rfl, rfl, _, rfl⟩⟩
end
section
variable {X : Cx} {fa : Nat → Addr} {cf : Cf} {a : Expr} {ia : IE} {pos p1 p2 p3 : Pos} {k : Nat}
theorem se_rev (ha : E X fa cf a ia) : E X fa cf (.Subscript a (.Slice none none (some (.UnaryOp .USub (.Constant (.int 1) k p1) p2)) p3) pos) (.rev ia) := by
  refine ⟨fun pins s σ H Z I hz => ?_⟩
  obtain ⟨μ, M, S, σd, r, S', p, e, q⟩ := hz
  simp only [ev, Option.bind_eq_some_iff] at e
  obtain ⟨⟨x, S1⟩, e1, u, e2, e⟩ := e
  split at e
  · rename_i xs
    cases e
    refine (pe_revL ha).run pins s σ H Z I ⟨μ, M, S, σd, x, S1, p, e1, fun v H1 M1 g1 q1 => ?_⟩
    obtain ⟨ad, vs, rfl, hs, pa⟩ := (q1.va (g1.rs p.toRS) e2).list
    refine ⟨ad, vs, rfl, hs, fun b n => ?_⟩
    obtain ⟨M', g, rr⟩ := Rs.go (fa := fa) g1 (.upd n) (Rs.lst g1.dom n pa.reverse)
    exact q _ _ M' g rr
  · rename_i xs
    cases e
    refine (pe_revT ha).run pins s σ H Z I ⟨μ, M, S, σd, x, S1, p, e1, fun v H1 M1 g1 q1 => ?_⟩
    obtain ⟨ad, vs, rfl, hs, pa⟩ := (q1.va (g1.rs p.toRS) e2).tuple
    exact ⟨ad, vs, rfl, hs, fun b n => q _ _ M1 (g1.ext (.upd n)) (Rs.tup g1.dom n pa.reverse)⟩
  · cases e
end
end Ip

set_option Elab.async false
set_option linter.all false
set_option maxRecDepth 100000
set_option maxHeartbeats 1000000
/-! sorted(set(xs)), len(set(xs)). -/
namespace Ip
open PySem PySem.Spec PyProof.Rows L2
theorem insU_mem {n x : Int} : ∀ {l : List Int}, x ∈ insU n l ↔ x = n ∨ x ∈ l
  | [] => by simp [insU]
  | m :: r => by
    unfold insU
    split
    · simp
    · split
      · rename_i h; subst h; simp
      · simp only [List.mem_cons, insU_mem (l := r)]
        constructor
        · rintro (h | h | h) <;> simp [h]
        · rintro (h | h | h) <;> simp [h]
theorem uniqI_mem {x : Int} : ∀ {l : List Int}, x ∈ uniqI l ↔ x ∈ l
  | [] => by simp [uniqI]
  | m :: r => by simp [uniqI, insU_mem, uniqI_mem (l := r)]
theorem insU_asc {n : Int} : ∀ {l : List Int}, l.Pairwise (· < ·) → (insU n l).Pairwise (· < ·)
  | [], _ => by simp [insU]
  | m :: r, h => by
    obtain ⟨h1, h2⟩ := List.pairwise_cons.mp h
    unfold insU
    split
    · rename_i c
      refine List.pairwise_cons.mpr ⟨fun y hy => ?_, h⟩
      rcases List.mem_cons.mp hy with rfl | hy
      · exact c
      · have := h1 y hy; omega
    · split
      · exact h
      · refine List.pairwise_cons.mpr ⟨fun y hy => ?_, insU_asc h2⟩
        rcases insU_mem.mp hy with rfl | hy
        · omega
        · exact h1 y hy
theorem uniqI_asc : ∀ l : List Int, (uniqI l).Pairwise (· < ·)
  | [] => .nil
  | m :: r => insU_asc (uniqI_asc r)
theorem asc_eq : ∀ {l l' : List Int}, l.Pairwise (· < ·) → l'.Pairwise (· < ·) → (∀ k, k ∈ l ↔ k ∈ l') → l = l'
  | [], [], _, _, _ => rfl
  | [], y :: l', _, _, h => by have := (h y).mpr (List.mem_cons_self ..); cases this
  | x :: l, [], _, _, h => by have := (h x).mp (List.mem_cons_self ..); cases this
  | x :: l, y :: l', a, b, h => by
    obtain ⟨a1, a2⟩ := List.pairwise_cons.mp a
    obtain ⟨b1, b2⟩ := List.pairwise_cons.mp b
    have e : x = y := by
      rcases List.mem_cons.mp ((h x).mp (List.mem_cons_self ..)) with e | hx
      · exact e
      · rcases List.mem_cons.mp ((h y).mpr (List.mem_cons_self ..)) with e | hy
        · exact e.symm
        · have := a1 y hy; have := b1 x hx; omega
    subst e
    rw [asc_eq a2 b2 fun k => ?_]
    have hk := h k
    simp only [List.mem_cons] at hk
    constructor
    · intro q
      rcases hk.mp (.inr q) with e | q'
      · subst e; have := a1 k q; omega
      · exact q'
    · intro q
      rcases hk.mpr (.inr q) with e | q'
      · subst e; have := b1 k q; omega
      · exact q'
theorem asc_len {l l' : List Int} (a : l.Nodup) (b : l'.Nodup) (h : ∀ k, k ∈ l ↔ k ∈ l') : l.length = l'.length := by
  have key : ∀ {l l' : List Int}, l.Nodup → (∀ k, k ∈ l → k ∈ l') → l.length ≤ l'.length := by
    intro l
    induction l with
    | nil => intro l' _ _; simp
    | cons x l ih =>
      intro l' nd hs
      obtain ⟨n1, n2⟩ := List.nodup_cons.mp nd
      have hx := hs x (List.mem_cons_self ..)
      have := ih (l' := l'.erase x) n2 fun k hk => by
        have : k ≠ x := fun e => n1 (e ▸ hk)
        exact (List.mem_erase_of_ne this).mpr (hs k (List.mem_cons_of_mem _ hk))
      rw [List.length_erase_of_mem hx] at this
      have : 0 < l'.length := List.length_pos_of_mem hx
      simp only [List.length_cons]; omega
  exact Nat.le_antisymm (key a fun k => (h k).mp) (key b fun k => (h k).mpr)
/-- the set of these -/
def tSetI (K : PySem.W.Frag) (te : TE) (R : List Int → Hp → VK → Prop) : TE := fun σ H Q => te σ H fun x H1 => ∃ (l : Addr) (ns : List Int), x = .ref l ∧ (SqL K H1 l (ns.map V.int) ∨ SqT K H1 l (ns.map V.int)) ∧ ns.length ≤ 4000 ∧ (uniqI ns).length < 64 ∧ R (uniqI ns) H1 Q
section
variable {X : Cx} {a : Expr} {ta : TE} {p p2 q pos : Pos}
theorem set_size {w : World} {g : Heap} {d : Addr} {ns : List Int} {c : Nat} (R : SetR w g d (fun j => decide (j ∈ ns)) c) : c = (uniqI ns).length := by
  obtain ⟨o, es, ep, t, _, _, _, _, nd, hm, _, _, hn, _⟩ := R
  rw [← hn, ← Array.length_toList, ← List.length_map (f := keyOf)]
  refine asc_len nd ((uniqI_asc ns).imp fun h => by omega) fun k => ?_
  rw [← hm k, uniqI_mem]; simp
theorem pe_lset (calm : X.calm = true) (hg : Gl X "len") (hm : X.mg "len" = none) (hg2 : Gl X "set") (hm2 : X.mg "set" = none) (ha : PE X a ta) (na : starEach [a] X.env = (false, eval a X.env) :: starEach [] X.env)
    (ns0 : starEach [.Call (.Name "set" p2) [a] [] q] X.env = (false, eval (.Call (.Name "set" p2) [a] [] q) X.env) :: starEach [] X.env) :
    PE X (.Call (.Name "len" p) [.Call (.Name "set" p2) [a] [] q] [] pos) (tSetI X.K ta fun us H Q => Q (.int us.length) H) := by
  refine ⟨fun pins s σ H Q I h => ?_⟩
  refine Call_ (ld_blt I hg hm boot_len ?_)
  refine callWith_builtin1 (args_cons ?_ ns0) ns0 rfl
  refine Call_ (ld_blt I hg2 hm2 boot_set ?_)
  refine callWith_type1 (args_cons (thn (ha.run pins s σ H _ I h) fun v s1 ⟨x, H1, I1, r1, q1⟩ => args_nil ?_) na) na rfl
  obtain ⟨l, ns, rfl, hq, few, f64, q1⟩ := q1
  cases r1
  obtain ⟨us, r, pl, hz⟩ := I1.sq hq
  refine set_sqI ns (I1.ok.hd calm) pl r.ints (by unfold scanBound; omega) fun g tk c hR _ kp => ?_
  apply args_nil
  have hc := set_size hR
  obtain ⟨o, es, ep, t, h0, hex, hd, _, _, _, _, hf, hn, _⟩ := hR
  have I2 : Inv X pins σ H1 { s1 with heap := g, toks := tk } := I1.kept kp
  exact call_len_set h0 hex hd hf (by rw [hn, hc]; omega) ⟨.int (uniqI ns).length, H1, I2.tok _, ⟨_, by rw [hn, hc]⟩, q1⟩
theorem pe_sset (calm : X.calm = true) (hg : Gl X "sorted") (hm : X.mg "sorted" = none) (hg2 : Gl X "set") (hm2 : X.mg "set" = none) (ha : PE X a ta) (na : starEach [a] X.env = (false, eval a X.env) :: starEach [] X.env)
    (ns0 : starEach [.Call (.Name "set" p2) [a] [] q] X.env = (false, eval (.Call (.Name "set" p2) [a] [] q) X.env) :: starEach [] X.env) :
    PE X (.Call (.Name "sorted" p) [.Call (.Name "set" p2) [a] [] q] [] pos) (tSetI X.K ta fun us H Q => ∀ d, H d = none → Q (.ref d) (upd H d (.lst (us.map V.int)))) := by
  refine ⟨fun pins s σ H Q I h => ?_⟩
  refine Call_ (ld_blt I hg hm boot_sorted ?_)
  refine callWith_builtin1 (args_cons ?_ ns0) ns0 rfl
  refine Call_ (ld_blt I hg2 hm2 boot_set ?_)
  refine callWith_type1 (args_cons (thn (ha.run pins s σ H _ I h) fun v s1 ⟨x, H1, I1, r1, q1⟩ => args_nil ?_) na) na rfl
  obtain ⟨l, ns, rfl, hq, few, f64, q1⟩ := q1
  cases r1
  obtain ⟨us, r, pl, hz⟩ := I1.sq hq
  refine set_sqI ns (I1.ok.hd calm) pl r.ints (by unfold scanBound; omega) fun g tk c hR _ kp => ?_
  apply args_nil
  have hc := set_size hR
  have I2 : Inv X pins σ H1 { s1 with heap := g, toks := tk } := I1.kept kp
  have hR : SetR X.w ({ s1 with heap := g, toks := tk } : Shared).heap s1.heap.objs.size (fun j => decide (j ∈ ns)) c := hR
  generalize ({ s1 with heap := g, toks := tk } : Shared) = s2 at I2 hR ⊢
  refine sorted_set hR (I1.ok.hd calm) (by rw [hc]; exact f64) fun s' d out k ms kk eg eo hd hat hi asc mem hl => ?_
  have em : ms = uniqI ns := asc_eq asc (uniqI_asc ns) fun z => by rw [mem z, uniqI_mem]; simp
  subst em
  have room : ((uniqI ns).map V.int).length ≤ sizeLine := by rw [List.length_map, sizeLine_eq]; omega
  have fresh : H1 d = none := I2.hok.fresh hd
  have J : Inv X pins σ (upd H1 d (.lst ((uniqI ns).map V.int))) { s2 with heap := s'.heap, gens := s'.gens, drawn := s'.drawn, toks := s'.toks } :=
    I2.call (ch := []) (Un.laid kk hd fresh) (I2.hok.laid kk hd ⟨room, out.toList, k, vals_of_ints hi, hat⟩) (by rw [eg]; exact I2.bare) (fun _ z => nomatch z)
  have es : s' = { s2 with heap := s'.heap, gens := s'.gens, drawn := s'.drawn, toks := s'.toks } := by
    cases s'
    cases s2
    cases eo
    rfl
  rw [es]
  exact ⟨.ref d, _, J, rfl, q1 d fresh⟩
end
section
variable {X : Cx} {fa : Nat → Addr} {cf : Cf} {a : Expr} {ia : IE} {pos p p2 q : Pos}
theorem ssI_some {b : Bool} {ns : List Int} {r : Ip.R} (h : ssI b ns = some r) : (uniqI ns).length < 64 ∧ ns.length ≤ 4000 ∧ r = (if b then .d (.int (uniqI ns).length) else .f (.list ((uniqI ns).map .int))) := by
  unfold ssI at h
  split at h
  · rename_i c
    rw [Bool.and_eq_true, decide_eq_true_eq, decide_eq_true_eq] at c
    exact ⟨c.1, c.2, (Option.some.inj h).symm⟩
  · cases h
theorem sset_va {K : PySem.W.Frag} {H : Hp} {M : Mk} {v : V} {u : D} {b : Bool} {r : Ip.R} (pv : Va K H M v u) (e : ssetD b u = some r) : ∃ l ns, v = .ref l ∧ (SqL K H l (ns.map V.int) ∨ SqT K H l (ns.map V.int)) ∧ ssI b ns = some r := by
  unfold ssetD at e
  split at e
  · simp only [Option.bind_eq_some_iff] at e
    obtain ⟨ns, e1, e2⟩ := e
    obtain ⟨l, vs, rfl, hs, pa⟩ := pv.list
    rw [pa.ints_inv e1] at hs
    exact ⟨l, ns, rfl, .inl hs, e2⟩
  · simp only [Option.bind_eq_some_iff] at e
    obtain ⟨ns, e1, e2⟩ := e
    obtain ⟨l, vs, rfl, hs, pa⟩ := pv.tuple
    rw [pa.ints_inv e1] at hs
    exact ⟨l, ns, rfl, .inr hs, e2⟩
  · cases e
theorem se_lset (calm : X.calm = true) (hg : Gl X "len") (hm : X.mg "len" = none) (hg2 : Gl X "set") (hm2 : X.mg "set" = none) (ha : E X fa cf a ia) (na : starEach [a] X.env = (false, eval a X.env) :: starEach [] X.env)
    (ns0 : starEach [.Call (.Name "set" p2) [a] [] q] X.env = (false, eval (.Call (.Name "set" p2) [a] [] q) X.env) :: starEach [] X.env) : E X fa cf (.Call (.Name "len" p) [.Call (.Name "set" p2) [a] [] q] [] pos) (.sset true ia) := by
  refine PE.imp (pe_lset calm hg hm hg2 hm2 ha na ns0) fun σ H Z ⟨μ, M, S, σd, r, S', p, e, q⟩ => ?_
  simp only [ev, Option.bind_eq_some_iff] at e
  obtain ⟨⟨x, S1⟩, e1, u, e2, r1, e3, e4⟩ := e
  cases e4
  refine ⟨μ, M, S, σd, x, S1, p, e1, fun v H1 M1 g1 q1 => ?_⟩
  obtain ⟨l, ns, rfl, hs, hr⟩ := sset_va (q1.va (g1.rs p.toRS) e2) e3
  obtain ⟨h1, h2, rfl⟩ := ssI_some hr
  exact ⟨l, ns, rfl, hs, h2, h1, q _ _ M1 g1 (.int _)⟩
theorem se_sset (calm : X.calm = true) (hg : Gl X "sorted") (hm : X.mg "sorted" = none) (hg2 : Gl X "set") (hm2 : X.mg "set" = none) (ha : E X fa cf a ia) (na : starEach [a] X.env = (false, eval a X.env) :: starEach [] X.env)
    (ns0 : starEach [.Call (.Name "set" p2) [a] [] q] X.env = (false, eval (.Call (.Name "set" p2) [a] [] q) X.env) :: starEach [] X.env) : E X fa cf (.Call (.Name "sorted" p) [.Call (.Name "set" p2) [a] [] q] [] pos) (.sset false ia) := by
  refine PE.imp (pe_sset calm hg hm hg2 hm2 ha na ns0) fun σ H Z ⟨μ, M, S, σd, r, S', p, e, q⟩ => ?_
  simp only [ev, Option.bind_eq_some_iff] at e
  obtain ⟨⟨x, S1⟩, e1, u, e2, r1, e3, e4⟩ := e
  cases e4
  refine ⟨μ, M, S, σd, x, S1, p, e1, fun v H1 M1 g1 q1 => ?_⟩
  obtain ⟨l, ns, rfl, hs, hr⟩ := sset_va (q1.va (g1.rs p.toRS) e2) e3
  obtain ⟨h1, h2, rfl⟩ := ssI_some hr
  refine ⟨l, ns, rfl, hs, h2, h1, fun d n => ?_⟩
  obtain ⟨M', g, rr⟩ := Rs.go (fa := fa) g1 (.upd n) (Rs.lst g1.dom n (PuA.ints (uniqI ns)))
  exact q _ _ M' g rr
end
end Ip

set_option Elab.async false
set_option linter.all false
set_option maxRecDepth 100000
set_option maxHeartbeats 1000000
/-! {k: v for ..}, {}. -/
namespace Ip
open PySem PySem.Spec PyProof.Rows L2
theorem foldl_none {β : Type} : ∀ (ys : List β) (f : Option (List (D × D)) → β → Option (List (D × D))), (∀ y, f none y = none) → ys.foldl f none = none
  | [], _, _ => rfl
  | y :: ys, f, h => by rw [List.foldl_cons, h, foldl_none ys f h]
theorem dictOf_snoc (t : Bool) (ys : List D) (k v : D) : dictOf t (ys ++ [.tuple [k, v]]) = (dictOf t ys).bind fun ds => dictPut ds k v := by
  unfold dictOf
  rw [List.foldl_append]; rfl
theorem dictOf_pre {t : Bool} {ys zs : List D} {ds : List (D × D)} (h : dictOf t (ys ++ zs) = some ds) : ∃ es, dictOf t ys = some es := by
  unfold dictOf at h ⊢
  rw [List.foldl_append] at h
  cases e : ys.foldl dcStep (some (dict0 t)) with
  | none => rw [e, foldl_none _ _ fun _ => rfl] at h; cases h
  | some es => exact ⟨es, rfl⟩
/-- the new dict at D holds these pairs -/
structure DcI (K : PySem.W.Frag) (μ : Nat → Addr) (n : Nat) (H0 : Hp) (M0 : Mk) (Dl : Addr) (t : Bool) (acc : List D) (H : Hp) (M : Mk) (S : Store) : Prop where
  go : Go K μ n H0 M0 H M S
  md : M Dl
  nw : H0 Dl = none
  ct : ∃ ds, dictOf t acc = some ds ∧ Ct K H M Dl (.dict ds)
section
variable {K : PySem.W.Frag} {fa μ : Nat → Addr} {n : Nat} {H0 Ha H H1 H2 H' : Hp} {M0 Ma M M1 M2 M' : Mk} {S0 S S1 S2 S3 S' : Store} {σd : Ev} {σ : L2.St} {v : V} {d : D} {Dl : Addr} {t : Bool} {acc ys : List D} {cf : Cf}
theorem DcI.ne (I : DcI K μ S0.length H0 M0 Dl t acc H M S) (p : RS K μ H0 M0 S0) : ∀ k, k < S0.length → Dl ≠ μ k := fun k hk z => (p.dom _ (p.mu hk)).1 (z ▸ I.nw)
theorem DcI.step (I : DcI K μ S0.length H0 M0 Dl t acc H M S) (p : RS K μ H0 M0 S0) (g : Go K μ S.length H M H' M' S') : DcI K μ S0.length H0 M0 Dl t acc H' M' S' :=
  let ⟨ds, e, c⟩ := I.ct
  ⟨I.go.then g, g.mm _ I.md, I.nw, ds, e, c.mono (g.keep (I.go.rs p)) g.old fun o e => g.fr _ o e fun k hk => I.ne p k (by rw [← I.go.ln]; exact hk)⟩
theorem DcI.base (I : DcI K μ S0.length H0 M0 Dl t acc H M S) (p : RS K μ H0 M0 S0) (g : Go K μ S.length H M H' M' S') : DcI K μ S0.length H0 M0 Dl t acc H' M S' := I.step p (g.base (I.go.rs p))
theorem DcI.ext (I : DcI K μ S0.length H0 M0 Dl t acc H M S) (x : Ext H H') : DcI K μ S0.length H0 M0 Dl t acc H' M S :=
  let ⟨ds, e, c⟩ := I.ct
  ⟨I.go.ext x, I.md, I.nw, ds, e, c.mono (fun b o e _ => x b o e) (fun _ _ _ z => z) fun o e => x _ o e⟩
theorem DcI.put (I : DcI K μ S0.length H0 M0 Dl t acc H M S) (p : RS K μ H0 M0 S0) {y z : V} {k x : D} (pk : Pu K H M y k) (px : Pu K H M z x) (ok : ∃ ds, dictOf t (acc ++ [.tuple [k, x]]) = some ds) :
    ∃ o, DPut H Dl y z (upd H Dl o) ∧ DcI K μ S0.length H0 M0 Dl t (acc ++ [.tuple [k, x]]) (upd H Dl o) M S := by
  obtain ⟨ds, e, c⟩ := I.ct
  obtain ⟨ds', e'⟩ := ok
  have e2 := e'
  rw [dictOf_snoc, e, Option.bind_some] at e2
  obtain ⟨o, g, h⟩ := dict_put c pk.va px e2
  have kp : Kp H M (upd H Dl o) M := kp_upd I.md
  refine ⟨o, g, ⟨I.go.mm, I.go.new, fun b z => ?_, fun b u e2 k => ?_, fun b z => ?_, fun b u w e2 => by rw [upd_ne (fun z => by rw [z, I.nw] at e2; cases e2)]; exact I.go.fz b u w e2, I.go.ln, fun k x e2 => ?_⟩, I.md, I.nw, ds', e', h _ kp.kp upd_same⟩
  · by_cases h3 : b = Dl
    · have hc := h _ kp.kp upd_same
      rw [h3]; exact ⟨hc.dom, hc.nt⟩
    · rw [upd_ne h3]; exact I.go.dom b z
  · rw [upd_ne (fun z => by rw [z, I.nw] at e2; cases e2)]; exact I.go.fr b u e2 k
  · by_cases h : b = Dl
    · rw [h, upd_same]; simp
    · rw [upd_ne h]; exact I.go.dm b z
  · obtain ⟨h1, h2⟩ := I.go.st k x e2
    refine ⟨h1, h2.mono kp.kp kp.old fun o e3 => ?_⟩
    rw [upd_ne (Ne.symm (I.ne p k (by rw [← I.go.ln]; exact (List.getElem?_eq_some_iff.mp e2).1)))]
    exact e3
/-- the loop -/
theorem dc_loop {J : L2.It} {xs : List D} {k : Option (Nat × List D)} {f : D → Store → Option (List D × Store)} {Fin : Hp → Prop} {turn : V → Hp → (Hp → Prop) → Prop} (p : RS K μ H0 M0 S0) (w : Walk K J xs k μ H1 M1)
    (I : DcI K μ S0.length H0 M0 Dl t acc Ha Ma S1) (kp : Kp H1 M1 Ha Ma) (e : lpC k f xs S1 = some (ys, S2)) (ok : ∃ ds, dictOf t (acc ++ ys) = some ds)
    (hturn : ∀ acc' x zs H M S S', DcI K μ S0.length H0 M0 Dl t acc' H M S → Kp H1 M1 H M → f x S = some (zs, S') → (∃ ds, dictOf t (acc' ++ zs) = some ds) → ∀ v, Pu K H M v x → ∀ Nx : Hp → Prop, (∀ H' M', DcI K μ S0.length H0 M0 Dl t (acc' ++ zs) H' M' S' → Kp H1 M1 H' M' → Nx H') → turn v H Nx)
    (fin : ∀ H M, DcI K μ S0.length H0 M0 Dl t (acc ++ ys) H M S2 → Kp H1 M1 H M → Fin H) :
    ∃ W : Nat → Nat → Hp → Prop, (∃ m, W 0 m Ha) ∧ ∀ i m H, W i m H → (J.stop i H ∧ Fin H) ∨ (J.go i H ∧ ∃ Nx : Hp → Prop, (∀ H', Nx H' → ∃ m', m' < m ∧ W (i + 1) m' H') ∧ ∀ x H', J.yld i H x H' → turn x H' Nx) := by
  refine ⟨fun i m H => ∃ acc' M S zs, DcI K μ S0.length H0 M0 Dl t acc' H M S ∧ Kp H1 M1 H M ∧ lpC k f (xs.drop i) S = some (zs, S2) ∧ acc' ++ zs = acc ++ ys ∧ i ≤ xs.length ∧ m = xs.length - i,
    ⟨_, acc, Ma, S1, ys, I, kp, e, rfl, Nat.zero_le _, rfl⟩, ?_⟩
  rintro i m H ⟨acc', M, S, zs, I', kp', e', ea, hi, rfl⟩
  by_cases hlt : i < xs.length
  · rw [List.drop_eq_getElem_cons hlt] at e'
    simp only [lpC] at e'
    split at e'
    · rename_i st
      simp only [Option.bind_eq_some_iff] at e'
      obtain ⟨⟨z1, S3⟩, e1, ⟨z2, S4⟩, e2, e3⟩ := e'
      cases e3
      have wa := w μ H M S kp' (I'.go.rs p) (fun _ _ _ => rfl) st
      obtain ⟨go, yl⟩ := wa.go i xs[i] (List.getElem?_eq_getElem hlt)
      refine .inr ⟨go, fun H' => ∃ M', DcI K μ S0.length H0 M0 Dl t (acc' ++ z1) H' M' S3 ∧ Kp H1 M1 H' M', fun H' ⟨M', I2, kp2⟩ => ⟨xs.length - (i + 1), by omega, acc' ++ z1, M', S3, z2, I2, kp2, e2, by rw [← ea]; simp, hlt, rfl⟩, fun x H' y => ?_⟩
      obtain ⟨x1, x2⟩ := yl x H' y
      refine hturn acc' xs[i] z1 H' M S S3 (I'.ext x1) (kp'.trans (Kp.ext x1)) e1 ?_ x x2 _ fun H2 M2 I2 kp2 => ⟨M2, I2, kp2⟩
      obtain ⟨ds, eo⟩ := ok
      rw [← ea, ← List.append_assoc] at eo
      exact dictOf_pre eo
    · cases e'
  · have hx : i = xs.length := by omega
    subst hx
    rw [List.drop_length] at e'
    simp only [lpC] at e'
    split at e'
    · rename_i st
      cases e'
      have wa := w μ H M _ kp' (I'.go.rs p) (fun _ _ _ => rfl) st
      rw [List.append_nil] at ea
      subst ea
      exact .inl ⟨wa.stop, fin H M I' kp'⟩
    · cases e'
/-- a turn of the clause -/
theorem dc_turn {tg : Tg} {ifs : IEs} {x : D} {vs : List Nat} {zs : List D} {fn : Ev → Store → Option (List D × Store)} {B : L2.St → Hp → Prop} {Nx : Hp → Prop} (p : RS K μ H0 M0 S0) (I : DcI K μ S0.length H0 M0 Dl t acc H M S) (kp : Kp H1 M1 H M) (sl : Sl K fa μ S.length H M σd σ)
    (ht : ∀ j ∈ tgn tg, j ∈ vs) (e : ((asg tg x (Ip.wipe σd vs)).bind fun σ1 => (tst cf ifs σ1 S).bind fun (b, S3) => if b then fn σ1 S3 else some ([], S3)) = some (zs, S')) (pv : Pu K H M v x)
    (hN : ∀ H' M', DcI K μ S0.length H0 M0 Dl t (acc ++ zs) H' M' S' → Kp H1 M1 H' M' → Nx H')
    (hB : ∀ σ1 σ2 H3 M3 S3, DcI K μ S0.length H0 M0 Dl t acc H3 M3 S3 → Kp H1 M1 H3 M3 → Sl K fa μ S3.length H3 M3 σ1 σ2 → fn σ1 S3 = some (zs, S') → B σ2 H3) :
    tG K fa tg v (L2.wipe σ vs) H fun σ2 H2 => L2.wipe σ2 vs = L2.wipe σ vs ∧ tTs K fa cf ifs σ2 H2 fun b H3 => if b = true then B σ2 H3 else Nx H3 := by
  simp only [Option.bind_eq_some_iff] at e
  obtain ⟨σ1, e1, ⟨b, S3⟩, e2, e3⟩ := e
  refine ⟨μ, S.length, M, x, _, σ1, pv, sl.wipe vs, e1, fun σ' s' hj hl => ⟨wipe_wipe ht (by rw [hl, wipe_length]) hj, ?_⟩⟩
  refine ⟨μ, M, S, σ1, b, S3, s'.rp (I.go.rs p), e2, fun H3 M3 g => ?_⟩
  have I3 := I.step p g
  have kp3 := kp.trans (g.kpt (I.go.rs p))
  cases b with
  | false =>
    simp only [Bool.false_eq_true, if_false] at e3 ⊢
    cases e3
    exact hN _ _ (by rw [List.append_nil]; exact I3) kp3
  | true =>
    simp only [if_true] at e3 ⊢
    exact hB σ1 σ' H3 M3 S3 I3 kp3 ((g.rp (s'.rp (I.go.rs p))).toSl) e3
def dObjH (t : Bool) : HO := if t then .dT [] else .dK []
theorem dc_start {K : PySem.W.Frag} {μ : Nat → Addr} {n : Nat} {H0 H : Hp} {M0 M : Mk} {Dl : Addr} {S : Store} (t : Bool) (g : Go K μ n H0 M0 H M S) (hD : H Dl = none) : DcI K μ n H0 M0 Dl t [] (upd H Dl (dObjH t)) (fun b => M b ∨ b = Dl) S ∧ Kp H M (upd H Dl (dObjH t)) (fun b => M b ∨ b = Dl) := by
  refine ⟨⟨g.put (.upd hD) hD (by rw [upd_same]; exact ⟨by simp, fun xs z => by cases t <;> cases z⟩), .inr rfl, g.none hD, dict0 t, rfl, ?_⟩, fun b o e _ => Ext.upd hD b o e, fun b o e z => z.elim id fun z => by rw [z, hD] at e; cases e⟩
  cases t
  · exact .inl ⟨[], upd_same, .nil⟩
  · exact .inr ⟨[], [], rfl, upd_same, .nil⟩
end
section
variable {X : Cx} {fa : Nat → Addr} {cf : Cf} {pos : Pos}
theorem dc_one {t : Bool} {it : It} {tg : Tg} {ifs : IEs} {ik iv : IE} {own : List Nat} {σ : L2.St} {H : Hp} {Z : VK} (ht : ∀ j ∈ tgn tg, j ∈ own) (h : tE X.K fa cf (.dcomp t ik iv own (.cons tg it ifs .nil)) σ H Z) :
    tDcP (dObjH t) (tI X.K fa cf it) (tG X.K fa tg) (tTs X.K fa cf ifs) (tE X.K fa cf ik) (tE X.K fa cf iv) own σ H Z := by
  obtain ⟨μ, M, S, σd, r, S', p, e, q⟩ := h
  simp only [ev, Option.bind_eq_some_iff] at e
  obtain ⟨⟨xs, k, S1⟩, e1, ⟨ys, S4⟩, e2, ds, e3, e4⟩ := e
  cases e4
  refine ⟨μ, M, S, σd, xs, k, S1, p, e1, fun J H1 M1 g1 w Dl hD => ?_⟩
  obtain ⟨I0, k0⟩ := dc_start t g1 hD
  refine dc_loop (turn := fun x H' Nx => tG X.K fa tg x (L2.wipe σ own) H' fun σ2 H2 => L2.wipe σ2 own = L2.wipe σ own ∧ tTs X.K fa cf ifs σ2 H2 fun b H3 => if b = true then tDcE Dl (tE X.K fa cf ik) (tE X.K fa cf iv) Nx σ2 H3 else Nx H3)
    p.toRS w I0 k0 e2 ⟨ds, e3⟩ (fun acc x zs H M S S' I kp ef hok v pv Nx hN => ?_) fun H M I _ => ?_
  · refine dc_turn (fn := fun σ1 S3 => (ev cf ik σ1 S3).bind fun (y, S4) => (ev cf iv σ1 S4).bind fun (z, S5) => (pureR y).bind fun y' => (pureR z).bind fun z' => some ([.tuple [y', z']], S5)) p.toRS I kp (I.go.rp p).toSl ht ef pv hN fun σ1 σ2 H3 M3 S3 I3 kp3 s3 ef3 => ?_
    simp only [Option.bind_eq_some_iff] at ef3
    obtain ⟨⟨r1, S5⟩, e5, ⟨r2, S6⟩, e6, y', e7, z', e8, e9⟩ := ef3
    cases e9
    have R3 := s3.rp (I3.go.rs p.toRS)
    refine ⟨μ, M3, S3, σ1, r1, S5, R3, e5, fun y H4 M4 g4 q4 => ?_⟩
    have gb4 := g4.base R3.toRS
    have R4 := gb4.rp R3
    have I4 := I3.base p.toRS g4
    have py := q4.pure R3.dom g4.mm e7
    refine ⟨μ, M3, S5, σ1, r2, S6, R4, e6, fun z H5 M5 g5 q5 => ?_⟩
    have I5 := I4.base p.toRS g5
    have pz := q5.pure R4.dom g5.mm e8
    have py5 := (g5.base R4.toRS).pu R4.toRS py
    obtain ⟨o, put, I6⟩ := I5.put p.toRS py5 pz hok
    refine ⟨_, put, hN _ _ I6 (((kp3.trans (gb4.kpt R3.toRS)).trans ((g5.base R4.toRS).kpt R4.toRS)).trans (kp_upd I5.md))⟩
  · obtain ⟨ds', e5, c⟩ := I.ct
    rw [List.nil_append, e3] at e5
    cases e5
    exact q _ H M I.go ⟨Dl, rfl, I.nw, I.md, c⟩
theorem se_dc {t : Bool} {kx vx tg iter : Expr} {ifs : List Expr} {scope : Scope} {own : List (Str × Nat)} {it : It} {itg : Tg} {iifs : IEs} {ik iv : IE} (hu : X.A.units + 65 < cLine) (hc : X.calm = true) (hN : X.N.Nodup) (hi : I X fa cf tg iter it) (ok : BlkOk X.N X.env.scope scope own) (ht : ∀ j ∈ tgn itg, j ∈ own.map (·.2))
    (hg : ∀ (s : Shared) (H : Hp) (C : Addr) (cl : List (Str × Addr)) (fp : List Addr), G (X.blk s H scope (compEnvC scope cl C X.env) fp) fa tg itg) (hts : ∀ (s : Shared) (H : Hp) (C : Addr) (cl : List (Str × Addr)) (fp : List Addr), Ts (X.blk s H scope (compEnvC scope cl C X.env) fp) fa cf ifs iifs)
    (hk : ∀ (s : Shared) (H : Hp) (C : Addr) (cl : List (Str × Addr)) (fp : List Addr), E (X.blk s H scope (compEnvC scope cl C X.env) fp) fa cf kx ik) (hv : ∀ (s : Shared) (H : Hp) (C : Addr) (cl : List (Str × Addr)) (fp : List Addr), E (X.blk s H scope (compEnvC scope cl C X.env) fp) fa cf vx iv) (hs : ∀ x, foldedSetIterable iter X.env x = pure x) :
    E X fa cf (.DictComp kx vx [⟨tg, iter, ifs, 0⟩] scope pos) (.dcomp t ik iv (own.map (·.2)) (.cons itg it iifs .nil)) :=
  PE.imp (pe_dcP (u0 := dObjH t) (by cases t <;> simp [dObjH]) (by omega) hc hN hi ok hg hts hk hv hs) fun σ H Z h => dc_one ht h
theorem se_dnew (t : Bool) : E X fa cf (.Dict [] [] pos) (.dnew t) := by
  cases t
  · refine PE.imp pe_dnewK fun σ H Z ⟨μ, M, S, σd, r, S', p, e, q⟩ => fun b hb => ?_
    simp only [ev] at e
    cases e
    have g : Go X.K μ S.length H M (upd H b (.dK [])) (fun c => M c ∨ c = b) S := p.toRS.refl.put (.upd hb) hb (by rw [upd_same]; exact ⟨by simp, fun xs z => by cases z⟩)
    exact q _ _ _ g ⟨b, rfl, hb, .inr rfl, .inl ⟨[], upd_same, .nil⟩⟩
  · refine PE.imp pe_dnewT fun σ H Z ⟨μ, M, S, σd, r, S', p, e, q⟩ => fun b hb => ?_
    simp only [ev] at e
    cases e
    have g : Go X.K μ S.length H M (upd H b (.dT [])) (fun c => M c ∨ c = b) S := p.toRS.refl.put (.upd hb) hb (by rw [upd_same]; exact ⟨by simp, fun xs z => by cases z⟩)
    exact q _ _ _ g ⟨b, rfl, hb, .inr rfl, .inr ⟨[], [], rfl, upd_same, .nil⟩⟩
/-- {text: text, ..} -/
inductive Dps (X : Cx) : List (Option Expr) → List Expr → List (Str × Str) → Prop
  | nil : Dps X [] [] []
  | cons {k v : Expr} {ks : List (Option Expr)} {vs : List Expr} {a b : Str} {ps : List (Str × Str)} : PE X k (tC (.str a)) → PE X v (tC (.str b)) → Dps X ks vs ps → Dps X (some k :: ks) (v :: vs) ((a, b) :: ps)
theorem Dps.len {ks : List (Option Expr)} {vs : List Expr} {ps : List (Str × Str)} (h : Dps X ks vs ps) : ks.length = ps.length ∧ vs.length = ps.length ∧ ks.all (·.isSome) = true := by
  induction h with
  | nil => exact ⟨rfl, rfl, rfl⟩
  | cons _ _ _ ih => exact ⟨by simp [ih.1], by simp [ih.2.1], by simpa using ih.2.2⟩
theorem Dps.pps {pos : Pos} {ks : List (Option Expr)} {vs : List Expr} {ps : List (Str × Str)} (h : Dps X ks vs ps) : PPs X pos ks vs (ps.map fun p => (tC (.str p.1), tC (.str p.2))) := by
  induction h with
  | nil => exact pps_nil
  | cons hk hv _ ih => exact pps_cons hk hv ih
theorem tPairs_c {σ : L2.St} {H : Hp} {Q : List (V × V) → Hp → Prop} : ∀ ps : List (Str × Str), Q (ps.map fun p => (V.str p.1, V.str p.2)) H → tPairs (ps.map fun p => (tC (.str p.1), tC (.str p.2))) σ H Q
  | [], q => q
  | (a, b) :: r, q => tPairs_c (Q := fun ps H3 => Q ((V.str a, V.str b) :: ps) H3) r q
theorem mergeK_nd : ∀ (ps : List (Str × Str)) (acc : List (Key × V)), (ps.map (·.1)).Nodup → (∀ p ∈ ps, valV acc (.inr p.1) = none) → mergeK acc (ps.map fun p => (Sum.inr p.1, V.str p.2)) = acc ++ ps.map fun p => (Sum.inr p.1, V.str p.2)
  | [], acc, _, _ => by simp [mergeK]
  | (a, b) :: r, acc, hn, h => by
    rw [List.map_cons, List.nodup_cons] at hn
    have e : putK acc (.inr a) (.str b) = acc ++ [(.inr a, .str b)] := by
      unfold putK
      rw [valV_any, h _ (List.mem_cons_self ..)]
      rfl
    have ih := mergeK_nd r (acc ++ [(.inr a, .str b)]) hn.2 fun p hp => by
      have h1 := h p (List.mem_cons_of_mem _ hp)
      have hne : a ≠ p.1 := fun z => hn.1 (z ▸ List.mem_map.mpr ⟨p, hp, rfl⟩)
      have key : ∀ l : List (Key × V), valV l (.inr p.1) = none → valV (l ++ [(Sum.inr a, V.str b)]) (.inr p.1) = none := by
        intro l
        induction l with
        | nil => intro _; rw [List.nil_append, valV_neg (fun z => hne (Sum.inr.inj z))]; rfl
        | cons q l ih =>
          intro h2
          obtain ⟨k, v⟩ := q
          by_cases c : k = .inr p.1
          · subst c; rw [valV_pos rfl] at h2; cases h2
          · rw [valV_neg c] at h2
            rw [List.cons_append, valV_neg c]
            exact ih h2
      exact key acc h1
    unfold mergeK at ih ⊢
    rw [List.map_cons, List.foldl_cons]
    simp only
    rw [e, ih, List.append_assoc]
    rfl
theorem puk_strs {K : PySem.W.Frag} {H : Hp} {M : Mk} : ∀ ps : List (Str × Str), PuK K H M (ps.map fun p => (Sum.inr p.1, V.str p.2)) (ps.map fun p => (.str p.1, .str p.2))
  | [] => .nil
  | p :: r => .cons (.str p.1) (.str p.2) (puk_strs r)
theorem se_dsp {ks : List (Option Expr)} {vs : List Expr} {ps : List (Str × Str)} {pos : Pos} (h : Dps X ks vs ps) : E X fa cf (.Dict ks vs pos) (.dsp ps) := by
  obtain ⟨l1, l2, l3⟩ := h.len
  refine ⟨fun pins s σ H Z I h0 => ?_⟩
  have h1 := h0
  obtain ⟨μ, M, S, σd, r, S', p, e, q⟩ := h1
  simp only [ev] at e
  split at e
  · rename_i hc
    obtain ⟨c1, c2, c3⟩ := hc
    cases e
    refine (pe_disp h.pps l3 (by omega) (by intro z; rw [z] at l1; simp at l1; omega) (by omega)).run pins s σ H Z I fun b hb => tPairs_c ps ?_
    refine ⟨upd_same, ps.map fun p => (Sum.inr p.1, V.str p.2), by rw [List.map_map]; rfl, by simpa using c1, ?_⟩
    rw [upd_upd, mergeK_nd ps [] c3 (fun _ _ => rfl), List.nil_append]
    have g : Go X.K μ S.length H M (upd H b (.dK (ps.map fun p => (Sum.inr p.1, V.str p.2)))) (fun c => M c ∨ c = b) S := p.toRS.refl.put (.upd hb) hb (by rw [upd_same]; exact ⟨by simp, fun xs z => by cases z⟩)
    exact q _ _ _ g ⟨b, rfl, hb, .inr rfl, .inl ⟨_, upd_same, puk_strs ps⟩⟩
  · cases e
theorem se_dcst {k v : Expr} {s0 : Str} {i : Int} {pos : Pos} (hk : PE X k (tC (.str s0))) (hv : PE X v (tC (.int i))) : E X fa cf (.Dict [some k] [v] pos) (.dcst s0 i) := by
  refine PE.imp (pe_disp (pps_cons hk hv pps_nil) rfl rfl (by simp) (by simp)) fun σ H Z ⟨μ, M, S, σd, r, S', p, e, q⟩ => fun b hb => ?_
  simp only [ev] at e
  cases e
  refine ⟨upd_same, [(Sum.inr s0, .int i)], rfl, by simp, ?_⟩
  rw [upd_upd]
  have g : Go X.K μ S.length H M (upd H b (.dK [(Sum.inr s0, .int i)])) (fun c => M c ∨ c = b) S := p.toRS.refl.put (.upd hb) hb (by rw [upd_same]; exact ⟨by simp, fun xs z => by cases z⟩)
  exact q _ _ _ g ⟨b, rfl, hb, .inr rfl, .inl ⟨_, upd_same, .cons (.str s0) (.int i) .nil⟩⟩
end
end Ip

set_option Elab.async false
set_option linter.all false
set_option maxRecDepth 100000
set_option maxHeartbeats 1000000
/-! [.. for x in d], d a dict that a name holds: shut while it is walked. -/
namespace Ip
open PySem PySem.Spec PyProof.Rows L2
section
variable {K : PySem.W.Frag} {H : Hp} {M : Mk}
theorem PuT.keys : ∀ {vs : List (List Key × V)} {es : List (D × D)} {i : Nat} {d : D}, PuT K H M vs es → (es.map (·.1))[i]? = some d → ∃ ns v, vs[i]? = some (ns.map Sum.inl, v) ∧ d = tupI ns
  | _, _, i, _, .nil, e => by simp at e
  | _, _, 0, _, .cons (ns := ns) (v := v) _ _, e => by
    simp at e
    exact ⟨ns, v, rfl, e.symm⟩
  | _, _, i + 1, _, .cons _ q, e => by
    obtain ⟨ns, v, h1, h2⟩ := PuT.keys (i := i) q (by simpa using e)
    exact ⟨ns, v, by simpa using h1, h2⟩
theorem walk_dT {a : Addr} {od : Obj} {vs : List (List Key × V)} {es : List (D × D)} (dm : Dom H M) (h : H a = some (.frz od (.dT vs))) (q : vs.length = es.length) (qk : ∀ (i : Nat) (d : D), (es.map (·.1))[i]? = some d → ∃ ns v, vs[i]? = some (ns.map Sum.inl, v) ∧ d = tupI ns) : WalkAt K (Itkt a od vs) (es.map (·.1)) H M := by
  refine ⟨fun i d e => ?_, ⟨h, by rw [List.length_map, q]; exact Nat.le_refl _⟩⟩
  obtain ⟨ns, v, h1, rfl⟩ := qk i d e
  refine ⟨⟨h, (List.getElem?_eq_some_iff.mp h1).1⟩, fun x H' y => ?_⟩
  obtain ⟨rfl, k, w, b, e2, rfl, hb⟩ := y
  rw [h1] at e2
  cases e2
  rw [kV_ints] at hb
  exact ⟨.refl, .tup hb (fun z => (dm _ z).2 _ hb) (PuA.ints ns)⟩
end
section
variable {X : Cx} {fa : Nat → Addr} {cf : Cf} {pos : Pos}
theorem lcd_one {x : Nat} {t : Tg} {ifs : IEs} {ie : IE} {own : List Nat} {σ : L2.St} {H : Hp} {Z : VK} (ht : ∀ j ∈ tgn t, j ∈ own) (h : tE X.K fa cf (.compd x ie own t ifs) σ H Z) :
    tLockE (tLc (iKeys (tVar x)) (tG X.K fa t) (tTs X.K fa cf ifs) (tE X.K fa cf ie) own) σ H Z := by
  obtain ⟨μ, M, S, σd, r, S', p, e, q⟩ := h
  simp only [ev] at e
  split at e
  · rename_i n hx
    split at e
    · rename_i es hn
      simp only [Option.bind_eq_some_iff] at e
      obtain ⟨⟨ys, S4⟩, e2, e⟩ := e
      dsimp only at e
      split at e
      · rename_i hn4
        split at e
        · rename_i hlim
          cases e
          have hlim : ys.length ≤ LIM := hlim
          obtain ⟨v0, hs, hk0, rfl⟩ := p.sl x _ hx
          have hnl : n < S.length := (List.getElem?_eq_some_iff.mp hn).1
          obtain ⟨hM, hpl⟩ := p.st n _ hn
          have hct : Ct X.K H M (μ n) (.dict ((.none, .none) :: es)) := hpl.ct rfl
          obtain ⟨vs, hd, pt⟩ : ∃ vs, H (μ n) = some (.dT vs) ∧ PuT X.K H M vs es := by
            rcases hct with ⟨vs, _, pk⟩ | ⟨vs, es', e0, hd, pt⟩
            · exact pk.nomark.elim
            · cases e0; exact ⟨vs, hd, pt⟩
          refine ⟨μ n, .dT vs, hd, True.intro, fun od => ?_⟩
          have gF : Go X.K μ S.length H M (upd H (μ n) (.frz od (.dT vs))) M (S.set n .none) := p.toRS.refl.chg p.toRS hnl (fun oo uu z => hct.nofrz z) fun H2 kp e3 => .inl ⟨rfl, _, e3, fun xs z => by cases z⟩
          have pF := gF.rp p
          refine ⟨.ref (μ n), hs, μ n, od, rfl, .inr ⟨vs, upd_same, fun Dl hD => ?_⟩⟩
          obtain ⟨I0, k0⟩ := lc_start pF.toRS.refl hD
          have wk : ∀ acc H2 M2 S2, LcI X.K μ (S.set n .none).length (upd H (μ n) (.frz od (.dT vs))) M Dl acc H2 M2 S2 → Kp (upd H (μ n) (.frz od (.dT vs))) M H2 M2 → still none S2 →
              ∃ M3, LcI X.K μ (S.set n .none).length (upd H (μ n) (.frz od (.dT vs))) M Dl acc H2 M3 S2 ∧ Kp (upd H (μ n) (.frz od (.dT vs))) M H2 M3 ∧ WalkAt X.K (Itkt (μ n) od vs) (es.map (·.1)) H2 M3 :=
            fun acc H2 M2 S2 I kp _ => ⟨M2, I, kp, walk_dT I.go.dom (I.go.fz _ _ _ upd_same) pt.length fun i d e => pt.keys e⟩
          refine lc_loop (turn := fun x H' Nx => tG X.K fa t x (L2.wipe σ own) H' fun σ2 H2 => L2.wipe σ2 own = L2.wipe σ own ∧ tTs X.K fa cf ifs σ2 H2 fun b H3 => if b = true then tE X.K fa cf ie σ2 H3 fun y H4 => ∃ acc, H4 Dl = some (.lst acc) ∧ acc.length < sizeLine ∧ Nx (upd H4 Dl (.lst (acc ++ [y]))) else Nx H3)
            pF.toRS wk I0 k0 e2 (fun acc x zs H M S S' I kp ef hle v pv Nx hN => ?_) fun H' M' I _ => ?_
          · refine lc_turn (fn := fun σ1 S3 => (ev cf ie σ1 S3).bind fun (z, S5) => (pureR z).bind fun z' => some ([z'], S5)) pF.toRS I kp (I.go.rp pF).toSl ht ef pv hN fun σ1 σ2 H3 M3 S3 I3 kp3 s3 ef3 => ?_
            simp only [Option.bind_eq_some_iff] at ef3
            obtain ⟨⟨r, S5⟩, e3, y, e4, e5⟩ := ef3
            cases e5
            refine lc_elem pF.toRS I3 s3 e3 e4 ?_ fun H' I4 kp4 => hN H' M3 I4 (kp3.trans kp4)
            simp only [List.length_append, List.length_cons, List.length_nil, List.nil_append] at hle
            omega
          · -- the dict is open again
            have gI := I.go
            have hfz : H' (μ n) = some (.frz od (.dT vs)) := gI.fz _ _ _ upd_same
            refine ⟨hfz, ?_⟩
            have ln4 : S4.length = S.length := by rw [gI.ln, List.length_set]
            have hM' : M' (μ n) := gI.mm _ hM
            have kp : Kp H' M' (upd H' (μ n) (.dT vs)) M' := kp_upd hM'
            have hne : ∀ b o, H b = some o → b ≠ μ n → H' b = some o ∨ ∃ k, k < S.length ∧ b = μ k := fun b o e hb => by
              by_cases h : ∃ k, k < S.length ∧ b = μ k
              · exact .inr h
              · refine .inl (gI.fr b o (by rw [upd_ne hb]; exact e) fun k hk z => h ⟨k, by rw [List.length_set] at hk; exact hk, z⟩)
            have ptF : PuT X.K (upd H' (μ n) (.dT vs)) M' vs es := pt.mono (fun b o e z => by
              have hb : b ≠ μ n := fun w => z (w ▸ hM)
              rw [upd_ne hb]
              exact gI.fr b o (by rw [upd_ne hb]; exact e) fun k hk w => z (w ▸ p.toRS.mu (by rw [List.length_set] at hk; exact hk))) fun b o e z => by
                rcases gI.new b z with z | z
                · exact z
                · by_cases hb : b = μ n
                  · exact hb ▸ hM
                  · rw [upd_ne hb, e] at z; cases z
            refine q _ (upd H' (μ n) (.dT vs)) M' ⟨gI.mm, fun b z => ?_, fun b z => ?_, fun b o e k => ?_, fun b z => ?_, fun b o u e => ?_, by rw [List.length_set, ln4], fun k y e => ?_⟩ ?_
            · rcases gI.new b z with z | z
              · exact .inl z
              · by_cases hb : b = μ n
                · exact .inl (hb ▸ hM)
                · rw [upd_ne hb] at z; exact .inr z
            · by_cases hb : b = μ n
              · rw [hb, upd_same]; exact ⟨by simp, fun xs z => by cases z⟩
              · rw [upd_ne hb]; exact gI.dom b z
            · rw [upd_ne (k n hnl)]
              exact gI.fr b o (by rw [upd_ne (k n hnl)]; exact e) fun k' hk => k k' (by rw [List.length_set] at hk; exact hk)
            · by_cases hb : b = μ n
              · rw [hb, upd_same]; simp
              · rw [upd_ne hb]; exact gI.dm b (by rw [upd_ne hb]; exact z)
            · have hb : b ≠ μ n := fun z => by rw [z, hd] at e; cases e
              rw [upd_ne hb]
              exact gI.fz b o u (by rw [upd_ne hb]; exact e)
            · by_cases hk : n = k
              · subst hk
                rw [List.getElem?_set_self (by rw [ln4]; exact hnl)] at e
                cases e
                exact ⟨hM', .inr (.inr ⟨vs, es, rfl, upd_same, ptF⟩)⟩
              · rw [List.getElem?_set_ne hk] at e
                obtain ⟨h1, h2⟩ := gI.st k y e
                have hkl : k < S.length := by rw [← ln4]; exact (List.getElem?_eq_some_iff.mp e).1
                refine ⟨h1, h2.mono kp.kp kp.old fun o e3 => ?_⟩
                rw [upd_ne (fun z => hk (p.toRS.inj k n hkl hnl z).symm)]
                exact e3
            · have hDn : Dl ≠ μ n := fun z => by
                have := I.nw
                rw [z, upd_same] at this; cases this
              refine ⟨Dl, rfl, ?_, I.md, ?_⟩
              · have := I.nw
                rwa [upd_ne hDn] at this
              · refine I.ct.mono kp.kp kp.old fun o e3 => ?_
                rw [upd_ne hDn]
                exact e3
        · cases e
      · cases e
    · cases e
  · cases e
theorem se_lcd {elt tg iter : Expr} {ifs : List Expr} {scope : Scope} {own : List (Str × Nat)} {x : Nat} {t : Tg} {iifs : IEs} {ie : IE} (hc : X.calm = true) (hN : X.N.Nodup) (hi : PE X iter (tVar x)) (ok : BlkOk X.N X.env.scope scope own) (ht : ∀ j ∈ tgn t, j ∈ own.map (·.2))
    (hg : ∀ (s : Shared) (H : Hp) (C : Addr) (cl : List (Str × Addr)) (fp : List Addr), G (X.blk s H scope (compEnvC scope cl C X.env) fp) fa tg t) (hts : ∀ (s : Shared) (H : Hp) (C : Addr) (cl : List (Str × Addr)) (fp : List Addr), Ts (X.blk s H scope (compEnvC scope cl C X.env) fp) fa cf ifs iifs)
    (he : ∀ (s : Shared) (H : Hp) (C : Addr) (cl : List (Str × Addr)) (fp : List Addr), E (X.blk s H scope (compEnvC scope cl C X.env) fp) fa cf elt ie) (hs : ∀ x, foldedSetIterable iter X.env x = pure x) :
    E X fa cf (.ListComp elt [⟨tg, iter, ifs, 0⟩] scope pos) (.compd x ie (own.map (·.2)) t iifs) :=
  PE.imp (pe_lock (pe_lc hc hN (pi_keys hi) ok hg hts he hs)) fun σ H Z h => lcd_one ht h
end
/-! tuple(xs), the tuple known to have no dict -/
section
variable {X : Cx} {fa : Nat → Addr} {cf : Cf} {a b : Expr} {ia : IE}
def rTupN (K : PySem.W.Frag) : List V → Hp → VK → Prop := fun xs H Q => ∃ (p : Addr) (ys : List V), xs = [.ref p] ∧ SqL K H p ys ∧ ∀ (l : Addr) (o : Obj), H l = none → o.dict = none → Q (.ref l) (upd H l (.frz o (.tup ys)))
theorem call_tupN : CallR X (.type "tuple") (rTupN X.K) := by
  intro pins s σ H xs us Q I r h
  obtain ⟨p, ys, rfl, hq, q⟩ := h
  obtain ⟨u, rfl, rx⟩ := vals1 r
  cases rx
  obtain ⟨its, r', pl, hz⟩ := I.list hq
  have hlen := r'.length
  refine call_tuple_list pl.isList (fun h' kp => ?_) (by simp only [List.size_toArray] <;> omega)
  have I1 : Inv X pins σ H { s with heap := h' } := I.kept (t' := s.toks) kp
  have e : (h'.push { cls := .type "tuple", data := .seq its.toArray }).get? h'.objs.size = some { cls := .type "tuple", data := .seq its.toArray } := Heap.get?_push_size _ rfl
  have I2 : Inv X pins σ (upd H h'.objs.size (.frz { cls := .type "tuple", data := .seq its.toArray } (.tup ys))) { s with heap := h'.push { cls := .type "tuple", data := .seq its.toArray } } :=
    I1.laid (t' := s.toks) (fun b o e => Heap.get?_push_of_some _ e) (Nat.le_refl _) (show ObjOk X.prog X.w _ _ _ (.frz _ (.tup ys)) from ⟨e, hz, its, r', IsTup.new _ _⟩)
  exact ⟨.ref h'.objs.size, _, I2, rfl, q _ _ (I1.hok.fresh (Nat.le_refl _)) rfl⟩
def tTupN (t : TA) : TE := fun σ H Q => t σ H fun xs H1 => xs.length ≤ sizeLine ∧ ∀ (l : Addr) (o : Obj), H1 l = none → o.dict = none → Q (.ref l) (upd H1 l (.frz o (.tup xs)))
theorem pe_tupN {es : List Expr} {t : TA} {k : Nat} {pos : Pos} (h : PA X es t) : PE X (.Tuple es k pos) (tTupN t) := by
  refine ⟨fun pins s σ H Q I hq => ?_⟩
  refine wpAny_Tuple_spliced (thn (h.run pos pins s σ H _ I hq) fun us s1 ⟨xs, H1, I1, r, z, q⟩ => ⟨by rw [← r.length]; exact z, ?_⟩)
  have hf : H1 s1.heap.objs.size = none := I1.hok.fresh (Nat.le_refl _)
  have e : (s1.heap.push { cls := .type "tuple", data := .seq us.toArray }).get? s1.heap.objs.size = some { cls := .type "tuple", data := .seq us.toArray } := Heap.get?_push_size _ rfl
  refine ⟨.ref s1.heap.objs.size, upd H1 s1.heap.objs.size (.frz { cls := .type "tuple", data := .seq us.toArray } (.tup xs)), I1.laid (t' := s1.toks) (fun b u e => Heap.get?_push_of_some _ e) (Nat.le_refl _) ?_, rfl, q _ _ hf rfl⟩
  exact (show ObjOk X.prog X.w _ _ _ (.frz _ (.tup xs)) from ⟨e, z, us, r, IsTup.new _ _⟩)
theorem se_tupk {es : List Expr} {is : IEs} {k : Nat} {pos : Pos} (h : L X fa cf es is) : E X fa cf (.Tuple es k pos) (.tupk is) := by
  refine PE.imp (pe_tupN h) fun σ H Q ⟨μ, M, S, σd, r, S', p, e, q⟩ => ?_
  simp only [ev, Option.bind_eq_some_iff] at e
  obtain ⟨⟨rs, S1⟩, e1, xs, e2, e⟩ := e
  split at e
  · cases e
    refine ⟨μ, M, S, σd, rs, S1, p, e1, fun vs H1 M1 as g1 q1 => ?_⟩
    have gb := g1.base p.toRS
    have pa := q1.pure p.dom g1.mm e2
    refine ⟨by rw [pa.length]; exact lim_line (by assumption), fun l o hl ho => ?_⟩
    refine q _ _ M (gb.ext (.upd hl)) ⟨l, rfl, ?_⟩
    exact ⟨fun z => (gb.dom _ z).1 hl, o, vs, upd_same, ho, pa.ext (.upd hl)⟩
  · cases e
theorem se_tupn (h : L X fa cf [a] (.cons ia .nil)) (hp : ∀ t, PA X [a] t → PE X b (tCB (rTupN X.K) t)) : E X fa cf b (.tupn ia) := by
  refine PE.imp (hp _ h) fun σ H Q ⟨μ, M, S, σd, r, S', p, e, q⟩ => ?_
  simp only [ev, Option.bind_eq_some_iff] at e
  obtain ⟨⟨x, S1⟩, e1, u, e2, e3⟩ := e
  split at e3
  · rename_i ys
    cases e3
    refine ⟨μ, M, S, σd, [x], S1, p, evs_one e1, fun vs H1 M1 as g1 q1 => ?_⟩
    obtain ⟨v, rfl, q2⟩ := one_rr q1
    obtain ⟨ad, ws, rfl, hs, pa⟩ := (q2.va (g1.rs p.toRS) e2).list
    refine ⟨ad, ws, rfl, hs, fun l o hl ho => ?_⟩
    refine q _ _ M1 (g1.ext (.upd hl)) ⟨l, rfl, ?_⟩
    exact ⟨fun z => (g1.dom _ z).1 hl, o, ws, upd_same, ho, pa.ext (.upd hl)⟩
  · cases e3
end
end Ip

set_option Elab.async false
set_option linter.all false
set_option maxRecDepth 100000
set_option maxHeartbeats 1000000
/-! A list of new containers; its places by number; what is changed there. -/
namespace Ip
open PySem PySem.Spec PyProof.Rows L2

structure LcR (K : PySem.W.Frag) (μ : Nat → Addr) (n : Nat) (H0 : Hp) (M0 : Mk) (Dl : Addr) (acc : List D) (H : Hp) (M : Mk) (S : Store) : Prop where
  go : Go K μ n H0 M0 H M S
  md : M Dl
  nw : H0 Dl = none
  ct : ∃ as : List Addr, H Dl = some (.lst (as.map V.ref)) ∧ as.Nodup ∧ Dl ∉ as ∧ Rows K H0 H M as acc
section
variable {K : PySem.W.Frag} {fa μ : Nat → Addr} {n : Nat} {H0 Ha H H1 H2 H' : Hp} {M0 Ma M M1 M2 M' : Mk} {S0 S S1 S2 S3 S' : Store} {σd : Ev} {σ : L2.St} {v : V} {d : D} {Dl : Addr} {acc ys : List D} {cf : Cf}
theorem LcR.ne (I : LcR K μ S0.length H0 M0 Dl acc H M S) (p : RS K μ H0 M0 S0) : ∀ k, k < S0.length → Dl ≠ μ k := fun k hk z => (p.dom _ (p.mu hk)).1 (z ▸ I.nw)
theorem Rows.mono {as : List Addr} {xs : List D} (q : Rows K H0 H M as xs) (h : ∀ b o, H b = some o → ¬ M b → H' b = some o) (hm : ∀ b o, H b = some o → M' b → M b) (hm2 : ∀ b ∈ as, M b → M' b) (ha : ∀ b ∈ as, ∀ o, H b = some o → H' b = some o) : Rows K H0 H' M' as xs :=
  ⟨q.1, fun i b x e1 e2 => by
    obtain ⟨q1, q2, q3⟩ := q.2 i b x e1 e2
    have hb := List.mem_of_getElem? e1
    exact ⟨q1, hm2 b hb q2, q3.mono h hm (ha b hb)⟩⟩
theorem Rows.nw {as : List Addr} {xs : List D} (q : Rows K H0 H M as xs) : ∀ b ∈ as, H0 b = none ∧ H b ≠ none := fun b hb => by
  obtain ⟨i, hi⟩ := List.getElem?_of_mem hb
  have h1 := (List.getElem?_eq_some_iff.mp hi).1
  obtain ⟨q1, _, q3⟩ := q.2 i b _ hi (List.getElem?_eq_getElem (by rw [← q.1]; exact h1))
  exact ⟨q1, q3.dom⟩
theorem LcR.step (I : LcR K μ S0.length H0 M0 Dl acc H M S) (p : RS K μ H0 M0 S0) (g : Go K μ S.length H M H' M' S') : LcR K μ S0.length H0 M0 Dl acc H' M' S' := by
  obtain ⟨as, h1, h2, h3, h4⟩ := I.ct
  refine ⟨I.go.then g, g.mm _ I.md, I.nw, as, g.fr _ _ h1 fun k hk => I.ne p k (by rw [← I.go.ln]; exact hk), h2, h3, h4.mono (g.keep (I.go.rs p)) g.old (fun b _ z => g.mm b z) fun b hb o e => g.fr b o e fun k hk z => ?_⟩
  have hk' : k < S0.length := by rw [← I.go.ln]; exact hk
  exact (p.dom _ (p.mu hk')).1 (z ▸ (h4.nw b hb).1)
theorem LcR.ext (I : LcR K μ S0.length H0 M0 Dl acc H M S) (x : Ext H H') : LcR K μ S0.length H0 M0 Dl acc H' M S := by
  obtain ⟨as, h1, h2, h3, h4⟩ := I.ct
  exact ⟨I.go.ext x, I.md, I.nw, as, x _ _ h1, h2, h3, h4.mono (fun b o e _ => x b o e) (fun _ _ _ z => z) (fun _ _ z => z) fun b _ o e => x b o e⟩
theorem LcR.push {b : Addr} (I : LcR K μ S0.length H0 M0 Dl acc H M S) (p : RS K μ H0 M0 S0) (hb0 : H0 b = none) (hm : M b) (c : Ct K H M b d) (hne : b ≠ Dl) (hna : ∀ as : List Addr, H Dl = some (.lst (as.map V.ref)) → b ∉ as) : ∃ vs, H Dl = some (.lst vs) ∧ vs.length = acc.length ∧ LcR K μ S0.length H0 M0 Dl (acc ++ [d]) (upd H Dl (.lst (vs ++ [V.ref b]))) M S := by
  obtain ⟨as, e, h2, h3, h4⟩ := I.ct
  have hb := hna as e
  have kp : Kp H M (upd H Dl (.lst (as.map V.ref ++ [V.ref b]))) M := kp_upd I.md
  refine ⟨as.map V.ref, e, by rw [List.length_map]; exact h4.1, ⟨I.go.mm, I.go.new, fun b z => ?_, fun b o e2 k => ?_, fun b z => ?_, fun b o u e2 => by rw [upd_ne (fun z => by rw [z, I.nw] at e2; cases e2)]; exact I.go.fz b o u e2, I.go.ln, fun k x e2 => ?_⟩, I.md, I.nw, as ++ [b], ?_, ?_, ?_, ?_, ?_⟩
  · by_cases h : b = Dl
    · rw [h, upd_same]; simp
    · rw [upd_ne h]; exact I.go.dom b z
  · rw [upd_ne (fun z => by rw [z, I.nw] at e2; cases e2)]; exact I.go.fr b o e2 k
  · by_cases h : b = Dl
    · rw [h, upd_same]; simp
    · rw [upd_ne h]; exact I.go.dm b z
  · obtain ⟨h1, h2⟩ := I.go.st k x e2
    refine ⟨h1, h2.mono kp.kp kp.old fun o e3 => ?_⟩
    rw [upd_ne (Ne.symm (I.ne p k (by rw [← I.go.ln]; exact (List.getElem?_eq_some_iff.mp e2).1)))]
    exact e3
  · rw [upd_same, List.map_append]; rfl
  · rw [List.nodup_append]
    exact ⟨h2, by simp, fun x hx y hy => by simp at hy; subst hy; rintro rfl; exact hb hx⟩
  · intro z
    rcases List.mem_append.mp z with z | z
    · exact h3 z
    · simp at z; exact hne z.symm
  · rw [List.length_append, List.length_append, h4.1]; rfl
  · intro i b' x e1 e2
    by_cases hi : i < as.length
    · rw [List.getElem?_append_left hi] at e1
      rw [List.getElem?_append_left (by rw [← h4.1]; exact hi)] at e2
      obtain ⟨q1, q2, q3⟩ := h4.2 i b' x e1 e2
      have hb' : b' ≠ Dl := fun z => h3 (z ▸ List.mem_of_getElem? e1)
      exact ⟨q1, q2, q3.mono kp.kp kp.old fun o e3 => by rw [upd_ne hb']; exact e3⟩
    · have hl := (List.getElem?_eq_some_iff.mp e1).1
      rw [List.length_append, List.length_singleton] at hl
      have hi' : i = as.length := by omega
      subst hi'
      rw [List.getElem?_append_right (Nat.le_refl _), Nat.sub_self] at e1
      rw [h4.1, List.getElem?_append_right (Nat.le_refl _), Nat.sub_self] at e2
      cases e1
      cases e2
      exact ⟨hb0, hm, c.mono kp.kp kp.old fun o e3 => by rw [upd_ne hne]; exact e3⟩
/-- an item is made and put behind -/
theorem lcr_elem {ie : IE} {Nx : Hp → Prop} (p : RS K μ H0 M0 S0) (I : LcR K μ S0.length H0 M0 Dl acc H M S) (sl : Sl K fa μ S.length H M σd σ) (e : ev cf ie σd S = some (.f d, S')) (hl : acc.length < LIM)
    (hN : ∀ H' M', LcR K μ S0.length H0 M0 Dl (acc ++ [d]) H' M' S' → Kp H M H' M' → Nx H') : tE K fa cf ie σ H fun y H4 => ∃ accv, H4 Dl = some (.lst accv) ∧ accv.length < sizeLine ∧ Nx (upd H4 Dl (.lst (accv ++ [y]))) := by
  refine ⟨μ, M, S, σd, .f d, S', sl.rp (I.go.rs p), e, fun v H4 M4 g q => ?_⟩
  obtain ⟨b, rfl, h0, hm, c⟩ := q
  have I4 := I.step p g
  obtain ⟨as0, e0, _, _, r0⟩ := I.ct
  obtain ⟨as4, e4, _, _, r4⟩ := I4.ct
  have e04 : H4 Dl = some (.lst (as0.map V.ref)) := g.fr _ _ e0 fun k hk => I.ne p k (by rw [← I.go.ln]; exact hk)
  obtain ⟨vs, h1, h2, I5⟩ := I4.push p (I.go.none h0) hm c (fun z => by rw [z, e0] at h0; cases h0) fun as ea hb => by
    rw [ea] at e04
    have em : as.map V.ref = as0.map V.ref := by injection (Option.some.inj e04)
    have : as = as0 := by
      have inj : ∀ {a b : List Addr}, a.map V.ref = b.map V.ref → a = b := by
        intro a
        induction a with
        | nil => intro b h; cases b with
          | nil => rfl
          | cons _ _ => cases h
        | cons x a ih => intro b h; cases b with
          | nil => cases h
          | cons y b =>
            simp only [List.map_cons, List.cons.injEq, V.ref.injEq] at h
            rw [h.1, ih h.2]
      exact inj em
    subst this
    exact (r0.nw b hb).2 h0
  refine ⟨vs, h1, ?_, hN _ _ I5 ((g.kpt (I.go.rs p)).trans (kp_upd I4.md))⟩
  rw [h2, sizeLine_eq]; exact hl
/-- the loop -/
theorem lcr_loop {J : L2.It} {xs : List D} {k : Option (Nat × List D)} {f : D → Store → Option (List D × Store)} {Fin : Hp → Prop} {turn : V → Hp → (Hp → Prop) → Prop} (p : RS K μ H0 M0 S0) (w : ∀ acc H M S, LcR K μ S0.length H0 M0 Dl acc H M S → Kp H1 M1 H M → still k S → ∃ M2, LcR K μ S0.length H0 M0 Dl acc H M2 S ∧ Kp H1 M1 H M2 ∧ WalkAt K J xs H M2)
    (I : LcR K μ S0.length H0 M0 Dl acc Ha Ma S1) (kp : Kp H1 M1 Ha Ma) (e : lpC k f xs S1 = some (ys, S2))
    (hturn : ∀ acc' x zs H M S S', LcR K μ S0.length H0 M0 Dl acc' H M S → Kp H1 M1 H M → f x S = some (zs, S') → (acc' ++ zs).length ≤ (acc ++ ys).length → ∀ v, Pu K H M v x → ∀ Nx : Hp → Prop, (∀ H' M', LcR K μ S0.length H0 M0 Dl (acc' ++ zs) H' M' S' → Kp H1 M1 H' M' → Nx H') → turn v H Nx)
    (fin : ∀ H M, LcR K μ S0.length H0 M0 Dl (acc ++ ys) H M S2 → Kp H1 M1 H M → Fin H) :
    ∃ W : Nat → Nat → Hp → Prop, (∃ m, W 0 m Ha) ∧ ∀ i m H, W i m H → (J.stop i H ∧ Fin H) ∨ (J.go i H ∧ ∃ Nx : Hp → Prop, (∀ H', Nx H' → ∃ m', m' < m ∧ W (i + 1) m' H') ∧ ∀ x H', J.yld i H x H' → turn x H' Nx) := by
  refine ⟨fun i m H => ∃ acc' M S zs, LcR K μ S0.length H0 M0 Dl acc' H M S ∧ Kp H1 M1 H M ∧ lpC k f (xs.drop i) S = some (zs, S2) ∧ acc' ++ zs = acc ++ ys ∧ i ≤ xs.length ∧ m = xs.length - i,
    ⟨_, acc, Ma, S1, ys, I, kp, e, rfl, Nat.zero_le _, rfl⟩, ?_⟩
  rintro i m H ⟨acc', M, S, zs, I', kp', e', ea, hi, rfl⟩
  by_cases hlt : i < xs.length
  · rw [List.drop_eq_getElem_cons hlt] at e'
    simp only [lpC] at e'
    split at e'
    · rename_i st
      simp only [Option.bind_eq_some_iff] at e'
      obtain ⟨⟨z1, S3⟩, e1, ⟨z2, S4⟩, e2, e3⟩ := e'
      cases e3
      obtain ⟨M, I', kp', wa⟩ := w acc' H M S I' kp' st
      obtain ⟨go, yl⟩ := wa.go i xs[i] (List.getElem?_eq_getElem hlt)
      refine .inr ⟨go, fun H' => ∃ M', LcR K μ S0.length H0 M0 Dl (acc' ++ z1) H' M' S3 ∧ Kp H1 M1 H' M', fun H' ⟨M', I2, kp2⟩ => ⟨xs.length - (i + 1), by omega, acc' ++ z1, M', S3, z2, I2, kp2, e2, by rw [← ea]; simp, hlt, rfl⟩, fun x H' y => ?_⟩
      obtain ⟨x1, x2⟩ := yl x H' y
      refine hturn acc' xs[i] z1 H' M S S3 (I'.ext x1) (kp'.trans (Kp.ext x1)) e1 ?_ x x2 _ fun H2 M2 I2 kp2 => ⟨M2, I2, kp2⟩
      rw [← ea]; simp
    · cases e'
  · have hx : i = xs.length := by omega
    subst hx
    rw [List.drop_length] at e'
    simp only [lpC] at e'
    split at e'
    · rename_i st
      cases e'
      obtain ⟨M, I', kp', wa⟩ := w acc' H M _ I' kp' st
      rw [List.append_nil] at ea
      subst ea
      exact .inl ⟨wa.stop, fin H M I' kp'⟩
    · cases e'
theorem walkr_any {J : L2.It} {xs : List D} {k : Option (Nat × List D)} (p : RS K μ H0 M0 S0) (w : Walk K J xs k μ H1 M1) : ∀ acc H M S, LcR K μ S0.length H0 M0 Dl acc H M S → Kp H1 M1 H M → still k S → ∃ M2, LcR K μ S0.length H0 M0 Dl acc H M2 S ∧ Kp H1 M1 H M2 ∧ WalkAt K J xs H M2 :=
  fun acc H M S I kp st => ⟨M, I, kp, w μ H M S kp (I.go.rs p) (fun _ _ _ => rfl) st⟩
theorem lcr_turn {t : Tg} {ifs : IEs} {x : D} {vs : List Nat} {zs : List D} {fn : Ev → Store → Option (List D × Store)} {B : L2.St → Hp → Prop} {Nx : Hp → Prop} (p : RS K μ H0 M0 S0) (I : LcR K μ S0.length H0 M0 Dl acc H M S) (kp : Kp H1 M1 H M) (sl : Sl K fa μ S.length H M σd σ)
    (ht : ∀ j ∈ tgn t, j ∈ vs) (e : ((asg t x (Ip.wipe σd vs)).bind fun σ1 => (tst cf ifs σ1 S).bind fun (b, S3) => if b then fn σ1 S3 else some ([], S3)) = some (zs, S')) (pv : Pu K H M v x)
    (hN : ∀ H' M', LcR K μ S0.length H0 M0 Dl (acc ++ zs) H' M' S' → Kp H1 M1 H' M' → Nx H')
    (hB : ∀ σ1 σ2 H3 M3 S3, LcR K μ S0.length H0 M0 Dl acc H3 M3 S3 → Kp H1 M1 H3 M3 → Sl K fa μ S3.length H3 M3 σ1 σ2 → fn σ1 S3 = some (zs, S') → B σ2 H3) :
    tG K fa t v (L2.wipe σ vs) H fun σ2 H2 => L2.wipe σ2 vs = L2.wipe σ vs ∧ tTs K fa cf ifs σ2 H2 fun b H3 => if b = true then B σ2 H3 else Nx H3 := by
  simp only [Option.bind_eq_some_iff] at e
  obtain ⟨σ1, e1, ⟨b, S3⟩, e2, e3⟩ := e
  refine ⟨μ, S.length, M, x, _, σ1, pv, sl.wipe vs, e1, fun σ' s' hj hl => ⟨wipe_wipe ht (by rw [hl, wipe_length]) hj, ?_⟩⟩
  refine ⟨μ, M, S, σ1, b, S3, s'.rp (I.go.rs p), e2, fun H3 M3 g => ?_⟩
  have I3 := I.step p g
  have kp3 := kp.trans (g.kpt (I.go.rs p))
  cases b with
  | false =>
    simp only [Bool.false_eq_true, if_false] at e3 ⊢
    cases e3
    exact hN _ _ (by rw [List.append_nil]; exact I3) kp3
  | true =>
    simp only [if_true] at e3 ⊢
    exact hB σ1 σ' H3 M3 S3 I3 kp3 ((g.rp (s'.rp (I.go.rs p))).toSl) e3
end
section
variable {X : Cx} {fa : Nat → Addr} {cf : Cf} {pos : Pos}
theorem lcr_fin {K : PySem.W.Frag} {μ : Nat → Addr} {H0 H : Hp} {M0 M : Mk} {Dl : Addr} {acc : List D} {S0 S : Store} (p : RS K μ H0 M0 S0) (I : LcR K μ S0.length H0 M0 Dl acc H M S) : ∃ M1, Go K μ S0.length H0 M0 H M1 S ∧ RR K fa μ S0.length H0 H M1 (.fr acc) (.ref Dl) := by
  obtain ⟨as, h1, h2, h3, h4⟩ := I.ct
  refine ⟨fun b => M b ∧ b ≠ Dl, I.go.drop (fun b z => ⟨I.go.mm b z, fun e => (p.dom b z).1 (e ▸ I.nw)⟩) (fun b z => z.1) (fun k hk => ⟨I.go.mm _ (p.mu hk), Ne.symm (I.ne p k hk)⟩), Dl, as, rfl, fun z => z.2 rfl, h1, h2, ?_⟩
  exact h4.mono (fun _ _ e _ => e) (fun b _ _ z => z.1) (fun b hb z => ⟨z, fun e => h3 (e ▸ hb)⟩) fun _ _ _ e => e
theorem lcr_one {it : It} {t : Tg} {ie : IE} {own : List Nat} {σ : L2.St} {H : Hp} {Z : VK} (ht : ∀ j ∈ tgn t, j ∈ own) (h : tE X.K fa cf (.compr ie own t it) σ H Z) :
    tLc (tI X.K fa cf it) (tG X.K fa t) (tTs X.K fa cf .nil) (tE X.K fa cf ie) own σ H Z := by
  obtain ⟨μ, M, S, σd, r, S', p, e, q⟩ := h
  simp only [ev, Option.bind_eq_some_iff] at e
  obtain ⟨⟨xs, k, S1⟩, e1, ⟨ys, S4⟩, e2, e⟩ := e
  split at e
  · rename_i hlim
    cases e
    have hlim : ys.length ≤ LIM := hlim
    refine ⟨μ, M, S, σd, xs, k, S1, p, e1, fun J H1 M1 g1 w Dl hD => ?_⟩
    have I0 : LcR X.K μ S.length H M Dl [] (upd H1 Dl (.lst [])) (fun b => M1 b ∨ b = Dl) S1 := ⟨g1.put (.upd hD) hD (by rw [upd_same]; exact ⟨by simp, fun xs z => by cases z⟩), .inr rfl, g1.none hD, [], upd_same, .nil, by simp, rfl, fun i b x e => by simp at e⟩
    have k0 : Kp H1 M1 (upd H1 Dl (.lst [])) (fun b => M1 b ∨ b = Dl) := ⟨fun b o e _ => Ext.upd hD b o e, fun b o e z => z.elim id fun z => by rw [z, hD] at e; cases e⟩
    refine lcr_loop (turn := fun x H' Nx => tG X.K fa t x (L2.wipe σ own) H' fun σ2 H2 => L2.wipe σ2 own = L2.wipe σ own ∧ tTs X.K fa cf .nil σ2 H2 fun b H3 => if b = true then tE X.K fa cf ie σ2 H3 fun y H4 => ∃ acc, H4 Dl = some (.lst acc) ∧ acc.length < sizeLine ∧ Nx (upd H4 Dl (.lst (acc ++ [y]))) else Nx H3)
      p.toRS (walkr_any p.toRS w) I0 k0 e2 (fun acc x zs H M S S' I kp ef hle v pv Nx hN => ?_) fun H M I _ => by
        obtain ⟨M1, g, rr⟩ := lcr_fin (fa := fa) p.toRS I
        exact q _ H M1 g rr
    refine lcr_turn (fn := fun σ1 S2 => (ev cf ie σ1 S2).bind fun (r, S3) => (match r with
        | .f z => some ([z], S3)
        | _ => none)) p.toRS I kp (I.go.rp p).toSl ht ?_ pv hN fun σ1 σ2 H3 M3 S3 I3 kp3 s3 ef3 => ?_
    · simp only [tst, Option.bind_some, if_true]
      exact ef
    simp only [Option.bind_eq_some_iff] at ef3
    obtain ⟨⟨r, S5⟩, e3, e4⟩ := ef3
    obtain ⟨z, rfl⟩ : ∃ z, r = .f z := by cases r <;> first | exact ⟨_, rfl⟩ | cases e4
    cases e4
    refine lcr_elem p.toRS I3 s3 e3 ?_ fun H' M' I4 kp4 => hN H' M' I4 (kp3.trans kp4)
    simp only [List.length_append, List.length_cons, List.length_nil, List.nil_append] at hle
    omega
  · cases e
end
end Ip
namespace Ip
open PySem PySem.Spec PyProof.Rows L2
section
variable {X : Cx} {fa : Nat → Addr} {cf : Cf} {a b : Expr} {ia ib : IE} {es : List Expr} {is : IEs} {pos apos cpos : Pos}
theorem se_lcr {elt tg iter : Expr} {scope : Scope} {own : List (Str × Nat)} {it : It} {t : Tg} {ie : IE} (hc : X.calm = true) (hN : X.N.Nodup) (hi : I X fa cf tg iter it) (ok : BlkOk X.N X.env.scope scope own) (ht : ∀ j ∈ tgn t, j ∈ own.map (·.2))
    (hg : ∀ (s : Shared) (H : Hp) (C : Addr) (cl : List (Str × Addr)) (fp : List Addr), G (X.blk s H scope (compEnvC scope cl C X.env) fp) fa tg t)
    (he : ∀ (s : Shared) (H : Hp) (C : Addr) (cl : List (Str × Addr)) (fp : List Addr), E (X.blk s H scope (compEnvC scope cl C X.env) fp) fa cf elt ie) (hs : ∀ x, foldedSetIterable iter X.env x = pure x) :
    E X fa cf (.ListComp elt [⟨tg, iter, [], 0⟩] scope pos) (.compr ie (own.map (·.2)) t it) :=
  PE.imp (pe_lc hc hN hi ok hg (fun s H C cl fp => sts_nil) he hs) fun σ H Z h => lcr_one ht h
/-- found[e], a place -/
theorem se_rsub {i : Nat} (hv : PE X a (tVar i)) (hb : E X fa cf b ib) (hs : PlainIx b) : E X fa cf (.Subscript a b pos) (.rsub i ib) := by
  refine PE.imp (pe_ix ix_list hv hb hs) fun σ H Q ⟨μ, M, S, σd, r, S', p, e, q⟩ => ?_
  simp only [ev] at e
  split at e
  · rename_i ks hn
    simp only [Option.bind_eq_some_iff] at e
    obtain ⟨⟨y, S1⟩, e1, e⟩ := e
    obtain ⟨k, rfl⟩ : ∃ k, y = .d (.int k) := by
      cases y with
      | d x => cases x <;> first | exact ⟨_, rfl⟩ | cases e
      | _ => cases e
    simp only [Option.bind_eq_some_iff] at e
    obtain ⟨j, e2, m, e3, e4⟩ := e
    cases e4
    obtain ⟨v, h1, a0, rfl, na, ha, hk⟩ := p.sl i _ hn
    refine ⟨_, h1, μ, M, S, σd, _, _, p, e1, fun v2 H1 M1 g1 q1 => ?_⟩
    cases q1
    have hm : m < S.length := hk m (List.mem_of_getElem? e3)
    refine ⟨_, _, _, V.ref (μ m), rfl, rfl, SqL.of (g1.keep p.toRS _ _ ha na), ?_, q _ H1 M1 g1 ⟨hm, rfl⟩⟩
    unfold L2.atI
    rw [List.length_map, e2]
    show (ks.map fun k => V.ref (μ k))[j]? = _
    rw [List.getElem?_map, e3]; rfl
  · cases e
/-- a place that an expression gives is changed -/
theorem se_muto {m : Mm} {name : Str} (slot : Slot "list" name (mmId m)) (hty : typeOf (.builtin (mmId m)) = pure (.type "method_descriptor")) (ho : E X fa cf a ia) (h : L X fa cf (b :: es) is)
    (hbase : attributeBase a name X.env (eval a X.env) = eval a X.env)
    (hfew : ((backTo cpos (starEach (b :: es) X.env)).all (fun x => !x.1) && (backToKw cpos (keywordEach [] X.env)).all (fun x => x.1.isSome) && decide ((b :: es).length + ([] : List Keyword).length + (if ([] : List Keyword).isEmpty then 0 else 1) < 30)) = true)
    (hline : (apos.endLine == cpos.line) = true) (hs : starEach (b :: es) X.env = (false, eval b X.env) :: starEach es X.env) (hpl : (backTo cpos (starEach es X.env)).any (·.1) = false) :
    E X fa cf (.Call (.Attribute a name apos) (b :: es) [] cpos) (.muto m ia is) := by
  refine PE.imp (pe_bm F.plainAttrs_list slot hty (mut_all m) ho h hbase hfew hline hs hpl) fun σ H Z ⟨μ, M, S, σd, r, S', p, e, q⟩ => ?_
  simp only [ev, Option.bind_eq_some_iff] at e
  obtain ⟨⟨x, S1⟩, e1, e⟩ := e
  obtain ⟨n, rfl⟩ : ∃ n, x = .l n := by cases x <;> first | exact ⟨_, rfl⟩ | cases e
  simp only [Option.bind_eq_some_iff] at e
  obtain ⟨u0, e0, e⟩ := e
  split at e
  · rename_i hl
    simp only [Option.bind_eq_some_iff] at e
    obtain ⟨⟨rs, S2⟩, e2, ys, e3, u, e4, ⟨u', r0⟩, e5, e6⟩ := e
    cases e6
    refine ⟨μ, M, S, σd, .l n, S1, p, e1, fun v H1 M1 g1 q1 => ?_⟩
    obtain ⟨hk, rfl⟩ := q1
    have p1 := g1.rs p.toRS
    refine ⟨mut_ty p1 e0 hl, μ, M1, S1, σd, rs, S2, g1.rp p, e2, fun vs H2 M2 as g2 q2 => ?_⟩
    exact mut_end (fa := fa) p1 g2 q2 e3 e4 e5 fun v H' M' g pu => q v H' M' (g1.then g) pu
  · cases e
end
end Ip

set_option Elab.async false
set_option linter.all false
set_option maxRecDepth 100000
set_option maxHeartbeats 1000000
/-! Statements: the frame's state. -/
namespace Ip
open PySem PySem.Spec PyProof.Rows L2

/-- the frame's part: base places are as at the start -/
structure Fb (K : PySem.W.Frag) (B : Nat) (μ0 : Nat → Addr) (H0 : Hp) (M0 : Mk) (μ : Nat → Addr) (H : Hp) (M : Mk) (S : Store) : Prop where
  rs : RS K μ H M S
  mu : ∀ k, k < B → μ k = μ0 k
  own : ∀ k, B ≤ k → k < S.length → H0 (μ k) = none
  go : Go K μ0 B H0 M0 H M (S.take B)
  le : B ≤ S.length
  d0 : Dom H0 M0
structure Fr (K : PySem.W.Frag) (fa : Nat → Addr) (B : Nat) (μ0 : Nat → Addr) (H0 : Hp) (M0 : Mk) (μ : Nat → Addr) (H : Hp) (M : Mk) (S : Store) (σd : Ev) (σ : L2.St) : Prop extends Fb K B μ0 H0 M0 μ H M S where
  sl : Sl K fa μ S.length H M σd σ
  uq : ∀ (i j n : Nat), B ≤ n → σd[i]? = some (some (.l n)) → σd[j]? = some (some (.l n)) → i = j
  uw : ∀ (i j n : Nat) (ks : List Nat), B ≤ n → σd[i]? = some (some (.l n)) → σd[j]? = some (some (.rw ks)) → n ∉ ks
section
variable {K : PySem.W.Frag} {fa μ μ0 : Nat → Addr} {B n : Nat} {L : List Nat} {H0 H H1 H2 H' : Hp} {M0 M M1 M2 M' : Mk} {S S1 S2 S' : Store} {σd σd' : Ev} {σ : L2.St} {r : Ip.R} {v : V} {d : D}
theorem Fr.rp (f : Fr K fa B μ0 H0 M0 μ H M S σd σ) : Rp K fa μ H M S σd σ := f.sl.rp f.rs
theorem Fb.step (f : Fb K B μ0 H0 M0 μ H M S) (g : Go K μ S.length H M H' M' S') : Fb K B μ0 H0 M0 μ H' M' S' := by
  have p' := g.rs f.rs
  refine ⟨p', f.mu, fun k h1 h2 => f.own k h1 (by rw [← g.ln]; exact h2), ?_, by rw [g.ln]; exact f.le, f.d0⟩
  refine ⟨fun b z => g.mm b (f.go.mm b z), fun b z => ?_, g.dom, fun b o e k => ?_, fun b z => g.dm b (f.go.dm b z), fun b o u e => g.fz b o u (f.go.fz b o u e), by rw [List.length_take, g.ln]; exact Nat.min_eq_left f.le, fun k x e => ?_⟩
  · rcases g.new b z with h | h
    · exact f.go.new b h
    · refine .inr ?_
      cases e : H0 b with
      | none => rfl
      | some o => exact absurd h (f.go.dm b (by rw [e]; simp))
  · refine g.fr b o (f.go.fr b o e k) fun j hj z => ?_
    by_cases hB : j < B
    · exact k j hB (by rw [z, f.mu j hB])
    · rw [z, f.own j (by omega) hj] at e; cases e
  · have hk : k < B := by
      have := (List.getElem?_eq_some_iff.mp e).1
      rw [List.length_take] at this; omega
    rw [List.getElem?_take_of_lt hk] at e
    have := g.st k x e
    rw [f.mu k hk] at this
    exact this
theorem Go.sl (g : Go K μ S.length H M H' M' S') (p : RS K μ H M S) (s : Sl K fa μ S.length H M σd σ) : Sl K fa μ S'.length H' M' σd σ := (g.rp (s.rp p)).toSl
theorem Fr.step (f : Fr K fa B μ0 H0 M0 μ H M S σd σ) (g : Go K μ S.length H M H' M' S') : Fr K fa B μ0 H0 M0 μ H' M' S' σd σ := ⟨f.toFb.step g, g.sl f.rs f.sl, f.uq, f.uw⟩
/-- a name gets what is no own place -/
theorem Sl.setr (s : Sl K fa μ n H M σd σ) (p : RV K fa μ n H M r v) (i : Nat) : Sl K fa μ n H M (σd.set i (some r)) (σ.set i (some v)) := by
  refine ⟨by simp [s.ln], fun j q e => ?_⟩
  by_cases h : i = j
  · subst h
    by_cases hl : i < σd.length
    · rw [List.getElem?_set_self hl] at e
      cases e
      exact ⟨v, List.getElem?_set_self (by rw [← s.ln]; exact hl), p⟩
    · rw [List.getElem?_eq_none (by simpa using hl)] at e; cases e
  · rw [List.getElem?_set_ne h] at e ⊢
    exact s.sl j q e
theorem set_get {i j : Nat} {q : Option Ip.R} {x : Ip.R} (e : (σd.set i q)[j]? = some (some x)) : (i = j ∧ q = some x) ∨ (i ≠ j ∧ σd[j]? = some (some x)) := by
  by_cases h : i = j
  · subst h
    by_cases hl : i < σd.length
    · rw [List.getElem?_set_self hl] at e; exact .inl ⟨rfl, by simpa using e⟩
    · rw [List.getElem?_eq_none (by simpa using hl)] at e; cases e
  · rw [List.getElem?_set_ne h] at e; exact .inr ⟨h, e⟩
theorem Fr.setr (f : Fr K fa B μ0 H0 M0 μ H M S σd σ) (p : RV K fa μ S.length H M r v) (hr : ∀ n, r = .l n → n < B) (i : Nat) (hw : ∀ ks, r ≠ .rw ks := by intro ks z; cases z) : Fr K fa B μ0 H0 M0 μ H M S (σd.set i (some r)) (σ.set i (some v)) := by
  refine ⟨f.toFb, f.sl.setr p i, fun a b n h e1 e2 => ?_, fun a b n ks h e1 e2 => ?_⟩
  · rcases set_get e1 with ⟨rfl, h1⟩ | ⟨h1, h1'⟩
    · have := hr n (Option.some.inj h1); omega
    · rcases set_get e2 with ⟨rfl, h2⟩ | ⟨h2, h2'⟩
      · have := hr n (Option.some.inj h2); omega
      · exact f.uq a b n h h1' h2'
  · rcases set_get e1 with ⟨rfl, h1⟩ | ⟨h1, h1'⟩
    · have := hr n (Option.some.inj h1); omega
    · rcases set_get e2 with ⟨rfl, h2⟩ | ⟨h2, h2'⟩
      · exact absurd (Option.some.inj h2) (hw ks)
      · exact f.uw a b n ks h h1' h2'
/-- from a name to another one -/
theorem Fr.mv {i j : Nat} (f : Fr K fa B μ0 H0 M0 μ H M S σd σ) (hj : σd[j]? = some (some (.l n))) (p : RV K fa μ S.length H M (.l n) v) (hij : i ≠ j) : Fr K fa B μ0 H0 M0 μ H M S ((σd.set j none).set i (some (.l n))) (σ.set i (some v)) := by
  have s0 : Sl K fa μ S.length H M (σd.set j none) σ := ⟨by simp [f.sl.ln], fun k q e => by
    rcases set_get e with ⟨_, h⟩ | ⟨_, h⟩
    · cases h
    · exact f.sl.sl k q h⟩
  refine ⟨f.toFb, s0.setr p i, fun a b m h e1 e2 => ?_, fun a b m ks h e1 e2 => ?_⟩
  rotate_left
  · have q1 : ∀ {c : Nat} {x : Ip.R}, (σd.set j none)[c]? = some (some x) → σd[c]? = some (some x) := fun {c x} e => by
      rcases set_get e with ⟨_, h⟩ | ⟨h0, h⟩
      · cases h
      · exact h
    rcases set_get e2 with ⟨_, h2⟩ | ⟨h2, h2'⟩
    · cases h2
    · rcases set_get e1 with ⟨rfl, h1⟩ | ⟨h1, h1'⟩
      · cases h1
        exact f.uw j b n ks h hj (q1 h2')
      · exact f.uw a b m ks h (q1 h1') (q1 h2')
  have q0 : ∀ {a : Nat}, (σd.set j none)[a]? = some (some (Ip.R.l m)) → σd[a]? = some (some (Ip.R.l m)) ∧ j ≠ a := fun {a} e => by
    rcases set_get e with ⟨_, h⟩ | ⟨h0, h⟩
    · cases h
    · exact ⟨h, h0⟩
  rcases set_get e1 with ⟨rfl, h1⟩ | ⟨h1, h1'⟩
  · cases h1
    rcases set_get e2 with ⟨h2, _⟩ | ⟨h2, h2'⟩
    · exact h2
    · exact absurd (f.uq j b n h hj (q0 h2').1) (q0 h2').2
  · rcases set_get e2 with ⟨rfl, h2⟩ | ⟨h2, h2'⟩
    · cases h2
      exact absurd (f.uq j a n h hj (q0 h1').1) (q0 h1').2
    · exact f.uq a b m h (q0 h1').1 (q0 h2').1
/-- by a target: data alone are stored -/
theorem Fr.slots (f : Fr K fa B μ0 H0 M0 μ H M S σd σ) {σ' : L2.St} (s : Sl K fa μ S.length H M σd' σ') (hd : ∀ (j : Nat) (r : Ip.R), (∀ d, r ≠ .d d) → σd'[j]? = some (some r) → σd[j]? = some (some r)) : Fr K fa B μ0 H0 M0 μ H M S σd' σ' :=
  ⟨f.toFb, s, fun a b n h e1 e2 => f.uq a b n h (hd _ _ (fun _ z => by cases z) e1) (hd _ _ (fun _ z => by cases z) e2), fun a b n ks h e1 e2 => f.uw a b n ks h (hd _ _ (fun _ z => by cases z) e1) (hd _ _ (fun _ z => by cases z) e2)⟩
def upA (μ : Nat → Addr) (n : Nat) (a : Addr) : Nat → Addr := fun k => if k = n then a else μ k
theorem upA_ne {n k : Nat} {a : Addr} (h : k ≠ n) : upA μ n a k = μ k := if_neg h
theorem upA_same {n : Nat} {a : Addr} : upA μ n a n = a := if_pos rfl
/-- a new container goes to a place: n (an own one, or the next) -/
theorem Fb.put {a : Addr} {x : D} (f : Fb K B μ0 H0 M0 μ H M S) (g : Go K μ S.length H M H' M' S1) (ha : H a = none) (hm : M' a) (c : Ct K H' M' a x) (hB : B ≤ n)
    (hl : n ≤ S1.length) (S' : Store) (hS : S'.length = max S1.length (n + 1)) (hn : S'[n]? = some x) (hk : ∀ k, k ≠ n → S'[k]? = S1[k]?) : Fb K B μ0 H0 M0 (upA μ n a) H' M' S' := by
  have f1 := f.step g
  have hne : ∀ k, k < S1.length → μ k ≠ a := fun k h z => by
    rw [g.ln] at h
    exact (f.rs.dom _ (f.rs.mu h)).1 (z ▸ ha)
  have lt : ∀ k, k < S'.length → k ≠ n → k < S1.length := fun k h h2 => by rw [hS] at h; omega
  refine ⟨⟨f1.rs.dom, fun k y e => ?_, fun k m h1 h2 e => ?_⟩, fun k h => ?_, fun k h1 h2 => ?_, ?_, by rw [hS]; omega, f.d0⟩
  · by_cases h : k = n
    · subst h
      rw [hn] at e; cases e
      rw [upA_same]; exact ⟨hm, .inr c⟩
    · rw [hk k h] at e
      rw [upA_ne h]; exact f1.rs.st k y e
  · by_cases h : k = n
    · by_cases h' : m = n
      · omega
      · rw [h, upA_same, upA_ne h'] at e
        exact absurd e.symm (hne m (lt m h2 h'))
    · by_cases h' : m = n
      · rw [h', upA_same, upA_ne h] at e
        exact absurd e (hne k (lt k h1 h))
      · rw [upA_ne h, upA_ne h'] at e
        exact f1.rs.inj k m (lt k h1 h) (lt m h2 h') e
  · rw [upA_ne (by omega)]; exact f.mu k h
  · by_cases h : k = n
    · rw [h, upA_same]
      cases e : H0 a with
      | none => rfl
      | some o => exact absurd ha (f.go.dm a (by rw [e]; simp))
    · rw [upA_ne h]; exact f1.own k h1 (lt k h2 h)
  · have e : S'.take B = S1.take B := by
      refine List.ext_getElem? fun k => ?_
      by_cases h : k < B
      · rw [List.getElem?_take_of_lt h, List.getElem?_take_of_lt h, hk k (by omega)]
      · rw [List.getElem?_take_eq_none (by omega), List.getElem?_take_eq_none (by omega)]
    rw [e]; exact f1.go
theorem Sl.up {a : Addr} {i n m N : Nat} (s : Sl K fa μ m H M σd σ) (hm : m ≤ N) (hn : n < N) (hu : ∀ j, j ≠ i → σd[j]? ≠ some (some (.l n))) (hw : ∀ j ks, j ≠ i → σd[j]? = some (some (.rw ks)) → n ∉ ks) : Sl K fa (upA μ n a) N H M (σd.set i (some (.l n))) (σ.set i (some (.ref a))) := by
  refine ⟨by simp [s.ln], fun j q e => ?_⟩
  rcases set_get e with ⟨rfl, h⟩ | ⟨h, h'⟩
  · cases h
    have hl : i < σd.length := by
      have := (List.getElem?_eq_some_iff.mp e).1
      simpa using this
    exact ⟨_, List.getElem?_set_self (by rw [← s.ln]; exact hl), hn, by rw [upA_same]⟩
  · obtain ⟨v, h1, h2⟩ := s.sl j q h'
    refine ⟨v, by rw [List.getElem?_set_ne h]; exact h1, ?_⟩
    cases q with
    | l k =>
      obtain ⟨h3, h4⟩ := h2
      refine ⟨by omega, ?_⟩
      rw [h4, upA_ne]
      intro z
      exact hu j (Ne.symm h) (z ▸ h')
    | d x => exact h2
    | f x => exact h2
    | fn k => exact h2
    | s0 ns => exact h2
    | fr xs => exact h2.elim
    | rw ks =>
      obtain ⟨b, e1, e2, e3, e4⟩ := h2
      refine ⟨b, e1, e2, ?_, fun k hk => by have := e4 k hk; omega⟩
      rw [e3]
      congr 2
      refine List.map_congr_left fun k hk => ?_
      rw [upA_ne]
      rintro rfl
      exact hw j ks (Ne.symm h) h' hk
/-- one more own place -/
theorem Fb.app {a : Addr} {x : D} (f : Fb K B μ0 H0 M0 μ H M S) (hm : M a) (c : Ct K H M a x) (hne : ∀ k, k < S.length → μ k ≠ a) (h0 : H0 a = none) : Fb K B μ0 H0 M0 (upA μ S.length a) H M (S ++ [x]) := by
  have lt : ∀ k, k < (S ++ [x]).length → k ≠ S.length → k < S.length := fun k h h2 => by rw [List.length_append, List.length_singleton] at h; omega
  have hle := f.le
  refine ⟨⟨f.rs.dom, fun k y e => ?_, fun k m h1 h2 e => ?_⟩, fun k h => ?_, fun k h1 h2 => ?_, ?_, by rw [List.length_append]; omega, f.d0⟩
  · by_cases h : k = S.length
    · subst h
      rw [List.getElem?_append_right (Nat.le_refl _), Nat.sub_self] at e
      cases e
      rw [upA_same]; exact ⟨hm, .inr c⟩
    · have hk := lt k (List.getElem?_eq_some_iff.mp e).1 h
      rw [List.getElem?_append_left hk] at e
      rw [upA_ne h]; exact f.rs.st k y e
  · by_cases h : k = S.length
    · by_cases h' : m = S.length
      · omega
      · rw [h, upA_same, upA_ne h'] at e
        exact absurd e.symm (hne m (lt m h2 h'))
    · by_cases h' : m = S.length
      · rw [h', upA_same, upA_ne h] at e
        exact absurd e (hne k (lt k h1 h))
      · rw [upA_ne h, upA_ne h'] at e
        exact f.rs.inj k m (lt k h1 h) (lt m h2 h') e
  · rw [upA_ne (by omega)]; exact f.mu k h
  · by_cases h : k = S.length
    · rw [h, upA_same]; exact h0
    · rw [upA_ne h]; exact f.own k h1 (lt k h2 h)
  · have e : (S ++ [x]).take B = S.take B := List.take_append_of_le_length hle
    rw [e]; exact f.go
theorem Fb.apps : ∀ {as : List Addr} {xs : List D} {μ : Nat → Addr} {S : Store} (f : Fb K B μ0 H0 M0 μ H M S), as.length = xs.length → as.Nodup → (∀ (i : Nat) (b : Addr) (x : D), as[i]? = some b → xs[i]? = some x → M b ∧ Ct K H M b x) → (∀ b ∈ as, H0 b = none ∧ ∀ k, k < S.length → μ k ≠ b) →
    ∃ μ', Fb K B μ0 H0 M0 μ' H M (S ++ xs) ∧ (∀ k, k < S.length → μ' k = μ k) ∧ ∀ (i : Nat) (b : Addr), as[i]? = some b → μ' (S.length + i) = b
  | [], [], μ, S, f, _, _, _, _ => ⟨μ, by rw [List.append_nil]; exact f, fun _ _ => rfl, fun i b e => by simp at e⟩
  | a :: as, x :: xs, μ, S, f, hl, hn, hc, hb => by
    obtain ⟨n1, n2⟩ := List.nodup_cons.mp hn
    obtain ⟨c1, c2⟩ := hc 0 a x rfl rfl
    obtain ⟨b1, b2⟩ := hb a (List.mem_cons_self ..)
    have f1 := f.app c1 c2 b2 b1
    obtain ⟨μ', f', k1, k2⟩ := Fb.apps (as := as) (xs := xs) f1 (by simpa using hl) n2 (fun i b y e1 e2 => hc (i + 1) b y (by simpa using e1) (by simpa using e2)) fun b hbm => by
      obtain ⟨q1, q2⟩ := hb b (List.mem_cons_of_mem _ hbm)
      refine ⟨q1, fun k hk => ?_⟩
      by_cases h : k = S.length
      · rw [h, upA_same]
        rintro rfl
        exact n1 hbm
      · rw [upA_ne h]
        exact q2 k (by rw [List.length_append, List.length_singleton] at hk; omega)
    refine ⟨μ', by rw [List.append_assoc] at f'; exact f', fun k hk => ?_, fun i b e => ?_⟩
    · rw [k1 k (by rw [List.length_append]; omega), upA_ne (by omega)]
    · cases i with
      | zero =>
        simp at e
        subst e
        rw [Nat.add_zero, k1 _ (by rw [List.length_append]; simp), upA_same]
      | succ i =>
        have := k2 i b (by simpa using e)
        rw [List.length_append, List.length_singleton] at this
        rw [show S.length + (i + 1) = S.length + 1 + i by omega]
        exact this
/-- name = .. -/
theorem Fr.setv {m : Bool} {i : Nat} (f : Fr K fa B μ0 H0 M0 μ H M S σd σ) (g : Go K μ S.length H M H' M' S1) (q : RR K fa μ S.length H H' M' r v) (hL : ∀ n ∈ L, n < S.length) (e : setv B L m σd S1 i r = some (σd', S')) :
    ∃ μ' M'', Fr K fa B μ0 H0 M0 μ' H' M'' S' σd' (σ.set i (some v)) ∧ Kp H M H' M'' ∧ (∀ n ∈ L, μ' n = μ n) ∧ S1.length ≤ S'.length := by
  have f1 := f.step g
  have kp := g.kpt f.rs
  cases r with
  | d x =>
    cases e
    exact ⟨μ, M', f1.setr (r := .d x) q (fun n z => by cases z) i, kp, fun _ _ => rfl, Nat.le_refl _⟩
  | fn k =>
    cases e
    exact ⟨μ, M', f1.setr (r := .fn k) q (fun n z => by cases z) i, kp, fun _ _ => rfl, Nat.le_refl _⟩
  | s0 ns =>
    cases e
    exact ⟨μ, M', f1.setr (r := .s0 ns) q (fun n z => by cases z) i, kp, fun _ _ => rfl, Nat.le_refl _⟩
  | rw ks => cases e
  | fr xs =>
    cases e
    obtain ⟨a, as, rfl, na, ha, hnd, hl, hrow⟩ := q
    have hlt : ∀ b ∈ as, ∃ (i : Nat) (x : D), as[i]? = some b ∧ xs[i]? = some x := fun b hb => by
      obtain ⟨i, hi⟩ := List.getElem?_of_mem hb
      have h1 := (List.getElem?_eq_some_iff.mp hi).1
      exact ⟨i, xs[i], hi, List.getElem?_eq_getElem (by omega)⟩
    obtain ⟨μ', f', k1, k2⟩ := f1.toFb.apps hl hnd (fun i b x e1 e2 => (hrow i b x e1 e2).2) fun b hb => by
      obtain ⟨i, x, e1, e2⟩ := hlt b hb
      have h0 := (hrow i b x e1 e2).1
      refine ⟨?_, fun k hk z => ?_⟩
      · cases e : H0 b with
        | none => rfl
        | some o => exact absurd h0 (f.go.dm b (by rw [e]; simp))
      · rw [g.ln] at hk
        exact (f.rs.dom _ (f.rs.mu hk)).1 (z ▸ h0)
    refine ⟨μ', M', ⟨f', ⟨by simp [f1.sl.ln], fun j q e => ?_⟩, fun p q n h e1 e2 => ?_, fun p q n ks h e1 e2 => ?_⟩, kp, fun n h => k1 n (by rw [g.ln]; exact hL n h), by simp⟩
    · rcases set_get e with ⟨rfl, h⟩ | ⟨h, h'⟩
      · cases h
        have hli : i < σd.length := by
          have := (List.getElem?_eq_some_iff.mp e).1
          simpa using this
        refine ⟨_, List.getElem?_set_self (by rw [← f1.sl.ln]; exact hli), a, rfl, na, ?_, fun k hk => ?_⟩
        · rw [ha]
          congr 2
          refine List.ext_getElem? fun j => ?_
          rw [List.getElem?_map, List.getElem?_map]
          by_cases hj : j < as.length
          · rw [List.getElem?_eq_getElem hj, List.getElem?_eq_getElem (by rw [List.length_range']; omega)]
            simp only [Option.map_some, List.getElem_range']
            rw [show S1.length + 1 * j = S1.length + j by omega, k2 j as[j] (List.getElem?_eq_getElem hj)]
          · rw [List.getElem?_eq_none (by omega), List.getElem?_eq_none (by rw [List.length_range']; omega)]
            rfl
        · rw [List.mem_range'_1] at hk
          rw [List.length_append]; omega
      · obtain ⟨v, h1, h2⟩ := f1.sl.sl j q h'
        refine ⟨v, by rw [List.getElem?_set_ne h]; exact h1, ?_⟩
        cases q with
        | l k =>
          obtain ⟨h3, h4⟩ := h2
          exact ⟨by rw [List.length_append]; omega, by rw [h4, k1 k h3]⟩
        | d x => exact h2
        | f x => exact h2
        | fn k => exact h2
        | s0 ns => exact h2
        | fr ys => exact h2.elim
        | rw ks =>
          obtain ⟨b, e1, e2, e3, e4⟩ := h2
          refine ⟨b, e1, e2, ?_, fun k hk => by have := e4 k hk; rw [List.length_append]; omega⟩
          rw [e3]
          congr 2
          exact List.map_congr_left fun k hk => by rw [k1 k (e4 k hk)]
    · rcases set_get e1 with ⟨_, h1⟩ | ⟨h1, h1'⟩
      · cases h1
      · rcases set_get e2 with ⟨_, h2⟩ | ⟨h2, h2'⟩
        · cases h2
        · exact f.uq p q n h h1' h2'
    · rcases set_get e1 with ⟨_, h1⟩ | ⟨h1, h1'⟩
      · cases h1
      · rcases set_get e2 with ⟨_, h2⟩ | ⟨h2, h2'⟩
        · cases h2
          obtain ⟨v, h3, h4, _⟩ := f1.sl.sl p _ h1'
          intro hk
          rw [List.mem_range'_1] at hk
          omega
        · exact f.uw p q n ks h h1' h2'
  | l n =>
    simp only [Ip.setv] at e
    split at e
    · cases e
      exact ⟨μ, M', f1.setr (r := .l n) (by rw [g.ln]; exact q) (fun n z => by cases z; assumption) i, kp, fun _ _ => rfl, Nat.le_refl _⟩
    · cases e
  | f x =>
    obtain ⟨a, rfl, ha, hm, c⟩ := q
    have push : ∃ μ' M'', Fr K fa B μ0 H0 M0 μ' H' M'' (S1 ++ [x]) (σd.set i (some (.l S1.length))) (σ.set i (some (.ref a))) ∧ Kp H M H' M'' ∧ (∀ n ∈ L, μ' n = μ n) ∧ S1.length ≤ (S1 ++ [x]).length := by
      refine ⟨upA μ S1.length a, M', ⟨f.toFb.put g ha hm c f1.le (Nat.le_refl _) (S1 ++ [x]) (by simp) (by simp) fun k h => ?_, f1.sl.up (by simp) (by simp) (fun j _ z => ?_) (fun j ks _ z hk => ?_), fun p q n h e1 e2 => ?_, fun p q n ks h e1 e2 => ?_⟩, kp, fun n h => ?_, by simp⟩
      · by_cases hk : k < S1.length
        · rw [List.getElem?_append_left hk]
        · rw [List.getElem?_eq_none (by simp; omega), List.getElem?_eq_none (by omega)]
      · obtain ⟨v, h1, h2⟩ := f1.sl.sl j _ z
        exact absurd h2.1 (by omega)
      · obtain ⟨v, h1, _, _, _, _, h4⟩ := f1.sl.sl j _ z
        exact absurd (h4 _ hk) (Nat.lt_irrefl _)
      · have old : ∀ {j}, σd[j]? = some (some (Ip.R.l n)) → n < S1.length := fun {j} z => by
          obtain ⟨v, h1, h2⟩ := f1.sl.sl j _ z
          exact h2.1
        rcases set_get e1 with ⟨h1, h1'⟩ | ⟨h1, h1'⟩
        · rcases set_get e2 with ⟨h2, h2'⟩ | ⟨h2, h2'⟩
          · omega
          · cases h1'; exact absurd (old h2') (by omega)
        · rcases set_get e2 with ⟨h2, h2'⟩ | ⟨h2, h2'⟩
          · cases h2'; exact absurd (old h1') (by omega)
          · exact f.uq p q n h h1' h2'
      · rcases set_get e2 with ⟨_, h2⟩ | ⟨h2, h2'⟩
        · cases h2
        · rcases set_get e1 with ⟨_, h1⟩ | ⟨h1, h1'⟩
          · cases h1
            obtain ⟨v, _, _, _, _, _, h4⟩ := f1.sl.sl q _ h2'
            exact fun hk => absurd (h4 _ hk) (Nat.lt_irrefl _)
          · exact f.uw p q n ks h h1' h2'
      · have := hL n h
        rw [upA_ne (by rw [g.ln]; omega)]
    simp only [Ip.setv] at e
    split at e
    · split at e
      · rename_i n hn
        split at e
        · rename_i hc
          cases e
          simp only [Bool.and_eq_true, decide_eq_true_eq, Bool.not_eq_true', List.contains_eq_mem, decide_eq_false_iff_not] at hc
          obtain ⟨u, h1, h2⟩ := f1.sl.sl i _ hn
          have hlt : n < S1.length := h2.1
          have es : σd = σd.set i (some (.l n)) := by
            have := (List.getElem?_eq_some_iff.mp hn)
            obtain ⟨hl, he⟩ := this
            rw [← he]; exact (List.set_getElem_self hl).symm
          refine ⟨upA μ n a, M', ⟨f.toFb.put g ha hm c hc.1 (by omega) (S1.set n x) (by rw [List.length_set]; omega) (List.getElem?_set_self hlt) fun k h => List.getElem?_set_ne (Ne.symm h), ?_, f.uq, f.uw⟩, kp, fun k h => upA_ne fun z => hc.2 (z ▸ h), by rw [List.length_set]; exact Nat.le_refl _⟩
          have := f1.sl.up (N := (S1.set n x).length) (a := a) (i := i) (n := n) (by simp) (by simpa using hlt) (fun j h z => h (f.uq j i n hc.1 z hn)) (fun j ks _ z => f.uw i j n ks hc.1 hn z)
          rw [← es] at this
          exact this
        · cases e; exact push
      · cases e; exact push
    · cases e
      have gb := g.base f.rs
      have fb := f.step gb
      refine ⟨μ, M, fb.setr (r := .d x) ?_ (fun n z => by cases z) i, gb.kpt f.rs, fun _ _ => rfl, Nat.le_refl _⟩
      exact c.pu (fun b _ _ z => g.mm b z) fun z => (f.rs.dom _ z).1 ha
/-- from a state to a later one -/
structure Stp (L : List Nat) (μ : Nat → Addr) (H : Hp) (M : Mk) (S : Store) (μ' : Nat → Addr) (H' : Hp) (M' : Mk) (S' : Store) : Prop where
  kp : Kp H M H' M'
  lo : ∀ n ∈ L, μ' n = μ n
  ln : S.length ≤ S'.length
theorem Stp.refl : Stp L μ H M S μ H M S := ⟨Kp.refl, fun _ _ => rfl, Nat.le_refl _⟩
theorem Stp.trans {μ1 μ2 : Nat → Addr} (a : Stp L μ H M S μ1 H1 M1 S1) (b : Stp L μ1 H1 M1 S1 μ2 H2 M2 S2) : Stp L μ H M S μ2 H2 M2 S2 := ⟨a.kp.trans b.kp, fun n h => (b.lo n h).trans (a.lo n h), Nat.le_trans a.ln b.ln⟩
theorem Stp.less {L' : List Nat} {μ1 : Nat → Addr} (a : Stp L μ H M S μ1 H1 M1 S1) (h : ∀ n ∈ L', n ∈ L) : Stp L' μ H M S μ1 H1 M1 S1 := ⟨a.kp, fun n hn => a.lo n (h n hn), a.ln⟩
theorem Go.stp (g : Go K μ S.length H M H' M' S') (p : RS K μ H M S) : Stp L μ H M S μ H' M' S' := ⟨g.kpt p, fun _ _ => rfl, by rw [g.ln]; exact Nat.le_refl _⟩
theorem Ext.stp (x : Ext H H') : Stp L μ H M S μ H' M S := ⟨Kp.ext x, fun _ _ => rfl, Nat.le_refl _⟩
theorem Fb.none (f : Fb K B μ0 H0 M0 μ H M S) {b : Addr} (h : H b = none) : H0 b = none := by
  cases e : H0 b with
  | none => rfl
  | some o => exact absurd h (f.go.dm b (by rw [e]; simp))
end
end Ip

set_option Elab.async false
set_option linter.all false
set_option maxRecDepth 100000
set_option maxHeartbeats 1000000
/-! What a def, a store to several names takes over. -/
namespace Ip
open PySem PySem.Spec PyProof.Rows L2

/-- the arguments that are taken over, those that are data from now on -/
def entA : List Bool → List Ip.R → List V → List (D × Addr)
  | true :: ms, .f x :: rs, .ref a :: vs => (x, a) :: entA ms rs vs
  | _ :: ms, _ :: rs, _ :: vs => entA ms rs vs
  | _, _, _ => []
def entD : List Bool → List Ip.R → List V → List Addr
  | false :: ms, .f _ :: rs, .ref a :: vs => a :: entD ms rs vs
  | _ :: ms, _ :: rs, _ :: vs => entD ms rs vs
  | _, _, _ => []
section
variable {K : PySem.W.Frag} {fa μ μ0 : Nat → Addr} {n B : Nat} {H0 H H' : Hp} {M M' : Mk} {S S' : Store} {rs : List Ip.R} {vs : List V} {as : List Addr}
theorem entA_f {ms : List Bool} {x : D} {rs : List Ip.R} {a : Addr} {vs : List V} : entA (true :: ms) (.f x :: rs) (.ref a :: vs) = (x, a) :: entA ms rs vs := rfl
theorem entA_g {ms : List Bool} {x : D} {rs : List Ip.R} {a : Addr} {vs : List V} : entA (false :: ms) (.f x :: rs) (.ref a :: vs) = entA ms rs vs := rfl
theorem entA_o {m : Bool} {ms : List Bool} {r : Ip.R} {rs : List Ip.R} {v : V} {vs : List V} (h : ∀ x, r ≠ .f x) : entA (m :: ms) (r :: rs) (v :: vs) = entA ms rs vs := by
  cases m <;> cases r <;> first | rfl | exact absurd rfl (h _)
theorem entD_f {ms : List Bool} {x : D} {rs : List Ip.R} {a : Addr} {vs : List V} : entD (true :: ms) (.f x :: rs) (.ref a :: vs) = entD ms rs vs := rfl
theorem entD_g {ms : List Bool} {x : D} {rs : List Ip.R} {a : Addr} {vs : List V} : entD (false :: ms) (.f x :: rs) (.ref a :: vs) = a :: entD ms rs vs := rfl
theorem entD_o {m : Bool} {ms : List Bool} {r : Ip.R} {rs : List Ip.R} {v : V} {vs : List V} (h : ∀ x, r ≠ .f x) : entD (m :: ms) (r :: rs) (v :: vs) = entD ms rs vs := by
  cases m <;> cases r <;> first | rfl | exact absurd rfl (h _)
theorem ent_f {ms : List Bool} {x : D} {rs : List Ip.R} {S : Store} : ent (true :: ms) (.f x :: rs) S = (some (.l S.length) :: (ent ms rs (S ++ [x])).1, (ent ms rs (S ++ [x])).2) := rfl
theorem ent_g {ms : List Bool} {x : D} {rs : List Ip.R} {S : Store} : ent (false :: ms) (.f x :: rs) S = (some (.d x) :: (ent ms rs S).1, (ent ms rs S).2) := rfl
theorem ent_o {m : Bool} {ms : List Bool} {r : Ip.R} {rs : List Ip.R} {S : Store} (h : ∀ x, r ≠ .f x) : ent (m :: ms) (r :: rs) S = (some r :: (ent ms rs S).1, (ent ms rs S).2) := by
  cases m <;> cases r <;> first | rfl | exact absurd rfl (h _)
/-- where they stand -/
theorem ent_mem (q : RRL K fa μ n H0 H M rs vs as) : ∀ {mu : List Bool}, mu.length = rs.length → (∀ p ∈ entA mu rs vs, p.2 ∈ as ∧ M p.2 ∧ Ct K H M p.2 p.1) ∧ (∀ a ∈ entD mu rs vs, a ∈ as) ∧ ((entA mu rs vs).map (·.2)).Nodup ∧ (∀ p ∈ entA mu rs vs, p.2 ∉ entD mu rs vs) := by
  induction q with
  | nil => intro mu h; cases mu <;> simp [entA, entD] at *
  | @f x a rs vs as h0 h1 c ha _ ih =>
    intro mu h
    cases mu with
    | nil => simp at h
    | cons m ms =>
      obtain ⟨i1, i2, i3, i4⟩ := ih (mu := ms) (by simpa using h)
      cases m with
      | true =>
        rw [entA_f, entD_f]
        refine ⟨fun p hp => ?_, fun b hb => List.mem_cons_of_mem _ (i2 b hb), ?_, fun p hp => ?_⟩
        · rcases List.mem_cons.mp hp with rfl | hp
          · exact ⟨List.mem_cons_self .., h1, c⟩
          · obtain ⟨j1, j2⟩ := i1 p hp; exact ⟨List.mem_cons_of_mem _ j1, j2⟩
        · rw [List.map_cons, List.nodup_cons]
          refine ⟨fun hm => ?_, i3⟩
          obtain ⟨p, hp, e⟩ := List.mem_map.mp hm
          have e : p.2 = a := e
          exact ha (e ▸ (i1 p hp).1)
        · rcases List.mem_cons.mp hp with rfl | hp
          · exact fun hb => ha (i2 _ hb)
          · exact i4 p hp
      | false =>
        rw [entA_g, entD_g]
        refine ⟨fun p hp => ?_, fun b hb => ?_, i3, fun p hp hb => ?_⟩
        · obtain ⟨j1, j2⟩ := i1 p hp; exact ⟨List.mem_cons_of_mem _ j1, j2⟩
        · rcases List.mem_cons.mp hb with rfl | hb
          · exact List.mem_cons_self ..
          · exact List.mem_cons_of_mem _ (i2 b hb)
        · rcases List.mem_cons.mp hb with e | hb
          · exact ha (e ▸ (i1 p hp).1)
          · exact i4 p hp hb
  | o hr q _ ih =>
    intro mu h
    cases mu with
    | nil => simp at h
    | cons m ms =>
      rw [entA_o hr, entD_o hr]
      exact ih (mu := ms) (by simpa using h)
theorem ent_store (q : RRL K fa μ n H0 H M rs vs as) : ∀ {mu : List Bool} (S : Store), mu.length = rs.length → (ent mu rs S).2 = S ++ (entA mu rs vs).map (·.1) ∧ (ent mu rs S).1.length = rs.length := by
  induction q with
  | nil => intro mu S h; cases mu <;> simp [ent, entA] at *
  | @f x a rs vs as h0 h1 c ha _ ih =>
    intro mu S h
    cases mu with
    | nil => simp at h
    | cons m ms =>
      have h' : ms.length = rs.length := by simpa using h
      cases m with
      | true =>
        obtain ⟨i1, i2⟩ := ih (S ++ [x]) h'
        rw [entA_f, ent_f]; exact ⟨by simp [i1], by simp [i2]⟩
      | false =>
        obtain ⟨i1, i2⟩ := ih S h'
        rw [entA_g, ent_g]; exact ⟨i1, by simp [i2]⟩
  | o hr q _ ih =>
    intro mu S h
    cases mu with
    | nil => simp at h
    | cons m ms =>
      obtain ⟨i1, i2⟩ := ih S (mu := ms) (by simpa using h)
      rw [entA_o hr, ent_o hr]; exact ⟨i1, by simp [i2]⟩
/-- the slots; μ': each taken-over one behind S -/
theorem ent_slots (q : RRL K fa μ n H0 H M rs vs as) {N : Nat} {μ' : Nat → Addr} (hm : ∀ b, M' b → M b) (hμ : ∀ k, k < n → μ' k = μ k) (hn : n ≤ N) : ∀ {mu : List Bool} (S : Store), mu.length = rs.length → n ≤ S.length → (∀ (j : Nat) (p : D × Addr), (entA mu rs vs)[j]? = some p → μ' (S.length + j) = p.2 ∧ S.length + j < N) → (∀ a ∈ entD mu rs vs, ¬ M' a) → (∀ r ∈ rs, okA r = true) →
    ∀ (i : Nat) (r : Ip.R), (ent mu rs S).1[i]? = some (some r) → (∃ v, vs[i]? = some v ∧ RV K fa μ' N H M' r v) ∧ ∀ m, r = .l m → m < n ∨ (S.length ≤ m) := by
  induction q with
  | nil => intro mu S h _ _ _ _ i r e; cases mu <;> simp [ent] at e
  | @f x a rs vs as h0 h1 c ha _ ih =>
    intro mu S h hS hA hD ho i r e
    cases mu with
    | nil => simp at h
    | cons m ms =>
      have h' : ms.length = rs.length := by simpa using h
      cases m with
      | true =>
        rw [ent_f] at e
        rw [entA_f] at hA
        rw [entD_f] at hD
        cases i with
        | zero =>
          simp at e; subst e
          obtain ⟨e1, e2⟩ := hA 0 (x, a) rfl
          exact ⟨⟨_, rfl, by simpa using e2, by simpa using e1.symm⟩, fun m z => by cases z; exact .inr (Nat.le_refl _)⟩
        | succ i =>
          have hA' : ∀ (j : Nat) (p : D × Addr), (entA ms rs vs)[j]? = some p → μ' ((S ++ [x]).length + j) = p.2 ∧ (S ++ [x]).length + j < N := fun j p hp => by
            have := hA (j + 1) p (by simpa using hp)
            rw [List.length_append]; simp only [List.length_cons, List.length_nil]
            rw [show S.length + (0 + 1) + j = S.length + (j + 1) by omega]; exact this
          obtain ⟨q1, q2⟩ := ih (S ++ [x]) h' (by simp; omega) hA' hD (fun r hr => ho r (List.mem_cons_of_mem _ hr)) i r (by simpa using e)
          exact ⟨by simpa using q1, fun m z => (q2 m z).imp id fun w => by rw [List.length_append] at w; omega⟩
      | false =>
        rw [ent_g] at e
        rw [entA_g] at hA
        rw [entD_g] at hD
        cases i with
        | zero =>
          simp at e; subst e
          exact ⟨⟨_, rfl, c.pu (fun b _ _ z => hm b z) (hD a (List.mem_cons_self ..))⟩, fun m z => by cases z⟩
        | succ i =>
          obtain ⟨q1, q2⟩ := ih S h' hS hA (fun b hb => hD b (List.mem_cons_of_mem _ hb)) (fun r hr => ho r (List.mem_cons_of_mem _ hr)) i r (by simpa using e)
          exact ⟨by simpa using q1, q2⟩
  | @o r0 v0 rs vs as hr q _ ih =>
    intro mu S h hS hA hD ho i r e
    cases mu with
    | nil => simp at h
    | cons m ms =>
      rw [ent_o hr] at e
      rw [entA_o hr] at hA
      rw [entD_o hr] at hD
      cases i with
      | zero =>
        simp at e; subst e
        refine ⟨⟨_, rfl, ?_⟩, fun m z => ?_⟩
        · cases r0 with
          | d x => exact Pu.mono (fun _ _ e _ => e) (fun b _ _ z => hm b z) q
          | l k => obtain ⟨h1, h2⟩ := q; exact ⟨by omega, by rw [hμ k h1]; exact h2⟩
          | f x => exact absurd rfl (hr x)
          | fn k => exact q
          | s0 ns => obtain ⟨a, e, h⟩ := q; exact ⟨a, e, h.mono (fun _ _ e _ => e) fun b _ _ z => hm b z⟩
          | fr xs => exact absurd (ho _ (List.mem_cons_self ..)) (by simp [okA])
          | rw ks => exact absurd (ho _ (List.mem_cons_self ..)) (by simp [okA])
        · subst z; exact .inl q.1
      | succ i =>
        obtain ⟨q1, q2⟩ := ih S (mu := ms) (by simpa using h) hS hA hD (fun r hr => ho r (List.mem_cons_of_mem _ hr)) i r (by simpa using e)
        exact ⟨by simpa using q1, q2⟩
theorem ent_nrw : ∀ {rs : List Ip.R} {mu : List Bool} (S : Store), (∀ r ∈ rs, okA r = true) → ∀ (i : Nat) (ks : List Nat), (ent mu rs S).1[i]? ≠ some (some (.rw ks))
  | [], mu, S, _, i, ks => by cases mu <;> simp [ent]
  | r :: rs, [], S, _, i, ks => by simp [ent]
  | r :: rs, m :: ms, S, ho, i, ks => by
    have h1 := ho r (List.mem_cons_self ..)
    have ih := fun S => ent_nrw (rs := rs) (mu := ms) S fun r hr => ho r (List.mem_cons_of_mem _ hr)
    by_cases hf : ∃ x, r = .f x
    · obtain ⟨x, rfl⟩ := hf
      cases m with
      | true =>
        rw [ent_f]
        cases i with
        | zero => simp
        | succ i => simpa using ih (S ++ [x]) i ks
      | false =>
        rw [ent_g]
        cases i with
        | zero => simp
        | succ i => simpa using ih S i ks
    · rw [ent_o fun x z => hf ⟨x, z⟩]
      cases i with
      | zero =>
        intro z
        simp at z
        subst z
        simp [okA] at h1
      | succ i => simpa using ih S i ks
/-- own places: each in one slot -/
theorem ent_uq (q : RRL K fa μ n H0 H M rs vs as) : ∀ {mu : List Bool} (S : Store), mu.length = rs.length → n ≤ S.length → ∀ (i j m : Nat), n ≤ m → (ent mu rs S).1[i]? = some (some (.l m)) → (ent mu rs S).1[j]? = some (some (.l m)) → S.length ≤ m ∧ i = j := by
  induction q with
  | nil => intro mu S h _ i j m _ e; cases mu <;> simp [ent] at e
  | @f x a rs vs as h0 h1 c ha _ ih =>
    intro mu S h hS i j m hm e1 e2
    cases mu with
    | nil => simp at h
    | cons b ms =>
      have h' : ms.length = rs.length := by simpa using h
      cases b with
      | true =>
        rw [ent_f] at e1 e2
        cases i with
        | zero =>
          simp at e1
          cases j with
          | zero => exact ⟨by omega, rfl⟩
          | succ j =>
            have := (ih (S ++ [x]) h' (by simp; omega) j j m hm (by simpa using e2) (by simpa using e2)).1
            rw [List.length_append] at this; simp at this; omega
        | succ i =>
          have := (ih (S ++ [x]) h' (by simp; omega) i i m hm (by simpa using e1) (by simpa using e1)).1
          rw [List.length_append] at this; simp at this
          cases j with
          | zero => simp at e2; omega
          | succ j => exact ⟨by omega, by rw [(ih (S ++ [x]) h' (by simp; omega) i j m hm (by simpa using e1) (by simpa using e2)).2]⟩
      | false =>
        rw [ent_g] at e1 e2
        cases i with
        | zero => simp at e1
        | succ i =>
          cases j with
          | zero => simp at e2
          | succ j =>
            obtain ⟨q1, q2⟩ := ih S h' hS i j m hm (by simpa using e1) (by simpa using e2)
            exact ⟨q1, by rw [q2]⟩
  | @o r0 v0 rs vs as hr q _ ih =>
    intro mu S h hS i j m hm e1 e2
    cases mu with
    | nil => simp at h
    | cons b ms =>
      rw [ent_o hr] at e1 e2
      have no : some r0 ≠ some (Ip.R.l m) := fun z => by
        cases z; have := q.1; omega
      cases i with
      | zero => simp at e1; exact absurd (congrArg some e1) no
      | succ i =>
        cases j with
        | zero => simp at e2; exact absurd (congrArg some e2) no
        | succ j =>
          obtain ⟨q1, q2⟩ := ih S (mu := ms) (by simpa using h) hS i j m hm (by simpa using e1) (by simpa using e2)
          exact ⟨q1, by rw [q2]⟩
end

theorem map_ofst {α β : Type} {l : List (α × β)} {k : Nat} {x : α} (e : (l.map (·.1))[k]? = some x) : ∃ p, l[k]? = some p ∧ p.1 = x := by
  rw [List.getElem?_map, Option.map_eq_some_iff] at e
  exact e
section
variable {K : PySem.W.Frag} {fa μ μ0 : Nat → Addr} {n B : Nat} {L : List Nat} {H0 H H' : Hp} {M0 M M' : Mk} {S S1 S' : Store} {rs : List Ip.R} {vs : List V} {as : List Addr} {σd : Ev} {σ : L2.St}
theorem setAll_len : ∀ {is : List Nat} {os : List (Option Ip.R)} {σ : Ev}, (setAll σ is os).length = σ.length
  | [], _, _ => by simp only [setAll]
  | _ :: _, [], _ => by simp only [setAll]
  | i :: is, o :: os, σ => by simp only [setAll]; rw [setAll_len, List.length_set]
/-- the same for the frame's slots -/
def setV : L2.St → List Nat → List V → L2.St
  | σ, [], _ => σ
  | σ, _ :: _, [] => σ
  | σ, i :: is, v :: vs => setV (σ.set i (some v)) is vs
theorem Sl.all {μ' : Nat → Addr} {N : Nat} : ∀ {is : List Nat} {os : List (Option Ip.R)} {vs : List V} {σd : Ev} {σ : L2.St}, Sl K fa μ' N H M σd σ → is.length = os.length → os.length = vs.length → (∀ (i : Nat) (r : Ip.R), os[i]? = some (some r) → ∃ v, vs[i]? = some v ∧ RV K fa μ' N H M r v) → (∀ o ∈ os, o ≠ none) →
    Sl K fa μ' N H M (setAll σd is os) (setV σ is vs)
  | [], [], [], _, _, s, _, _, _, _ => by simp only [setAll, setV]; exact s
  | i :: is, o :: os, v :: vs, σd, σ, s, h1, h2, h3, h4 => by
    cases o with
    | none => exact absurd rfl (h4 none (List.mem_cons_self ..))
    | some r =>
      obtain ⟨v', e, q⟩ := h3 0 r rfl
      simp at e; subst e
      simp only [setAll, setV]
      exact Sl.all (s.setr q i) (by simpa using h1) (by simpa using h2) (fun j r e => by have := h3 (j + 1) r (by simpa using e); simpa using this) fun o ho => h4 o (List.mem_cons_of_mem _ ho)
  | [], _ :: _, _, _, _, _, h, _, _, _ => by simp at h
  | _ :: _, [], _, _, _, _, h, _, _, _ => by simp at h
  | [], [], _ :: _, _, _, _, _, h, _, _ => by simp at h
  | _ :: _, _ :: _, [], _, _, _, _, h, _, _ => by simp at h
theorem setAll_get : ∀ {is : List Nat} {os : List (Option Ip.R)} {σ : Ev} {j : Nat} {r : Ip.R}, (setAll σ is os)[j]? = some (some r) → σ[j]? = some (some r) ∨ ∃ i : Nat, os[i]? = some (some r) ∧ is[i]? = some j
  | [], _, _, _, _, h => by simp only [setAll] at h; exact .inl h
  | _ :: _, [], _, _, _, h => by simp only [setAll] at h; exact .inl h
  | i :: is, o :: os, σ, j, r, h => by
    simp only [setAll] at h
    rcases setAll_get h with h | ⟨k, h1, h2⟩
    · rcases set_get h with ⟨h1, h2⟩ | ⟨_, h2⟩
      · exact .inr ⟨0, by rw [h2]; rfl, by rw [h1]; rfl⟩
      · exact .inl h2
    · exact .inr ⟨k + 1, by simpa using h1, by simpa using h2⟩
theorem ent_some (q : RRL K fa μ n H0 H M rs vs as) : ∀ {mu : List Bool} (S : Store), mu.length = rs.length → ∀ o ∈ (ent mu rs S).1, o ≠ none := by
  induction q with
  | nil => intro mu S h o ho; cases mu <;> simp [ent] at ho
  | @f x a rs vs as h0 h1 c ha _ ih =>
    intro mu S h o ho
    cases mu with
    | nil => simp at h
    | cons m ms =>
      cases m with
      | true =>
        rw [ent_f] at ho
        rcases List.mem_cons.mp ho with rfl | ho
        · simp
        · exact ih (S ++ [x]) (by simpa using h) o ho
      | false =>
        rw [ent_g] at ho
        rcases List.mem_cons.mp ho with rfl | ho
        · simp
        · exact ih S (by simpa using h) o ho
  | o hr q _ ih =>
    intro mu S h o ho
    cases mu with
    | nil => simp at h
    | cons m ms =>
      rw [ent_o hr] at ho
      rcases List.mem_cons.mp ho with rfl | ho
      · simp
      · exact ih S (mu := ms) (by simpa using h) o ho
theorem entl_mem (q : RRL K fa μ n H0 H M rs vs as) : ∀ {mu : List Bool} (S : Store) (_ : mu.length = rs.length) {k m : Nat}, (ent mu rs S).1[k]? = some (some (Ip.R.l m)) → m < S.length → Ip.R.l m ∈ rs := by
  induction q with
  | nil => intro mu S h k m e _; cases mu <;> simp [ent] at e
  | @f x a rs vs as h0 h1 c ha _ ih =>
    intro mu S h k m e hm
    cases mu with
    | nil => simp at h
    | cons b ms =>
      cases b with
      | true =>
        rw [ent_f] at e
        cases k with
        | zero => simp at e; omega
        | succ k => exact List.mem_cons_of_mem _ (ih (S ++ [x]) (by simpa using h) (by simpa using e) (by rw [List.length_append]; omega))
      | false =>
        rw [ent_g] at e
        cases k with
        | zero => simp at e
        | succ k => exact List.mem_cons_of_mem _ (ih S (by simpa using h) (by simpa using e) hm)
  | o hr q _ ih =>
    intro mu S h k m e hm
    cases mu with
    | nil => simp at h
    | cons b ms =>
      rw [ent_o hr] at e
      cases k with
      | zero => simp at e; subst e; exact List.mem_cons_self ..
      | succ k => exact List.mem_cons_of_mem _ (ih S (mu := ms) (by simpa using h) (by simpa using e) hm)
/-- several names at once -/
theorem Fr.par {mu : List Bool} {is : List Nat} (f : Fr K fa B μ0 H0 M0 μ H M S σd σ) (g : Go K μ S.length H M H' M' S1) (q : RRL K fa μ S.length H H' M' rs vs as) (hl : mu.length = rs.length) (hi : is.length = rs.length) (hnd : is.Nodup) (hb : ∀ r ∈ rs, ∀ m, r = .l m → m < B) (ho : ∀ r ∈ rs, okA r = true) (hL : ∀ n ∈ L, n < S.length) :
    ∃ μ' M'', Fr K fa B μ0 H0 M0 μ' H' M'' (ent mu rs S1).2 (setAll σd is (ent mu rs S1).1) (setV σ is vs) ∧ Stp L μ H M S μ' H' M'' (ent mu rs S1).2 := by
  obtain ⟨m1, m2, m3, m4⟩ := ent_mem q hl
  obtain ⟨s1, s2⟩ := ent_store q S1 hl
  have q' := q
  rw [← g.ln] at q'
  have hnew := q.new
  generalize hA : entA mu rs vs = A at *
  generalize hDe : entD mu rs vs = De at *
  have hvl := q.length
  have f1 := f.step g
  have hne : ∀ a ∈ as, ∀ k, k < S1.length → a ≠ μ k := fun a ha k hk z => by
    rw [g.ln] at hk
    exact (f.rs.dom _ (f.rs.mu hk)).1 (z ▸ (hnew a ha).1)
  have hMb : ∀ b, M b → b ∉ De := fun b z h => (f.rs.dom b z).1 (hnew b (m2 b h)).1
  have old : ∀ k, k < S1.length → (if k < S1.length then μ k else ((A[k - S1.length]?).map (·.2)).getD 0) = μ k := fun k h => if_pos h
  have newk : ∀ k, S1.length ≤ k → ∀ p, A[k - S1.length]? = some p → (if k < S1.length then μ k else ((A[k - S1.length]?).map (·.2)).getD 0) = p.2 := fun k h p e => by rw [if_neg (by omega), e]; rfl
  have dis : ∀ k, k < S1.length → μ k ∉ De := fun k h z => hne _ (m2 _ z) k h rfl
  have kN : ∀ {a : Addr} {x : D}, Pl K H' M' a x → Pl K H' (fun b => M' b ∧ b ∉ De) a x := fun c => c.mono (fun _ _ e _ => e) (fun b _ _ z => z.1) fun _ e => e
  have at_ : ∀ k, S1.length ≤ k → k < (ent mu rs S1).2.length → ∃ p, A[k - S1.length]? = some p ∧ p ∈ A := fun k h1 h2 => by
    rw [s1, List.length_append, List.length_map] at h2
    have hlt : k - S1.length < A.length := by omega
    exact ⟨_, List.getElem?_eq_getElem hlt, List.getElem_mem hlt⟩
  have stt : ∀ (k : Nat) (x : D), (ent mu rs S1).2[k]? = some x → (M' (if k < S1.length then μ k else ((A[k - S1.length]?).map (·.2)).getD 0) ∧ (if k < S1.length then μ k else ((A[k - S1.length]?).map (·.2)).getD 0) ∉ De) ∧ Pl K H' (fun b => M' b ∧ b ∉ De) (if k < S1.length then μ k else ((A[k - S1.length]?).map (·.2)).getD 0) x := fun k x e => by
    by_cases h : k < S1.length
    · rw [s1, List.getElem?_append_left h] at e
      rw [old k h]
      obtain ⟨h1, h2⟩ := f1.rs.st k x e
      exact ⟨⟨h1, dis k h⟩, kN h2⟩
    · obtain ⟨p0, h1, h2⟩ := at_ k (by omega) (List.getElem?_eq_some_iff.mp e).1
      rw [newk k (by omega) p0 h1]
      rw [s1, List.getElem?_append_right (by omega)] at e
      obtain ⟨p1, h3, h4⟩ := map_ofst e
      rw [h1] at h3; cases h3
      subst h4
      obtain ⟨j1, j2, j3⟩ := m1 p0 h2
      exact ⟨⟨j2, m4 p0 h2⟩, kN (.inr j3)⟩
  have hlen : S1.length ≤ (ent mu rs S1).2.length := by rw [s1, List.length_append]; omega
  refine ⟨fun k => if k < S1.length then μ k else ((A[k - S1.length]?).map (·.2)).getD 0, fun b => M' b ∧ b ∉ De, ⟨⟨⟨fun b z => g.dom b z.1, stt, fun k m hk hm e => ?_⟩, fun k h => ?_, fun k h1 h2 => ?_, ?_, Nat.le_trans f1.le hlen, f.d0⟩, ?_, fun i j m hm e1 e2 => ?_, fun i j m ks hm e1 e2 => ?_⟩, ⟨⟨fun b o e z => g.keep f.rs b o e z, fun b o e z => g.old b o e z.1⟩, fun n h => ?_, by rw [← g.ln]; exact hlen⟩⟩
  · by_cases h : k < S1.length
    · by_cases h' : m < S1.length
      · rw [old k h, old m h'] at e; exact f1.rs.inj k m h h' e
      · obtain ⟨p0, h1, h2⟩ := at_ m (by omega) hm
        rw [old k h, newk m (by omega) p0 h1] at e
        exact absurd e.symm (hne _ (m1 p0 h2).1 k h)
    · obtain ⟨p0, h1, h2⟩ := at_ k (by omega) hk
      by_cases h' : m < S1.length
      · rw [old m h', newk k (by omega) p0 h1] at e
        exact absurd e (hne _ (m1 p0 h2).1 m h')
      · obtain ⟨p1, h3, h4⟩ := at_ m (by omega) hm
        rw [newk k (by omega) p0 h1, newk m (by omega) p1 h3] at e
        have i1 : (A.map (·.2))[k - S1.length]? = some p0.2 := by rw [List.getElem?_map, h1]; rfl
        have i2 : (A.map (·.2))[m - S1.length]? = some p0.2 := by rw [List.getElem?_map, h3, e]; rfl
        have := (List.getElem?_inj (by rw [List.length_map]; exact (List.getElem?_eq_some_iff.mp h1).1) m3).mp (i1.trans i2.symm)
        omega
  · rw [old k (Nat.lt_of_lt_of_le h f1.le)]; exact f1.mu k h
  · by_cases h : k < S1.length
    · rw [old k h]; exact f1.own k h1 h
    · obtain ⟨p0, h3, h4⟩ := at_ k (by omega) h2
      rw [newk k (by omega) p0 h3]
      exact f.toFb.none (hnew _ (m1 p0 h4).1).1
  · have e0 : (ent mu rs S1).2.take B = S1.take B := by rw [s1, List.take_append_of_le_length f1.le]
    rw [e0]
    have go := f1.go
    refine ⟨fun b z => ⟨go.mm b z, fun hb => (f.rs.dom b (f.go.mm b z)).1 (hnew b (m2 b hb)).1⟩, fun b z => go.new b z.1, fun b z => go.dom b z.1, go.fr, go.dm, go.fz, go.ln, fun k x e => ?_⟩
    obtain ⟨h1, h2⟩ := go.st k x e
    have hk : k < B := by
      have := (List.getElem?_eq_some_iff.mp e).1
      rw [List.length_take] at this; omega
    refine ⟨⟨h1, ?_⟩, kN h2⟩
    rw [← f1.mu k hk]
    exact dis k (Nat.lt_of_lt_of_le hk f1.le)
  · refine Sl.all ?_ (by rw [s2, hi]) (by rw [s2, hvl]) (fun i r e => ?_) (ent_some q S1 hl)
    · refine ⟨f1.sl.ln, fun i r e => ?_⟩
      obtain ⟨v, h1, h2⟩ := f1.sl.sl i r e
      refine ⟨v, h1, ?_⟩
      cases r with
      | d x => exact Pu.mono (fun _ _ e _ => e) (fun b _ _ z => z.1) h2
      | l k => obtain ⟨h3, h4⟩ := h2; exact ⟨by omega, by rw [h4]; exact congrArg V.ref (old k h3).symm⟩
      | f x => exact h2
      | fn k => exact h2
      | s0 ns => obtain ⟨a, e, h⟩ := h2; exact ⟨a, e, h.mono (fun _ _ e _ => e) fun b _ _ z => z.1⟩
      | fr xs => exact h2.elim
      | rw ks =>
        obtain ⟨a, e1, e2, e3, e4⟩ := h2
        refine ⟨a, e1, fun z => e2 z.1, ?_, fun k hk => by have := e4 k hk; omega⟩
        rw [e3]
        congr 2
        exact List.map_congr_left fun k hk => congrArg V.ref (old k (e4 k hk)).symm
    · exact (ent_slots q' (N := (ent mu rs S1).2.length) (μ' := fun k => if k < S1.length then μ k else ((A[k - S1.length]?).map (·.2)).getD 0) (M' := fun b => M' b ∧ b ∉ De) (fun b z => z.1) old hlen (mu := mu) S1 hl (Nat.le_refl _) (fun j p hp => by
        rw [hA] at hp
        refine ⟨newk (S1.length + j) (by omega) p (by rw [Nat.add_sub_cancel_left]; exact hp), by rw [s1, List.length_append, List.length_map]; have := (List.getElem?_eq_some_iff.mp hp).1; omega⟩) (fun a ha z => by rw [hDe] at ha; exact z.2 ha) ho i r e).1
  · have oldp : ∀ {i : Nat}, σd[i]? = some (some (Ip.R.l m)) → m < S1.length := fun {i} z => by
      obtain ⟨v, h1, h2⟩ := f1.sl.sl i _ z
      exact h2.1
    have newp : ∀ {k : Nat}, (ent mu rs S1).1[k]? = some (some (Ip.R.l m)) → S1.length ≤ m := fun {k} z => by
      by_cases h : S1.length ≤ m
      · exact h
      · have key := (ent_slots q' (N := (ent mu rs S1).2.length) (μ' := fun k => if k < S1.length then μ k else ((A[k - S1.length]?).map (·.2)).getD 0) (M' := fun b => M' b ∧ b ∉ De) (fun b z => z.1) old hlen (mu := mu) S1 hl (Nat.le_refl _) (fun j p hp => by
          rw [hA] at hp
          refine ⟨newk (S1.length + j) (by omega) p (by rw [Nat.add_sub_cancel_left]; exact hp), by rw [s1, List.length_append, List.length_map]; have := (List.getElem?_eq_some_iff.mp hp).1; omega⟩) (fun a ha z => by rw [hDe] at ha; exact z.2 ha) ho k _ z).2 m rfl
        rcases key with h1 | h1
        · exfalso
          exact absurd (entl_mem q S1 hl z (by omega)) fun hr => by have := hb _ hr m rfl; omega
        · omega
    rcases setAll_get e1 with h1 | ⟨k1, h1, h1'⟩
    · rcases setAll_get e2 with h2 | ⟨k2, h2, h2'⟩
      · exact f.uq i j m hm h1 h2
      · have := oldp h1; have := newp h2; omega
    · rcases setAll_get e2 with h2 | ⟨k2, h2, h2'⟩
      · have := oldp h2; have := newp h1; omega
      · have hk : k1 = k2 := by
          have := newp h1
          exact (ent_uq q' S1 hl (Nat.le_refl _) k1 k2 m this h1 h2).2
        subst hk
        rw [h1'] at h2'
        exact Option.some.inj h2'
  · rcases setAll_get e2 with h2 | ⟨k2, h2, h2'⟩
    · obtain ⟨v, _, _, _, _, _, h4⟩ := f1.sl.sl j _ h2
      have newp : ∀ {k : Nat}, (ent mu rs S1).1[k]? = some (some (Ip.R.l m)) → S1.length ≤ m := fun {k} z => by
        by_cases h : S1.length ≤ m
        · exact h
        · have key := (ent_slots q' (N := (ent mu rs S1).2.length) (μ' := fun k => if k < S1.length then μ k else ((A[k - S1.length]?).map (·.2)).getD 0) (M' := fun b => M' b ∧ b ∉ De) (fun b z => z.1) old hlen (mu := mu) S1 hl (Nat.le_refl _) (fun j p hp => by
            rw [hA] at hp
            refine ⟨newk (S1.length + j) (by omega) p (by rw [Nat.add_sub_cancel_left]; exact hp), by rw [s1, List.length_append, List.length_map]; have := (List.getElem?_eq_some_iff.mp hp).1; omega⟩) (fun a ha z => by rw [hDe] at ha; exact z.2 ha) ho k _ z).2 m rfl
          rcases key with h1 | h1
          · exfalso
            exact absurd (entl_mem q S1 hl z (by omega)) fun hr => by have := hb _ hr m rfl; omega
          · omega
      rcases setAll_get e1 with h1 | ⟨k1, h1, h1'⟩
      · exact f.uw i j m ks hm h1 h2
      · intro hk
        have := newp h1
        have := h4 _ hk
        omega
    · exact absurd h2 (ent_nrw S1 ho k2 ks)
  · exact old n (by rw [g.ln]; exact hL n h)
end
end Ip

set_option Elab.async false
set_option linter.all false
set_option maxRecDepth 100000
set_option maxHeartbeats 1000000
/-! Statements, one rule a construct. -/
namespace Ip
open PySem PySem.Spec PyProof.Rows L2

/-- what is asked of a statement's end -/
def End (K : PySem.W.Frag) (fa : Nat → Addr) (B : Nat) (μ0 : Nat → Addr) (H0 : Hp) (M0 : Mk) (L : List Nat) (D : Ends) (μ : Nat → Addr) (H : Hp) (M : Mk) (S : Store) : Ou → Store → Prop
  | .nx σd', S' => ∀ μ' σ' H' M', Fr K fa B μ0 H0 M0 μ' H' M' S' σd' σ' → Stp L μ H M S μ' H' M' S' → D.nx σ' H'
  | .rt r, S' => ∀ μ' v H' M', Fb K B μ0 H0 M0 μ' H' M' S' → RR K fa μ' S'.length H0 H' M' r v → D.rt v H'
section
variable (K : PySem.W.Frag) (fa : Nat → Addr) (cf : Cf) (W B : Nat)
def tS (s : IS) : TS := fun D σ H => ∃ μ0 H0 M0 μ M S σd L o S', Fr K fa B μ0 H0 M0 μ H M S σd σ ∧ (∀ n ∈ L, n < S.length) ∧ ex cf W B s L σd S = some (o, S') ∧ End K fa B μ0 H0 M0 L D μ H M S o S'
def tSs (s : ISs) : TS := fun D σ H => ∃ μ0 H0 M0 μ M S σd L o S', Fr K fa B μ0 H0 M0 μ H M S σd σ ∧ (∀ n ∈ L, n < S.length) ∧ exs cf W B s L σd S = some (o, S') ∧ End K fa B μ0 H0 M0 L D μ H M S o S'
end
section
variable {K : PySem.W.Frag} {fa μ μ0 μ1 : Nat → Addr} {B n : Nat} {L : List Nat} {H0 H H1 H2 H' : Hp} {M0 M M1 M2 M' : Mk} {S S1 S2 S' : Store} {σd σd' : Ev} {σ : L2.St} {r : Ip.R} {v : V} {d : D} {De : Ends} {o : Ou}
theorem End.next (e : End K fa B μ0 H0 M0 L De μ H M S o S') (s : Stp L μ H M S μ1 H1 M1 S1) : End K fa B μ0 H0 M0 L De μ1 H1 M1 S1 o S' := by
  cases o with
  | nx σd' => exact fun μ' σ' H' M' f s' => e μ' σ' H' M' f (s.trans s')
  | rt r => exact e
mutual
theorem asg_old : ∀ {t : Tg} {d : D} {σ σ' : Ev}, asg t d σ = some σ' → ∀ (j : Nat) (r : Ip.R), (∀ d, r ≠ .d d) → σ'[j]? = some (some r) → σ[j]? = some (some r)
  | .nm i, d, σ, σ', e, j, n, hr, h => by
    simp only [asg, Option.some.injEq] at e
    subst e
    rcases set_get h with ⟨_, h1⟩ | ⟨_, h1⟩
    · cases h1; exact absurd rfl (hr _)
    · exact h1
  | .tup ts, .tuple ds, σ, σ', e, j, n, hr, h => by simp only [asg] at e; exact asgs_old e j n hr h
  | .tup ts, .none, _, _, e, _, _, _, _ => by simp [asg] at e
  | .tup ts, .bool _, _, _, e, _, _, _, _ => by simp [asg] at e
  | .tup ts, .int _, _, _, e, _, _, _, _ => by simp [asg] at e
  | .tup ts, .str _, _, _, e, _, _, _, _ => by simp [asg] at e
  | .tup ts, .list _, _, _, e, _, _, _, _ => by simp [asg] at e
  | .tup ts, .dict _, _, _, e, _, _, _, _ => by simp [asg] at e
theorem asgs_old : ∀ {t : Tgs} {d : List D} {σ σ' : Ev}, asgs t d σ = some σ' → ∀ (j : Nat) (r : Ip.R), (∀ d, r ≠ .d d) → σ'[j]? = some (some r) → σ[j]? = some (some r)
  | .nil, [], σ, σ', e, j, n, hr, h => by simp only [asgs, Option.some.injEq] at e; subst e; exact h
  | .nil, _ :: _, _, _, e, _, _, _, _ => by simp [asgs] at e
  | .cons _ _, [], _, _, e, _, _, _, _ => by simp [asgs] at e
  | .cons t r, d :: ds, σ, σ', e, j, n, hr, h => by
    simp only [asgs, Option.bind_eq_some_iff] at e
    obtain ⟨σ1, e1, e2⟩ := e
    exact asg_old e1 j n hr (asgs_old e2 j n hr h)
end
end
section
variable {X : Cx} {fa : Nat → Addr} {cf : Cf} {W B : Nat} {a b c : Expr} {ia ib ic : IE} {pos : Pos} {st : Stmt} {sts ss : List Stmt} {is : IS} {iss jss : ISs}
abbrev St1 (X : Cx) (fa : Nat → Addr) (cf : Cf) (W B : Nat) (s : Stmt) (i : IS) : Prop := PS X s (tS X.K fa cf W B i)
abbrev Sts (X : Cx) (fa : Nat → Addr) (cf : Cf) (W B : Nat) (s : List Stmt) (i : ISs) : Prop := PSs X s (tSs X.K fa cf W B i)
theorem PS.imp {t u : TS} (h : PS X st t) (m : ∀ D σ H, u D σ H → t D σ H) : PS X st u := ⟨fun pins s σ H D I q => h.run pins s σ H D I (m D σ H q)⟩
theorem PSs.imp {t u : TS} (h : PSs X sts t) (m : ∀ D σ H, u D σ H → t D σ H) : PSs X sts u := ⟨fun pins s σ H D I q => h.run pins s σ H D I (m D σ H q)⟩
theorem ss_nil : Sts X fa cf W B [] .nil := by
  refine PSs.imp pss_nil fun De σ H ⟨μ0, H0, M0, μ, M, S, σd, L, o, S', f, hL, e, q⟩ => ?_
  cases e
  exact q μ σ H M f .refl
theorem ss_cons (h1 : St1 X fa cf W B st is) (h2 : Sts X fa cf W B sts iss) : Sts X fa cf W B (st :: sts) (.cons is iss) := by
  refine PSs.imp (pss_cons h1 h2) fun De σ H ⟨μ0, H0, M0, μ, M, S, σd, L, o, S', f, hL, e, q⟩ => ?_
  simp only [exs, Option.bind_eq_some_iff] at e
  obtain ⟨⟨o1, S1⟩, e1, e2⟩ := e
  refine ⟨μ0, H0, M0, μ, M, S, σd, L, o1, S1, f, hL, e1, ?_⟩
  cases o1 with
  | nx σ1 => exact fun μ' σ' H' M' f' s' => ⟨μ0, H0, M0, μ', M', S1, σ1, L, o, S', f', fun n h => Nat.lt_of_lt_of_le (hL n h) s'.ln, e2, q.next s'⟩
  | rt r => cases e2; exact q
theorem s_pass : St1 X fa cf W B (.Pass pos) .pass := by
  refine PS.imp ps_pass fun De σ H ⟨μ0, H0, M0, μ, M, S, σd, L, o, S', f, hL, e, q⟩ => ?_
  cases e
  exact q μ σ H M f .refl
theorem s_stuck : St1 X fa cf W B st .stuck := by
  refine PS.imp ps_never fun De σ H ⟨μ0, H0, M0, μ, M, S, σd, L, o, S', f, hL, e, q⟩ => ?_
  cases e
/-- what is asked of the value of name = .. -/
theorem set_core {i : Nat} {m : Bool} {De : Ends} {σ : L2.St} {H : Hp} (h : tS X.K fa cf W B (.set i m ia) De σ H) : tE X.K fa cf ia σ H fun v H1 => De.nx (σ.set i (some v)) H1 := by
  obtain ⟨μ0, H0, M0, μ, M, S, σd, L, o, S', f, hL, e, q⟩ := h
  simp only [ex, Option.bind_eq_some_iff] at e
  obtain ⟨⟨r, S1⟩, e1, ⟨σ1, S2⟩, e2, e3⟩ := e
  cases e3
  refine ⟨μ, M, S, σd, r, S1, f.rp, e1, fun v H1 M1 g q1 => ?_⟩
  obtain ⟨μ', M'', f', kp, lo, ln⟩ := f.setv (L := L) g q1 hL e2
  exact q μ' _ H1 M'' f' ⟨kp, lo, by rw [g.ln] at ln; exact ln⟩
theorem mv_core {i j : Nat} {m : Bool} {De : Ends} {σ : L2.St} {H : Hp} (h : tS X.K fa cf W B (.mv i m j) De σ H) : tE X.K fa cf (.var j) σ H fun v H1 => De.nx (σ.set i (some v)) H1 := by
  obtain ⟨μ0, H0, M0, μ, M, S, σd, L, o, S', f, hL, e, q⟩ := h
  simp only [ex] at e
  split at e
  · rename_i n hj
    split at e
    · cases e
    · rename_i hij
      cases e
      refine ⟨μ, M, S, σd, .l n, S, f.rp, by simp only [ev, hj], fun v H1 M1 g q1 => ?_⟩
      exact q μ _ H1 M1 ((f.step g).mv hj (by rw [g.ln] at q1 ⊢; exact q1) hij) (g.stp f.rs)
  · rename_i r hr hj
    simp only [Option.bind_eq_some_iff] at e
    obtain ⟨⟨σ1, S2⟩, e2, e3⟩ := e
    cases e3
    refine ⟨μ, M, S, σd, r, S, f.rp, by simp only [ev, hj], fun v H1 M1 g q1 => ?_⟩
    obtain ⟨μ', M'', f', kp, lo, ln⟩ := f.setv (L := L) g q1 hL e2
    exact q μ' _ H1 M'' f' ⟨kp, lo, by rw [g.ln] at ln; exact ln⟩
  · cases e
theorem s_mv {i j : Nat} {m : Bool} {x : Str} {pos' : Pos} (hN : X.N.Nodup) (hi : X.N[i]? = some x) (hx : Loc X.env.scope x) (he : E X fa cf a (.var j)) (hs : swapsWith a (some (.Name x pos')) pos.line X.env = pure false) (hf : X.fn x = true ∨ X.env.scope.names.lookup x = some .local) :
    St1 X fa cf W B (.Assign [.Name x pos'] a pos) (.mv i m j) := PS.imp (ps_set hN hi hx he hs hf) fun De σ H h => mv_core h
theorem s_set {i : Nat} {m : Bool} {x : Str} {pos' : Pos} (hN : X.N.Nodup) (hi : X.N[i]? = some x) (hx : Loc X.env.scope x) (he : E X fa cf a ia) (hs : swapsWith a (some (.Name x pos')) pos.line X.env = pure false) (hf : X.fn x = true ∨ X.env.scope.names.lookup x = some .local) :
    St1 X fa cf W B (.Assign [.Name x pos'] a pos) (.set i m ia) := PS.imp (ps_set hN hi hx he hs hf) fun De σ H h => set_core h
theorem s_setLc1 {i : Nat} {m : Bool} {y : Str} {py spos : Pos} {elt tg iter : Expr} {ifs : List Expr} {scope : Scope} {own : List (Str × Nat)} {it : It} {t : Tg} {iifs : IEs} {ie : IE} (hc : X.calm = true) (hN : X.N.Nodup) (hy : X.N[i]? = some y) (hyl : X.env.scope.names.lookup y = some .local)
    (hsw : swapsWith (.ListComp elt [⟨tg, iter, ifs, 0⟩] scope pos) (some (.Name y py)) spos.line X.env = pure true) (hi : I X fa cf tg iter it) (ok : BlkOk X.N X.env.scope scope own) (ht : ∀ j ∈ tgn t, j ∈ own.map (·.2))
    (hg : ∀ (s : Shared) (H : Hp) (C : Addr) (cl : List (Str × Addr)) (fp : List Addr), G (X.blk s H scope (compEnvC scope cl C X.env) fp) fa tg t) (hts : ∀ (s : Shared) (H : Hp) (C : Addr) (cl : List (Str × Addr)) (fp : List Addr), Ts (X.blk s H scope (compEnvC scope cl C X.env) fp) fa cf ifs iifs)
    (he : ∀ (s : Shared) (H : Hp) (C : Addr) (cl : List (Str × Addr)) (fp : List Addr), E (X.blk s H scope (compEnvC scope cl C X.env) fp) fa cf elt ie) (hs : ∀ x, foldedSetIterable iter X.env x = pure x) :
    St1 X fa cf W B (.Assign [.Name y py] (.ListComp elt [⟨tg, iter, ifs, 0⟩] scope pos) spos) (.set i m (.comp ie (own.map (·.2)) (.cons t it iifs .nil))) :=
  PS.imp (ps_setLc hc hN hy hyl hsw hi ok hg hts he hs) fun De σ H h => lc_one ht (set_core h)
theorem s_setLc2 {i : Nat} {m : Bool} {y : Str} {py spos : Pos} {elt tg iter tg1 iter1 : Expr} {ifs ifs1 : List Expr} {scope : Scope} {own : List (Str × Nat)} {it it1 : It} {t t1 : Tg} {iifs iifs1 : IEs} {ie : IE} (hc : X.calm = true) (hN : X.N.Nodup) (hy : X.N[i]? = some y) (hyl : X.env.scope.names.lookup y = some .local)
    (hsw : swapsWith (.ListComp elt [⟨tg, iter, ifs, 0⟩, ⟨tg1, iter1, ifs1, 0⟩] scope pos) (some (.Name y py)) spos.line X.env = pure true) (hi : I X fa cf tg iter it) (ok : BlkOk X.N X.env.scope scope own) (ht : ∀ j ∈ tgn t, j ∈ own.map (·.2)) (ht1 : ∀ j ∈ tgn t1, j ∈ own.map (·.2))
    (hg : ∀ (s : Shared) (H : Hp) (C : Addr) (cl : List (Str × Addr)) (fp : List Addr), G (X.blk s H scope (compEnvC scope cl C X.env) fp) fa tg t) (hts : ∀ (s : Shared) (H : Hp) (C : Addr) (cl : List (Str × Addr)) (fp : List Addr), Ts (X.blk s H scope (compEnvC scope cl C X.env) fp) fa cf ifs iifs)
    (hi1 : ∀ (s : Shared) (H : Hp) (C : Addr) (cl : List (Str × Addr)) (fp : List Addr), I (X.blk s H scope (compEnvC scope cl C X.env) fp) fa cf tg1 iter1 it1)
    (hg1 : ∀ (s : Shared) (H : Hp) (C : Addr) (cl : List (Str × Addr)) (fp : List Addr), G (X.blk s H scope (compEnvC scope cl C X.env) fp) fa tg1 t1) (hts1 : ∀ (s : Shared) (H : Hp) (C : Addr) (cl : List (Str × Addr)) (fp : List Addr), Ts (X.blk s H scope (compEnvC scope cl C X.env) fp) fa cf ifs1 iifs1)
    (he : ∀ (s : Shared) (H : Hp) (C : Addr) (cl : List (Str × Addr)) (fp : List Addr), E (X.blk s H scope (compEnvC scope cl C X.env) fp) fa cf elt ie) (hs : ∀ x, foldedSetIterable iter X.env x = pure x) (hs1 : ∀ env x, foldedSetIterable iter1 env x = pure x) :
    St1 X fa cf W B (.Assign [.Name y py] (.ListComp elt [⟨tg, iter, ifs, 0⟩, ⟨tg1, iter1, ifs1, 0⟩] scope pos) spos) (.set i m (.comp ie (own.map (·.2)) (.cons t it iifs (.cons t1 it1 iifs1 .nil)))) :=
  PS.imp (ps_setLc2 hc hN hy hyl hsw hi ok ht1 hg hts hi1 hg1 hts1 he hs hs1) fun De σ H h => lc_two ht (set_core h)
theorem s_setDc {dt : Bool} {i : Nat} {m : Bool} {y : Str} {py spos : Pos} {kx vx tg iter : Expr} {ifs : List Expr} {scope : Scope} {own : List (Str × Nat)} {it : It} {t : Tg} {iifs : IEs} {ik iv : IE} (hu : X.A.units + 65 < cLine) (hc : X.calm = true) (hN : X.N.Nodup) (hy : X.N[i]? = some y) (hyl : X.env.scope.names.lookup y = some .local)
    (hsw : swapsWith (.DictComp kx vx [⟨tg, iter, ifs, 0⟩] scope pos) (some (.Name y py)) spos.line X.env = pure true) (hi : I X fa cf tg iter it) (ok : BlkOk X.N X.env.scope scope own) (ht : ∀ j ∈ tgn t, j ∈ own.map (·.2))
    (hg : ∀ (s : Shared) (H : Hp) (C : Addr) (cl : List (Str × Addr)) (fp : List Addr), G (X.blk s H scope (compEnvC scope cl C X.env) fp) fa tg t) (hts : ∀ (s : Shared) (H : Hp) (C : Addr) (cl : List (Str × Addr)) (fp : List Addr), Ts (X.blk s H scope (compEnvC scope cl C X.env) fp) fa cf ifs iifs)
    (hk : ∀ (s : Shared) (H : Hp) (C : Addr) (cl : List (Str × Addr)) (fp : List Addr), E (X.blk s H scope (compEnvC scope cl C X.env) fp) fa cf kx ik) (hv : ∀ (s : Shared) (H : Hp) (C : Addr) (cl : List (Str × Addr)) (fp : List Addr), E (X.blk s H scope (compEnvC scope cl C X.env) fp) fa cf vx iv) (hs : ∀ x, foldedSetIterable iter X.env x = pure x) :
    St1 X fa cf W B (.Assign [.Name y py] (.DictComp kx vx [⟨tg, iter, ifs, 0⟩] scope pos) spos) (.set i m (.dcomp dt ik iv (own.map (·.2)) (.cons t it iifs .nil))) :=
  PS.imp (ps_setDcP (u0 := dObjH dt) (by cases dt <;> simp [dObjH]) (by omega) hc hN hy hyl hsw hi ok hg hts hk hv hs) fun De σ H h => dc_one ht (set_core h)
theorem s_setLcd {i x : Nat} {m : Bool} {y : Str} {py spos : Pos} {elt tg iter : Expr} {ifs : List Expr} {scope : Scope} {own : List (Str × Nat)} {t : Tg} {iifs : IEs} {ie : IE} (hc : X.calm = true) (hN : X.N.Nodup) (hy : X.N[i]? = some y) (hyl : X.env.scope.names.lookup y = some .local)
    (hsw : swapsWith (.ListComp elt [⟨tg, iter, ifs, 0⟩] scope pos) (some (.Name y py)) spos.line X.env = pure false) (hx : Loc X.env.scope y) (hf : X.fn y = true ∨ X.env.scope.names.lookup y = some .local) (he : E X fa cf (.ListComp elt [⟨tg, iter, ifs, 0⟩] scope pos) ia) :
    St1 X fa cf W B (.Assign [.Name y py] (.ListComp elt [⟨tg, iter, ifs, 0⟩] scope pos) spos) (.set i m ia) := s_set hN hy hx he hsw hf
theorem s_ex (he : E X fa cf a ia) (hs : swapsWith a none pos.line X.env = pure false) : St1 X fa cf W B (.Expr a pos) (.ex ia) := by
  refine PS.imp (ps_expr he hs) fun De σ H ⟨μ0, H0, M0, μ, M, S, σd, L, o, S', f, hL, e, q⟩ => ?_
  simp only [ex, Option.bind_eq_some_iff] at e
  obtain ⟨⟨r, S1⟩, e1, e3⟩ := e
  cases e3
  exact ⟨μ, M, S, σd, r, S1, f.rp, e1, fun v H1 M1 g q1 => q μ σ H1 M1 (f.step g) (g.stp f.rs)⟩
theorem s_ret (he : E X fa cf a ia) : St1 X fa cf W B (.Return (some a) pos) (.ret ia) := by
  refine PS.imp (ps_ret he) fun De σ H ⟨μ0, H0, M0, μ, M, S, σd, L, o, S', f, hL, e, q⟩ => ?_
  simp only [ex, Option.bind_eq_some_iff] at e
  obtain ⟨⟨r, S1⟩, e1, e3⟩ := e
  cases e3
  refine ⟨μ, M, S, σd, r, S1, f.rp, e1, fun v H1 M1 g q1 => q μ v H1 M1 (f.toFb.step g) ?_⟩
  rw [g.ln]
  exact q1.since fun b h => f.toFb.none h
theorem rowsOf_pu {μ0 μ : Nat → Addr} {H0 H : Hp} {M0 M : Mk} {S : Store} (f : Fb X.K B μ0 H0 M0 μ H M S) : ∀ {ks : List Nat} {xs : List D}, rowsOf B S ks = some xs → PuA X.K H (fun b => M b ∧ ∀ k, B ≤ k → k < S.length → b ≠ μ k) (ks.map fun k => V.ref (μ k)) xs
  | [], xs, e => by cases e; exact .nil
  | k :: ks, xs, e => by
    simp only [rowsOf] at e
    split at e
    · rename_i hB
      simp only [Option.bind_eq_some_iff] at e
      obtain ⟨x, e1, y, e2, ys, e3, e4⟩ := e
      cases e4
      have hk := (List.getElem?_eq_some_iff.mp e1).1
      exact .cons (((f.rs.st k x e1).2.ct e2).pu (fun b _ _ z => z.1) fun z => z.2 k hB hk rfl) (rowsOf_pu f e3)
    · cases e
/-- where a def ends its own places are data -/
theorem fr_thaw {μ0 μ : Nat → Addr} {H0 H : Hp} {M0 M : Mk} {S : Store} {σd : Ev} {σ : L2.St} (f : Fr X.K fa B μ0 H0 M0 μ H M S σd σ) : Fr X.K fa B μ0 H0 M0 μ H (fun b => M b ∧ ∀ k, B ≤ k → k < S.length → b ≠ μ k) (S.take B) (σd.map (thawR B S)) σ := by
  have hle := f.le
  have hln : (S.take B).length = B := by rw [List.length_take]; exact Nat.min_eq_left hle
  have hM : ∀ b, (M b ∧ ∀ k, B ≤ k → k < S.length → b ≠ μ k) → M b := fun b z => z.1
  have own : ∀ k, k < B → ∀ j, B ≤ j → j < S.length → μ k ≠ μ j := fun k hk j h1 h2 z => by
    have := f.rs.inj k j (by omega) h2 z
    omega
  have pl : ∀ {a : Addr} {x : D}, Pl X.K H M a x → Pl X.K H (fun b => M b ∧ ∀ k, B ≤ k → k < S.length → b ≠ μ k) a x := fun c => c.mono (fun _ _ e _ => e) (fun b _ _ z => z.1) fun _ e => e
  have st : ∀ (k : Nat) (x : D), (S.take B)[k]? = some x → k < B ∧ S[k]? = some x := fun k x e => by
    have hk := (List.getElem?_eq_some_iff.mp e).1
    rw [hln] at hk
    rw [List.getElem?_take_of_lt hk] at e
    exact ⟨hk, e⟩
  refine ⟨⟨⟨fun b z => f.rs.dom b z.1, fun k x e => ?_, fun k m h1 h2 e => ?_⟩, f.mu, fun k h1 h2 => ?_, ?_, by rw [hln]; exact Nat.le_refl _, f.d0⟩, ⟨by rw [List.length_map]; exact f.sl.ln, fun i r e => ?_⟩, fun i j n h e1 e2 => ?_, fun i j n ks h e1 e2 => ?_⟩
  · obtain ⟨hk, e⟩ := st k x e
    obtain ⟨g1, g2⟩ := f.rs.st k x e
    exact ⟨⟨g1, own k hk⟩, pl g2⟩
  · exact f.rs.inj k m (by omega) (by omega) e
  · omega
  · have et : (S.take B).take B = S.take B := by rw [List.take_take, Nat.min_self]
    rw [et]
    have g := f.go
    refine ⟨fun b z => ⟨g.mm b z, fun k h1 h2 z2 => (f.d0 b z).1 (z2 ▸ f.own k h1 h2)⟩, fun b z => g.new b z.1, fun b z => g.dom b z.1, g.fr, g.dm, g.fz, g.ln, fun k x e => ?_⟩
    obtain ⟨hk, _⟩ := st k x e
    obtain ⟨g1, g2⟩ := g.st k x e
    refine ⟨⟨g1, ?_⟩, pl g2⟩
    rw [← f.mu k hk]
    exact own k hk
  · rw [List.getElem?_map] at e
    cases e0 : σd[i]? with
    | none => rw [e0] at e; cases e
    | some o =>
      rw [e0] at e
      have e : thawR B S o = some r := Option.some.inj e
      cases o with
      | none => cases e
      | some q =>
        obtain ⟨v, h1, h2⟩ := f.sl.sl i q e0
        refine ⟨v, h1, ?_⟩
        cases q with
        | d x => cases e; exact Pu.mono (fun _ _ e _ => e) (fun b _ _ z => z.1) h2
        | f x => exact h2.elim
        | fr x => exact h2.elim
        | fn k => cases e; exact h2
        | s0 x => cases e; obtain ⟨a, e, h⟩ := h2; exact ⟨a, e, h.mono (fun _ _ e _ => e) fun b _ _ z => z.1⟩
        | l n =>
          simp only [thawR] at e
          split at e
          · rename_i hn
            cases e
            exact ⟨by rw [hln]; exact hn, h2.2⟩
          · cases e
        | rw ks =>
          simp only [thawR, Option.map_eq_some_iff] at e
          obtain ⟨xs, e1, e2⟩ := e
          cases e2
          obtain ⟨a, rfl, na, ha, _⟩ := h2
          exact .lst ha (fun z => na z.1) (rowsOf_pu f.toFb e1)
  · have key : ∀ {i : Nat}, (σd.map (thawR B S))[i]? = some (some (Ip.R.l n)) → False := fun {i} e => by
      rw [List.getElem?_map] at e
      cases e0 : σd[i]? with
      | none => rw [e0] at e; cases e
      | some o =>
        rw [e0] at e
        have e : thawR B S o = some (.l n) := Option.some.inj e
        cases o with
        | none => cases e
        | some q =>
          cases q with
          | l m =>
            simp only [thawR] at e
            split at e
            · cases e; omega
            · cases e
          | rw ks =>
            simp only [thawR, Option.map_eq_some_iff] at e
            obtain ⟨xs, _, e2⟩ := e
            cases e2
          | _ => cases e
    exact (key e1).elim
  · exfalso
    rw [List.getElem?_map] at e2
    cases e0 : σd[j]? with
    | none => rw [e0] at e2; cases e2
    | some o =>
      rw [e0] at e2
      have e2 : thawR B S o = some (.rw ks) := Option.some.inj e2
      cases o with
      | none => cases e2
      | some q =>
        cases q with
        | l m =>
          simp only [thawR] at e2
          split at e2 <;> cases e2
        | rw ks =>
          simp only [thawR, Option.map_eq_some_iff] at e2
          obtain ⟨xs, _, e3⟩ := e2
          cases e3
        | _ => cases e2
theorem s_retz (he : E X fa cf a ia) : St1 X fa cf W B (.Return (some a) pos) (.retz ia) := by
  refine PS.imp (ps_ret he) fun De σ H ⟨μ0, H0, M0, μ, M, S, σd, L, o, S', f, hL, e, q⟩ => ?_
  simp only [ex, Option.bind_eq_some_iff] at e
  obtain ⟨⟨r, S1⟩, e1, e3⟩ := e
  cases e3
  have ft := fr_thaw f
  refine ⟨μ, _, _, _, r, S1, ft.rp, e1, fun v H1 M1 g q1 => q μ v H1 M1 (ft.toFb.step g) ?_⟩
  rw [g.ln]
  exact q1.since fun b h => ft.toFb.none h
theorem s_retn : St1 X fa cf W B (.Return none pos) .retn := by
  refine PS.imp ps_retN fun De σ H ⟨μ0, H0, M0, μ, M, S, σd, L, o, S', f, hL, e, q⟩ => ?_
  cases e
  exact q μ _ H M f.toFb .non
/-- a test, told apart -/
theorem tv_read {σd : Ev} {S S1 : Store} {k : Bool} (e : tv cf ic σd S = some (k, S1)) : ∃ r, ev cf ic σd S = some (r, S1) ∧ tru S1 r = some k := by
  simp only [tv, Option.bind_eq_some_iff] at e
  obtain ⟨⟨r, S2⟩, e1, k', e2, e3⟩ := e
  cases e3
  exact ⟨r, e1, e2⟩
theorem s_ite (hc : T X fa cf c ic) (ha : Sts X fa cf W B sts iss) (hb : Sts X fa cf W B ss jss) : St1 X fa cf W B (.If c sts ss pos) (.ite ic iss jss) := by
  refine PS.imp (ps_if hc ha hb) fun De σ H ⟨μ0, H0, M0, μ, M, S, σd, L, o, S', f, hL, e, q⟩ => ?_
  simp only [ex, Option.bind_eq_some_iff] at e
  obtain ⟨⟨k, S1⟩, e1, e2⟩ := e
  obtain ⟨r, e3, e4⟩ := tv_read e1
  refine ⟨μ, M, S, σd, r, S1, k, f.rp, e3, e4, fun H1 M1 g => ?_⟩
  have hL' : ∀ n ∈ L, n < S1.length := fun n h => by rw [g.ln]; exact hL n h
  cases k with
  | true => simp only [if_true] at e2 ⊢; exact ⟨μ0, H0, M0, μ, M1, S1, σd, L, o, S', f.step g, hL', e2, q.next (g.stp f.rs)⟩
  | false => simp only [Bool.false_eq_true, if_false] at e2 ⊢; exact ⟨μ0, H0, M0, μ, M1, S1, σd, L, o, S', f.step g, hL', e2, q.next (g.stp f.rs)⟩
theorem s_while (hp : PassesOwn (model X.prog X.w) X.A X.env X.xe) (hc : T X fa cf c ic) (hb : Sts X fa cf W B sts iss) : St1 X fa cf W B (.While c sts [] pos) (.while_ ic iss) := by
  refine PS.imp (ps_while hp hc hb) fun De σ H ⟨μ0, H0, M0, μ, M, S, σd, L, o, S', f, hL, e, q⟩ => ?_
  simp only [ex] at e
  refine ⟨fun m σ' H' => ∃ μ2 M2 S2 σ2, Fr X.K fa B μ0 H0 M0 μ2 H' M2 S2 σ2 σ' ∧ Stp L μ H M S μ2 H' M2 S2 ∧ lpW (tv cf ic) (fun σ1 S1 => exs cf W B iss L σ1 S1) m σ2 S2 = some (o, S'), ⟨W, μ, M, S, σd, f, .refl, e⟩, ?_⟩
  rintro m σ1 H1 ⟨μ2, M2, S2, σ2, f2, s2, e2⟩
  cases m with
  | zero => cases e2
  | succ m =>
    simp only [lpW, Option.bind_eq_some_iff] at e2
    obtain ⟨⟨k, S3⟩, e3, e4⟩ := e2
    obtain ⟨r, e5, e6⟩ := tv_read e3
    refine ⟨μ2, M2, S2, σ2, r, S3, k, f2.rp, e5, e6, fun H3 M3 g => ?_⟩
    have f3 := f2.step g
    have s3 : Stp L μ H M S μ2 H3 M3 S3 := s2.trans (g.stp f2.rs)
    have hL' : ∀ n ∈ L, n < S3.length := fun n h => Nat.lt_of_lt_of_le (hL n h) s3.ln
    cases k with
    | false =>
      simp only [Bool.false_eq_true, if_false] at e4 ⊢
      cases e4
      exact q μ2 σ1 H3 M3 f3 s3
    | true =>
      simp only [if_true, Option.bind_eq_some_iff] at e4 ⊢
      obtain ⟨⟨o1, S4⟩, e7, e8⟩ := e4
      refine ⟨fun σ' H' => ∃ μ4 M4 S4 σ4, Fr X.K fa B μ0 H0 M0 μ4 H' M4 S4 σ4 σ' ∧ Stp L μ H M S μ4 H' M4 S4 ∧ lpW (tv cf ic) (fun σ1 S1 => exs cf W B iss L σ1 S1) m σ4 S4 = some (o, S'), fun σ' H' h => ⟨m, Nat.lt_succ_self m, h⟩, μ0, H0, M0, μ2, M3, S3, σ2, L, o1, S4, f3, hL', e7, ?_⟩
      cases o1 with
      | nx σ4 => exact fun μ4 σ' H' M4 f4 s4 => ⟨μ4, M4, S4, σ4, f4, s3.trans s4, e8⟩
      | rt r => cases e8; exact q
theorem s_for {tg iter : Expr} {t : Tg} {it : It} (hp : PassesOwn (model X.prog X.w) X.A X.env X.xe) (hc : X.calm = true) (hi : I X fa cf tg iter it) (hg : G X fa tg t) (hb : Sts X fa cf W B sts iss) (hs : ∀ x, foldedSetIterable iter X.env x = pure x) : St1 X fa cf W B (.For tg iter sts [] pos) (.for_ t it iss) := by
  refine PS.imp (ps_for hp hc hi hg hb hs) fun De σ H ⟨μ0, H0, M0, μ, M, S, σd, L, o, S', f, hL, e, q⟩ => ?_
  simp only [ex, Option.bind_eq_some_iff] at e
  obtain ⟨⟨xs, k, S1⟩, e1, e2⟩ := e
  refine ⟨μ, M, S, σd, xs, k, S1, f.rp, e1, fun J H1 M1 g1 w => ?_⟩
  have lkL : ∀ n ∈ L, n ∈ lk k L := fun n h => by
    cases k with
    | none => exact h
    | some p => exact List.mem_cons_of_mem _ h
  refine ⟨fun i m σ' H' => ∃ μ2 M2 S2 σ2, Fr X.K fa B μ0 H0 M0 μ2 H' M2 S2 σ2 σ' ∧ Stp (lk k L) μ H1 M1 S1 μ2 H' M2 S2 ∧ lpS k (fun x σ1 S2 => (asg t x σ1).bind fun σ2 => exs cf W B iss (lk k L) σ2 S2) (xs.drop i) σ2 S2 = some (o, S') ∧ i ≤ xs.length ∧ m = xs.length - i,
    ⟨_, μ, M1, S1, σd, f.step g1, .refl, e2, Nat.zero_le _, rfl⟩, ?_⟩
  rintro i m σ1 H2 ⟨μ2, M2, S2, σ2, f2, s2, e3, hi, rfl⟩
  have walk : still k S2 → WalkAt X.K J xs H2 M2 := fun st => w μ2 H2 M2 S2 s2.kp f2.rs (fun n l hk => s2.lo n (by rw [hk]; exact List.mem_cons_self)) st
  by_cases hlt : i < xs.length
  · rw [List.drop_eq_getElem_cons hlt] at e3
    simp only [lpS] at e3
    split at e3
    · rename_i st
      simp only [Option.bind_eq_some_iff] at e3
      obtain ⟨⟨o1, S3⟩, ⟨σ3, e4, e5⟩, e6⟩ := e3
      obtain ⟨go, yl⟩ := (walk st).go i xs[i] (List.getElem?_eq_getElem hlt)
      refine .inr ⟨go, fun σ' H' => ∃ μ4 M4 S4 σ4, Fr X.K fa B μ0 H0 M0 μ4 H' M4 S4 σ4 σ' ∧ Stp (lk k L) μ H1 M1 S1 μ4 H' M4 S4 ∧ lpS k (fun x σ1 S2 => (asg t x σ1).bind fun σ2 => exs cf W B iss (lk k L) σ2 S2) (xs.drop (i + 1)) σ4 S4 = some (o, S'),
        fun σ' H' ⟨μ4, M4, S4, σ4, h1, h2, h3⟩ => ⟨xs.length - (i + 1), by omega, μ4, M4, S4, σ4, h1, h2, h3, hlt, rfl⟩, fun x H' y => ?_⟩
      obtain ⟨x1, x2⟩ := yl x H' y
      have f3 := f2.step (f2.rs.refl.ext x1)
      have s3 : Stp (lk k L) μ H1 M1 S1 μ2 H' M2 S2 := s2.trans (Ext.stp x1)
      refine ⟨μ2, S2.length, M2, xs[i], σ2, σ3, x2, f3.sl, e4, fun σ' s' hj hl => ?_⟩
      refine ⟨μ0, H0, M0, μ2, M2, S2, σ3, lk k L, o1, S3, f3.slots s' (asg_old e4), fun n h => ?_, e5, ?_⟩
      · have l1 : S.length ≤ S2.length := Nat.le_trans (Nat.le_of_eq g1.ln.symm) s2.ln
        cases k with
        | none => exact Nat.lt_of_lt_of_le (hL n h) l1
        | some p =>
          rcases List.mem_cons.mp h with rfl | h
          · exact (List.getElem?_eq_some_iff.mp st).1
          · exact Nat.lt_of_lt_of_le (hL n h) l1
      · cases o1 with
        | nx σ4 => exact fun μ4 σ' H' M4 f4 s4 => ⟨μ4, M4, S3, σ4, f4, s3.trans s4, e6⟩
        | rt r => cases e6; exact q
    · cases e3
  · have hx : i = xs.length := by omega
    subst hx
    rw [List.drop_length] at e3
    simp only [lpS] at e3
    split at e3
    · rename_i st
      cases e3
      exact .inl ⟨(walk st).stop, q μ2 σ1 H2 M2 f2 ((g1.stp f.rs).trans (s2.less lkL))⟩
    · cases e3
end
end Ip

set_option Elab.async false
set_option linter.all false
set_option maxRecDepth 100000
set_option maxHeartbeats 1000000
/-! Several names at once; parts of a list. -/
namespace Ip
open PySem PySem.Spec PyProof.Rows L2

section
variable {X : Cx} {fa : Nat → Addr} {cf : Cf} {W B : Nat} {a b c e0 : Expr} {ia ib ic : IE} {pos p0 : Pos}
theorem par_core {is : List (Nat × Bool)} {as : IEs} {De : Ends} {σ : L2.St} {H : Hp} {Z : List V → Hp → Prop} (hnd : (is.map (·.1)).Nodup) (h : tS X.K fa cf W B (.par is as) De σ H) (hZ : ∀ vs H1, vs.length = is.length → De.nx (setV σ (is.map (·.1)) vs) H1 → Z vs H1) : tL X.K fa cf as σ H Z := by
  obtain ⟨μ0, H0, M0, μ, M, S, σd, L, o, S', f, hL, e, q⟩ := h
  simp only [ex, Option.bind_eq_some_iff] at e
  obtain ⟨⟨rs, S1⟩, e1, e2⟩ := e
  split at e2
  · rename_i hc
    obtain ⟨c1, c2⟩ := hc
    cases e2
    refine ⟨μ, M, S, σd, rs, S1, f.rp, e1, fun vs H1 M1 as g rr => ?_⟩
    obtain ⟨μ', M'', f', st⟩ := f.par (mu := is.map (·.2)) (is := is.map (·.1)) g rr (by rw [List.length_map, c1]) (by rw [List.length_map, c1]) hnd (fun r hr m e => by
      have := List.all_eq_true.mp c2 r hr
      subst e
      exact of_decide_eq_true this) (fun r hr => by
      have := List.all_eq_true.mp c2 r hr
      cases r <;> first | rfl | exact this) hL
    exact hZ vs H1 (by rw [rr.length, c1]) (q μ' _ H1 M'' f' st)
  · cases e2
theorem s_par2 {i j : Nat} {mi mj : Bool} {x y : Str} {is : IEs} {px py pt : Pos} {kt k2 pt2} (hc : X.calm = true) (hN : X.N.Nodup) (hi : X.N[i]? = some x) (hj : X.N[j]? = some y) (hij : i ≠ j)
    (hx : X.env.scope.names.lookup x = some .local) (hy : X.env.scope.names.lookup y = some .local) (ha : L X fa cf [a, b] is)
    (hw : swappedStores [.Tuple [.Name x px, .Name y py] kt pt] (.Tuple [a, b] k2 pt2) X.env = pure (some [x, y]))
    (hs : swapsWithSole [.Tuple [.Name x px, .Name y py] kt pt] (.Tuple [a, b] k2 pt2) pos.line X.env = pure false) :
    St1 X fa cf W B (.Assign [.Tuple [.Name x px, .Name y py] kt pt] (.Tuple [a, b] k2 pt2) pos) (.par [(i, mi), (j, mj)] is) := by
  refine PS.imp (ps_par hc hN hi hj hij hx hy ha hw hs) fun De σ H h => par_core (by simp [hij]) h fun vs H1 hl q => ?_
  match vs, hl, q with
  | [v, w], _, q =>
    simp only [List.map_cons, List.map_nil, setV] at q
    exact ⟨v, w, rfl, q⟩
theorem s_par3 {i j l : Nat} {mi mj ml : Bool} {x y z : Str} {is : IEs} {px py pz pt : Pos} {kt k2 pt2} (hc : X.calm = true) (hN : X.N.Nodup) (hi : X.N[i]? = some x) (hj : X.N[j]? = some y) (hl : X.N[l]? = some z) (hij : i ≠ j) (hil : i ≠ l) (hjl : j ≠ l)
    (hx : X.env.scope.names.lookup x = some .local) (hy : X.env.scope.names.lookup y = some .local) (hz : X.env.scope.names.lookup z = some .local) (ha : L X fa cf [a, b, c] is)
    (hw : swappedStores [.Tuple [.Name x px, .Name y py, .Name z pz] kt pt] (.Tuple [a, b, c] k2 pt2) X.env = pure (some [x, y, z]))
    (hs : swapsWithSole [.Tuple [.Name x px, .Name y py, .Name z pz] kt pt] (.Tuple [a, b, c] k2 pt2) pos.line X.env = pure false) :
    St1 X fa cf W B (.Assign [.Tuple [.Name x px, .Name y py, .Name z pz] kt pt] (.Tuple [a, b, c] k2 pt2) pos) (.par [(i, mi), (j, mj), (l, ml)] is) := by
  refine PS.imp (ps_par3 hc hN hi hj hl hij hil hjl hx hy hz ha hw hs) fun De σ H h => par_core (by simp [hij, hil, hjl]) h fun vs H1 hl q => ?_
  match vs, hl, q with
  | [u, v, w], _, q =>
    simp only [List.map_cons, List.map_nil, setV] at q
    exact ⟨u, v, w, rfl, q⟩
theorem Sc.ext' {K : PySem.W.Frag} {H H' : Hp} {M : Mk} (x : Ext H H') {b : Addr} {ns : D} (q : Sv K H M b ns) : Sv K H' M b ns := q.mono (fun b o e _ => x b o e) fun _ _ _ z => z
theorem RRL.ext {K : PySem.W.Frag} {μ : Nat → Addr} {n : Nat} {H H1 H2 : Hp} {M : Mk} {rs : List Ip.R} {vs : List V} {as : List Addr} (x : Ext H1 H2) (q : RRL K fa μ n H H1 M rs vs as) : RRL K fa μ n H H2 M rs vs as := by
  induction q with
  | nil => exact .nil
  | f h0 h1 c ha _ ih => exact .f h0 h1 (c.mono (fun b o e _ => x b o e) (fun _ _ _ z => z) fun o e => x _ o e) ha ih
  | @o r v rs vs as hr q _ ih =>
    refine .o hr ?_ ih
    cases r with
    | d y => exact Pu.ext x q
    | l k => exact q
    | f y => exact absurd rfl (hr y)
    | fn k => exact q
    | s0 ns => obtain ⟨a, e, h⟩ := q; exact ⟨a, e, Sc.ext' x h⟩
    | fr xs =>
      obtain ⟨a, as, e, h1, h2, h3, h4, h5⟩ := q
      exact ⟨a, as, e, h1, x _ _ h2, h3, h4, fun i b y e1 e2 => by
        obtain ⟨q1, q2, q3⟩ := h5 i b y e1 e2
        exact ⟨q1, q2, q3.mono (fun b o e _ => x b o e) (fun _ _ _ z => z) fun o e => x _ o e⟩⟩
    | rw ks => obtain ⟨a, e, h1, h2, h3⟩ := q; exact ⟨a, e, h1, x _ _ h2, h3⟩
/-- by a tuple that is taken apart -/
theorem par_coreT {is : List (Nat × Bool)} {as : IEs} {De : Ends} {σ : L2.St} {H : Hp} {Z : List V → Hp → Prop} (hnd : (is.map (·.1)).Nodup) (h : tS X.K fa cf W B (.par is as) De σ H) (hZ : ∀ vs H1, vs.length = is.length → (∀ p, H1 p = none → De.nx (setV σ (is.map (·.1)) vs) (upd H1 p (.tup vs))) → Z vs H1) : tL X.K fa cf as σ H Z := by
  obtain ⟨μ0, H0, M0, μ, M, S, σd, L, o, S', f, hL, e, q⟩ := h
  simp only [ex, Option.bind_eq_some_iff] at e
  obtain ⟨⟨rs, S1⟩, e1, e2⟩ := e
  split at e2
  · rename_i hc
    obtain ⟨c1, c2⟩ := hc
    cases e2
    refine ⟨μ, M, S, σd, rs, S1, f.rp, e1, fun vs H1 M1 as g rr => ?_⟩
    refine hZ vs H1 (by rw [rr.length, c1]) fun p hp => ?_
    have x : Ext H1 (upd H1 p (.tup vs)) := .upd hp
    obtain ⟨μ', M'', f', st⟩ := f.par (mu := is.map (·.2)) (is := is.map (·.1)) (g.ext x) (RRL.ext x rr) (by rw [List.length_map, c1]) (by rw [List.length_map, c1]) hnd (fun r hr m e => by
      have := List.all_eq_true.mp c2 r hr
      subst e
      exact of_decide_eq_true this) (fun r hr => by
      have := List.all_eq_true.mp c2 r hr
      cases r <;> first | rfl | exact this) hL
    exact q μ' _ _ M'' f' st
  · cases e2
theorem s_parT {i j : Nat} {mi mj : Bool} {x y : Str} {is : IEs} {px py pt : Pos} {kt k2 pt2} (hc : X.calm = true) (hN : X.N.Nodup) (hi : X.N[i]? = some x) (hj : X.N[j]? = some y) (hij : i ≠ j)
    (lx : Loc X.env.scope x) (hx : X.fn x = true ∨ X.env.scope.names.lookup x = some .local) (ly : Loc X.env.scope y) (hy : X.fn y = true ∨ X.env.scope.names.lookup y = some .local) (ha : L X fa cf [a, b] is)
    (hw : swappedStores [.Tuple [.Name x px, .Name y py] kt pt] (.Tuple [a, b] k2 pt2) X.env = pure none)
    (hs : swapsWithSole [.Tuple [.Name x px, .Name y py] kt pt] (.Tuple [a, b] k2 pt2) pos.line X.env = pure false) :
    St1 X fa cf W B (.Assign [.Tuple [.Name x px, .Name y py] kt pt] (.Tuple [a, b] k2 pt2) pos) (.par [(i, mi), (j, mj)] is) := by
  refine PS.imp (ps_asg (pe_tup ha) (pg_tup hc (pgs_cons (pg_name hN hi lx hx) (pgs_cons (pg_name hN hj ly hy) pgs_nil)) (n := 2) rfl rfl) hs hw rfl) fun De σ H h => par_coreT (by simp [hij]) h fun vs H1 hl q => ?_
  match vs, hl, q with
  | [v, w], _, q =>
    simp only [List.map_cons, List.map_nil, setV] at q
    refine ⟨by rw [sizeLine_eq]; simp, fun p hp => ⟨p, [v, w], rfl, .inl (.inl upd_same), rfl, v, [w], rfl, w, [], rfl, rfl, q p hp⟩⟩
theorem s_unp {tg : Expr} {t : Tg} (he : E X fa cf a ia) (hg : G X fa tg t) (hs : swapsWithSole [tg] a pos.line X.env = pure false) (hw : swappedStores [tg] a X.env = pure none) (h1 : (assignEach [tg] X.env).map (·.2) = [assign tg X.env]) :
    St1 X fa cf W B (.Assign [tg] a pos) (.unp t ia) := by
  refine PS.imp (ps_asg he hg hs hw h1) fun De σ H ⟨μ0, H0, M0, μ, M, S, σd, L, o, S', f, hL, e, q⟩ => ?_
  simp only [ex, Option.bind_eq_some_iff] at e
  obtain ⟨⟨r, S1⟩, e1, x, e2, σ1, e3, e4⟩ := e
  cases e4
  refine ⟨μ, M, S, σd, r, S1, f.rp, e1, fun v H1 M1 g rr => ?_⟩
  have gb := g.base f.rs
  have fb := f.step gb
  exact ⟨μ, S1.length, M, x, σd, σ1, rr.pure f.rs.dom g.mm e2, fb.sl, e3, fun σ' s' hj hl => q μ σ' H1 M (fb.slots s' (asg_old e3)) (gb.stp f.rs)⟩
/-- of a list, of a dict -/
def rSetD : V → V → V → Hp → (Hp → Prop) → Prop := fun o i v H Q => rSetL o i v H Q ∨ ∃ a H', o = .ref a ∧ DPut H a i v H' ∧ Q H'
theorem set_any (hu : X.A.units + 65 < cLine) : PSet X rSetD := by
  intro pins s σ H o i v ov iv u Q I ro ri rv h
  rcases h with h | ⟨a, H', rfl, g, q⟩
  · exact set_list pins s σ H o i v ov iv u Q I ro ri rv h
  · cases ro
    exact d_setItem (by omega) I g ri rv fun s' J => ⟨H', J, q⟩
/-- xs[i] = v, by values -/
theorem put_core {μ : Nat → Addr} {H : Hp} {M : Mk} {S : Store} {n : Nat} {u k v u' : D} {w z : V} {Z : Hp → Prop} (p : RS X.K μ H M S) (eu : S[n]? = some u) (e : putD u k v = some u') (hk : Va X.K H M z k) (hv : Pu X.K H M w v)
    (q : ∀ H', Go X.K μ S.length H M H' M (S.set n u') → Kp H M H' M → Z H') : rSetD (.ref (μ n)) z w H Z := by
  unfold putD at e
  split at e
  · rename_i xs j
    rw [Option.map_eq_some_iff] at e
    obtain ⟨m, e1, rfl⟩ := e
    obtain ⟨hM, hpl⟩ := p.st n _ eu
    obtain ⟨vs, h1, h2⟩ := hpl.list
    refine .inl ⟨μ n, vs, j, m, rfl, hk.int, h1, by rw [h2.length]; exact e1, ?_⟩
    refine q _ (p.refl.chg p (List.getElem?_eq_some_iff.mp eu).1 (fun oo uu z => hpl.list.nofrz z) fun H2 kp e2 => .inr ⟨_, e2, kp.pua (h2.set hv m)⟩) (kp_upd hM)
  · rename_i ds
    rw [Option.map_eq_some_iff] at e
    obtain ⟨ds', e1, rfl⟩ := e
    obtain ⟨hM, hpl⟩ := p.st n _ eu
    have hct : Ct X.K H M (μ n) (.dict ds) := hpl.ct rfl
    obtain ⟨o, g, h2⟩ := dict_put hct hk hv e1
    refine .inr ⟨μ n, _, rfl, g, ?_⟩
    exact q _ (p.refl.chg p (List.getElem?_eq_some_iff.mp eu).1 (fun oo uu z => hct.nofrz z) fun H2 kp e2 => .inr (h2 H2 kp.kp e2)) (kp_upd hM)
  · cases e
theorem s_seti {o i : Expr} {x : Nat} {ii : IE} (hu : X.A.units + 65 < cLine) (he : E X fa cf a ia) (ho : PE X o (tVar x)) (hi : E X fa cf i ii) (hs : swapsWithSole [.Subscript o i p0] a pos.line X.env = pure false) (hw : swappedStores [.Subscript o i p0] a X.env = pure none) (h1 : (assignEach [.Subscript o i p0] X.env).map (·.2) = [assign (.Subscript o i p0) X.env])
    (hsub : ∀ v, assign (.Subscript o i p0) X.env v = (do
      let ov ← holding [v] (eval o X.env)
      let iv ← holding [v, ov] (eval i X.env)
      standAt p0
      holding [v, ov, iv] (setItem ov iv v)
      release [v, ov, iv] [])) : St1 X fa cf W B (.Assign [.Subscript o i p0] a pos) (.seti x ii ia) := by
  refine PS.imp (ps_asg he (pg_sub ho hi (set_any hu) hsub) hs hw h1) fun De σ H ⟨μ0, H0, M0, μ, M, S, σd, L, o, S', f, hL, e, q⟩ => ?_
  simp only [ex, Option.bind_eq_some_iff] at e
  obtain ⟨⟨r, S1⟩, e1, v, e2, e⟩ := e
  split at e
  · rename_i n hn
    simp only [Option.bind_eq_some_iff] at e
    obtain ⟨⟨r2, S2⟩, e3, k, e4, u, e5, u', e6, e7⟩ := e
    cases e7
    refine ⟨μ, M, S, σd, r, S1, f.rp, e1, fun w H1 M1 g rr => ?_⟩
    have gb := g.base f.rs
    have fb := f.step gb
    have pw := rr.pure f.rs.dom g.mm e2
    obtain ⟨y, h2, h3⟩ := fb.sl.sl x _ hn
    obtain ⟨hk, rfl⟩ := h3
    refine ⟨_, h2, μ, M, S1, σd, r2, S2, fb.rp, e3, fun z H2 M2 g2 q2 => ?_⟩
    have f2 := fb.step g2
    refine put_core f2.rs e5 e6 (q2.va f2.rs e4) (g2.pu fb.rs pw) fun H3 g3 kp3 => ?_
    exact q μ σ H3 M2 (f2.step g3) (((gb.stp f.rs).trans (g2.stp fb.rs)).trans (g3.stp f2.rs))
  · cases e
/-- a place that an expression gives -/
theorem s_seto {o i : Expr} {io ii : IE} (hu : X.A.units + 65 < cLine) (he : E X fa cf a ia) (ho : E X fa cf o io) (hi : E X fa cf i ii) (hs : swapsWithSole [.Subscript o i p0] a pos.line X.env = pure false) (hw : swappedStores [.Subscript o i p0] a X.env = pure none) (h1 : (assignEach [.Subscript o i p0] X.env).map (·.2) = [assign (.Subscript o i p0) X.env])
    (hsub : ∀ v, assign (.Subscript o i p0) X.env v = (do
      let ov ← holding [v] (eval o X.env)
      let iv ← holding [v, ov] (eval i X.env)
      standAt p0
      holding [v, ov, iv] (setItem ov iv v)
      release [v, ov, iv] [])) : St1 X fa cf W B (.Assign [.Subscript o i p0] a pos) (.seto io ii ia) := by
  refine PS.imp (ps_asg he (pg_sub ho hi (set_any hu) hsub) hs hw h1) fun De σ H ⟨μ0, H0, M0, μ, M, S, σd, L, o, S', f, hL, e, q⟩ => ?_
  simp only [ex, Option.bind_eq_some_iff] at e
  obtain ⟨⟨r, S1⟩, e1, v, e2, ⟨x, S2⟩, e3, e⟩ := e
  obtain ⟨n, rfl⟩ : ∃ n, x = .l n := by cases x <;> first | exact ⟨_, rfl⟩ | cases e
  refine ⟨μ, M, S, σd, r, S1, f.rp, e1, fun w H1 M1 g rr => ?_⟩
  have gb := g.base f.rs
  have fb := f.step gb
  have pw := rr.pure f.rs.dom g.mm e2
  refine ⟨μ, M, S1, σd, .l n, S2, fb.rp, e3, fun y H2 M2 g2 q2 => ?_⟩
  have f2 := fb.step g2
  simp only [Option.bind_eq_some_iff] at e
  obtain ⟨⟨r2, S3⟩, e4, k, e5, u, e6, u', e7, e8⟩ := e
  cases e8
  obtain ⟨hk, rfl⟩ := q2
  refine ⟨μ, M2, S2, σd, r2, S3, f2.rp, e4, fun z H3 M3 g3 q3 => ?_⟩
  have f3 := f2.step g3
  refine put_core f3.rs e6 e7 (q3.va f3.rs e5) (g3.pu f2.rs (g2.pu fb.rs pw)) fun H4 g4 kp4 => ?_
  exact q μ σ H4 M3 (f3.step g4) ((((gb.stp f.rs).trans (g2.stp fb.rs)).trans (g3.stp f2.rs)).trans (g4.stp f3.rs))
theorem s_setp {o i : Expr} {x t kk : Nat} {ii : IE} {y : Str} {py pt : Pos} (hu : X.A.units + 65 < cLine) (hc : X.calm = true) (hN : X.N.Nodup) (hi' : X.N[t]? = some y) (hx : Loc X.env.scope y) (hf : X.fn y = true ∨ X.env.scope.names.lookup y = some .local) (he : E X fa cf a ia) (ho : PE X o (tVar x)) (hi : E X fa cf i ii)
    (hs : swapsWithSole [.Tuple [.Subscript o i p0, .Name y py] kk pt] a pos.line X.env = pure false) (hw : swappedStores [.Tuple [.Subscript o i p0, .Name y py] kk pt] a X.env = pure none)
    (hsub : ∀ v, assign (.Subscript o i p0) X.env v = (do
      let ov ← holding [v] (eval o X.env)
      let iv ← holding [v, ov] (eval i X.env)
      standAt p0
      holding [v, ov, iv] (setItem ov iv v)
      release [v, ov, iv] [])) : St1 X fa cf W B (.Assign [.Tuple [.Subscript o i p0, .Name y py] kk pt] a pos) (.setp x ii t ia) := by
  refine PS.imp (ps_asg he (pg_tup hc (pgs_cons (pg_sub ho hi (set_any hu) hsub) (pgs_cons (pg_name hN hi' hx hf) pgs_nil)) (n := 2) rfl rfl) hs hw rfl) fun De σ H ⟨μ0, H0, M0, μ, M, S, σd, L, o, S', f, hL, e, q⟩ => ?_
  simp only [ex, Option.bind_eq_some_iff] at e
  obtain ⟨⟨r, S1⟩, e1, d, e2, e⟩ := e
  split at e
  · rename_i v w
    split at e
    · rename_i n hn
      simp only [Option.bind_eq_some_iff] at e
      obtain ⟨⟨r2, S2⟩, e3, k, e4, u, e5, u', e6, e7⟩ := e
      cases e7
      refine ⟨μ, M, S, σd, r, S1, f.rp, e1, fun wv H1 M1 g rr => ?_⟩
      have gb := g.base f.rs
      have fb := f.step gb
      obtain ⟨a0, vs, rfl, hs0, pa⟩ := (rr.pure f.rs.dom g.mm e2).tuple
      cases pa with
      | cons pv pa =>
        cases pa with
        | cons pw pa =>
          cases pa
          rename_i v1 w1
          obtain ⟨y0, h2, h3⟩ := fb.sl.sl x _ hn
          obtain ⟨hk, rfl⟩ := h3
          refine ⟨a0, [v1, w1], rfl, hs0, rfl, v1, [w1], rfl, _, h2, μ, M, S1, σd, r2, S2, fb.rp, e3, fun z H2 M2 g2 q2 => ?_⟩
          have f2 := fb.step g2
          refine put_core f2.rs e5 e6 (q2.va f2.rs e4) (g2.pu fb.rs pv) fun H3 g3 kp3 => ?_
          have f3 := f2.step g3
          refine ⟨w1, [], rfl, rfl, ?_⟩
          exact q μ _ H3 M2 (f3.setr (r := .d w) (kp3.pu (g2.pu fb.rs pw)) (fun n z => by cases z) t) (((gb.stp f.rs).trans (g2.stp fb.rs)).trans (g3.stp f2.rs))
    · cases e
  · cases e
theorem s_set3 {o1 o2 o3 j1 j2 j3 : Expr} {x kk : Nat} {i1 i2 i3 : IE} {p1 p2 p3 pt : Pos} (hu : X.A.units + 65 < cLine) (hc : X.calm = true) (he : E X fa cf a ia) (ho1 : PE X o1 (tVar x)) (ho2 : PE X o2 (tVar x)) (ho3 : PE X o3 (tVar x)) (hi1 : E X fa cf j1 i1) (hi2 : E X fa cf j2 i2) (hi3 : E X fa cf j3 i3)
    (hs : swapsWithSole [.Tuple [.Subscript o1 j1 p1, .Subscript o2 j2 p2, .Subscript o3 j3 p3] kk pt] a pos.line X.env = pure false) (hw : swappedStores [.Tuple [.Subscript o1 j1 p1, .Subscript o2 j2 p2, .Subscript o3 j3 p3] kk pt] a X.env = pure none)
    (hsub : ∀ (o i : Expr) (p0 : Pos), (o, i) ∈ [(o1, j1), (o2, j2), (o3, j3)] → ∀ v, assign (.Subscript o i p0) X.env v = (do
      let ov ← holding [v] (eval o X.env)
      let iv ← holding [v, ov] (eval i X.env)
      standAt p0
      holding [v, ov, iv] (setItem ov iv v)
      release [v, ov, iv] [])) : St1 X fa cf W B (.Assign [.Tuple [.Subscript o1 j1 p1, .Subscript o2 j2 p2, .Subscript o3 j3 p3] kk pt] a pos) (.set3 x i1 i2 i3 ia) := by
  refine PS.imp (ps_asg he (pg_tup hc (pgs_cons (pg_sub ho1 hi1 (set_any hu) (hsub _ _ _ (by simp))) (pgs_cons (pg_sub ho2 hi2 (set_any hu) (hsub _ _ _ (by simp))) (pgs_cons (pg_sub ho3 hi3 (set_any hu) (hsub _ _ _ (by simp))) pgs_nil))) (n := 3) rfl rfl) hs hw rfl) fun De σ H ⟨μ0, H0, M0, μ, M, S, σd, L, o, S', f, hL, e, q⟩ => ?_
  simp only [ex, Option.bind_eq_some_iff] at e
  obtain ⟨⟨r, S1⟩, e1, d, e2, e⟩ := e
  split at e
  · rename_i v w u
    split at e
    · rename_i n hn
      simp only [Option.bind_eq_some_iff] at e
      obtain ⟨⟨r1, S2⟩, f1, k1, f2, u1, f3, w1, f4, ⟨r2, S3⟩, f5, k2, f6, u2, f7, w2, f8, ⟨r3, S4⟩, f9, k3, f10, u3, f11, w3, f12, e7⟩ := e
      cases e7
      refine ⟨μ, M, S, σd, r, S1, f.rp, e1, fun wv H1 M1 g rr => ?_⟩
      have gb := g.base f.rs
      have fb := f.step gb
      obtain ⟨a0, vs, rfl, hs0, pa⟩ := (rr.pure f.rs.dom g.mm e2).tuple
      cases pa with
      | cons pv pa =>
        cases pa with
        | cons pw pa =>
          cases pa with
          | cons pu pa =>
            cases pa
            rename_i v1 w1' u1'
            obtain ⟨y0, h2, h3⟩ := fb.sl.sl x _ hn
            obtain ⟨hk, rfl⟩ := h3
            refine ⟨a0, [v1, w1', u1'], rfl, hs0, rfl, v1, [w1', u1'], rfl, _, h2, μ, M, S1, σd, r1, S2, fb.rp, f1, fun z H2 M2 g2 q2 => ?_⟩
            have fb2 := fb.step g2
            refine put_core fb2.rs f3 f4 (q2.va fb2.rs f2) (g2.pu fb.rs pv) fun H3 g3 kp3 => ?_
            have fb3 := fb2.step g3
            refine ⟨w1', [u1'], rfl, _, h2, μ, M2, S2.set n w1, σd, r2, S3, fb3.rp, f5, fun z4 H4 M4 g4 q4 => ?_⟩
            have fb4 := fb3.step g4
            refine put_core fb4.rs f7 f8 (q4.va fb4.rs f6) (g4.pu fb3.rs (kp3.pu (g2.pu fb.rs pw))) fun H5 g5 kp5 => ?_
            have fb5 := fb4.step g5
            refine ⟨u1', [], rfl, _, h2, μ, M4, S3.set n w2, σd, r3, S4, fb5.rp, f9, fun z6 H6 M6 g6 q6 => ?_⟩
            have fb6 := fb5.step g6
            refine put_core fb6.rs f11 f12 (q6.va fb6.rs f10) (g6.pu fb5.rs (kp5.pu (g4.pu fb3.rs (kp3.pu (g2.pu fb.rs pu))))) fun H7 g7 kp7 => ?_
            refine ⟨rfl, ?_⟩
            exact q μ _ H7 M6 (fb6.step g7) ((((((gb.stp f.rs).trans (g2.stp fb.rs)).trans (g3.stp fb2.rs)).trans (g4.stp fb3.rs)).trans (g5.stp fb4.rs)).trans (g6.stp fb5.rs) |>.trans (g7.stp fb6.rs))
    · cases e
  · cases e
end
end Ip

set_option Elab.async false
set_option linter.all false
set_option maxRecDepth 100000
set_option maxHeartbeats 1000000
/-! From the text to the small language. -/
namespace Ip
open PySem PySem.Spec PyProof.Rows L2

/-- where an expression stands -/
structure CC where
  N : List Str
  sc : Scope
  fnx : Str → Bool
  tab : List (Str × List Str)
  cs : List (Str × D)
  fr : List Str
  mu : List Nat

def opI : Operator → Option Op
  | .Add => some .add | .Sub => some .sub | .Mult => some .mul | .FloorDiv => some .fdiv | .Mod => some .mod | .Pow => some .pow | .LShift => some .shl | .RShift => some .shr | .BitAnd => some .band | .BitOr => some .bor
  | _ => none
theorem opI_ok {o : Operator} {p : Op} (h : opI o = some p) : o = opOf p := by cases o <;> simp [opI] at h <;> subst h <;> rfl
def cmI : CmpOp → Cm
  | .Eq => .eq | .NotEq => .ne | .Lt => .lt | .LtE => .le | .Gt => .gt | .GtE => .ge | .Is => .isn | .IsNot => .notn | .In => .mem | .NotIn => .nmem
theorem cmI_ok (o : CmpOp) : cmOf (cmI o) = o := by cases o <;> rfl

/-- no star, no slice, no set .. -/
def pl : Expr → Bool
  | .BoolOp .. => true | .BinOp .. => true | .UnaryOp .. => true | .IfExp .. => true | .Compare .. => true | .Call .. => true | .Constant .. => true
  | .Subscript .. => true | .Name .. => true | .List .. => true | .Tuple .. => true | .ListComp .. => true | .Dict .. => true
  | _ => false
/-- .. whose truth is its value's -/
def pt : Expr → Bool
  | .BinOp .. => true | .UnaryOp .USub _ _ => true | .Call .. => true | .Constant .. => true
  | .Subscript .. => true | .Name .. => true | .List .. => true | .Tuple .. => true | .ListComp .. => true | .Dict .. => true
  | _ => false
/-- .. that a method is taken from -/
def pr : Expr → Bool
  | .Subscript .. => true | .Name .. => true | .List .. => true | .ListComp .. => true
  | .Call _ (_ :: _) _ _ => true
  | _ => false
section
variable {env : Env} {e : Expr} {es : List Expr}
theorem pl_star (h : pl e = true) (es : List Expr) : starEach (e :: es) env = (false, eval e env) :: starEach es env := by cases e <;> first | rfl | (simp [pl] at h)
theorem pl_all : ∀ {es : List Expr}, es.all pl = true → starEach es env = es.map fun e => (false, eval e env)
  | [], _ => rfl
  | e :: es, h => by
    simp only [List.all_cons, Bool.and_eq_true] at h
    rw [pl_star h.1, pl_all h.2]; rfl
theorem pl_plain (pos : Pos) (h : es.all pl = true) : (backTo pos (starEach es env)).any (·.1) = false := by
  rw [pl_all h]; simp [backTo]
theorem pl_few (pos : Pos) (h : es.all pl = true) (hl : es.length < 28) : ((backTo pos (starEach es env)).all (fun x => !x.1) && (backToKw pos (keywordEach [] env)).all (fun x => x.1.isSome) && decide (es.length + ([] : List Keyword).length + (if ([] : List Keyword).isEmpty then 0 else 1) < 30)) = true := by
  rw [pl_all h]
  simp [backTo, backToKw, keywordEach]
  omega
theorem pl_ix (h : pl e = true) : PlainIx e := by cases e <;> first | (intro _ _; rfl) | (simp [pl] at h)
theorem pl_mark (o : CmpOp) (h : pl e = true) : behindInMarks o e = false := by cases e <;> first | rfl | (simp [pl] at h)
theorem pl_set (h : pl e = true) : ∀ x, foldedSetIterable e env x = pure x := by cases e <;> first | (intro _; rfl) | (simp [pl] at h)
theorem pl_asg {o : Expr} {p : Pos} (h : pl e = true) : ∀ v, assign (.Subscript o e p) env v = (do
      let ov ← holding [v] (eval o env)
      let iv ← holding [v, ov] (eval e env)
      standAt p
      holding [v, ov, iv] (setItem ov iv v)
      release [v, ov, iv] []) := by cases e <;> first | (intro _; rfl) | (simp [pl] at h)
theorem pt_true (h : pt e = true) : ∀ whole, isTrue e env whole = (do let v ← whole; standAt e.pos; holding [v] (PySem.truthy v)) := by
  cases e <;> first | (intro _; rfl) | (simp [pt] at h; done) | skip
  case UnaryOp op _ _ => cases op <;> first | (intro _; rfl) | (simp [pt] at h)
theorem pr_base {m : Str} (h : pr e = true) : attributeBase e m env (eval e env) = eval e env := by
  cases e <;> first | rfl | (simp [pr] at h; done) | skip
  case Call f as ks p => cases as <;> first | (simp [pr] at h; done) | (cases f <;> rfl)
theorem kw_all : ∀ {ks : List Keyword} (pos : Pos), ks.all (fun k => k.arg.isSome) = true → (backToKw pos (keywordEach ks env)).all (·.1.isSome) = true ∧ (backToKw pos (keywordEach ks env)).filterMap (·.1) = ks.filterMap (·.arg) ∧ (backToKw pos (keywordEach ks env)).any (·.1.isNone) = false
  | [], _, _ => ⟨rfl, rfl, rfl⟩
  | ⟨a, v, p⟩ :: ks, pos, h => by
    simp only [List.all_cons, Bool.and_eq_true] at h
    obtain ⟨h1, h2, h3⟩ := kw_all pos h.2
    cases a with
    | none => simp at h
    | some x =>
      simp only [backToKw, keywordEach, List.map_cons, List.all_cons, List.filterMap_cons, List.any_cons] at h1 h2 h3 ⊢
      refine ⟨by simpa using h1, by simpa using h2, by simpa using h3⟩
end

def eqS (a b : Str) : Bool := decide (a = b)
/-- a name that is nothing special -/
def okN (x : Str) : Bool := !(x == ("__debug__" : Str)) && (!(x == ("__classdict__" : Str)) && decide (x ≠ "__name__"))
def visB (C : CC) (x : Str) : Bool := match C.sc.names.lookup x with
  | some .local => true | some .cell => true | some .free => true
  | _ => false
def locB (C : CC) (x : Str) : Bool := (match C.sc.names.lookup x with
  | some .local => true | some .cell => true
  | _ => false) && (C.fnx x || decide (C.sc.names.lookup x = some .local))
def gloB (C : CC) (x : Str) : Bool := decide (C.sc.names.lookup x = some .globalImplicit)
/-- the slot of a name -/
def slot (C : CC) (x : Str) : Option Nat := (C.N.findIdx? fun y => decide (y = x)).bind fun i => if decide (C.N[i]? = some x) && okN x then some i else none
def varI (C : CC) (x : Str) : Option Nat := if visB C x then slot C x else none
/-- a name that holds a list of own places (told: its slot and 7000 more) -/
def rowI (C : CC) : Expr → Option Nat
  | .Name x _ => (varI C x).bind fun i => if C.mu.contains (i + 7000) then some i else none
  | _ => none
/-- a def stands in the table twice at times: who asks for the second one is told so (its index and 5000 more) -/
def defI (C : CC) (x : Str) : Option Nat := if gloB C x && okN x then (match C.mu.find? (fun h => decide (5000 ≤ h) && decide ((C.tab[h - 5000]?).map (·.1) = some x)) with
  | some h => some (h - 5000)
  | none => C.tab.findIdx? fun y => decide (y.1 = x)) else none
/-- a built-in that the module does not hide -/
def bltB (C : CC) (x : Str) : Bool := gloB C x && (okN x && C.fr.any fun y => decide (y = x))
def tyI (C : CC) (x : Str) : Option Ty := if bltB C x then ([("int", .int), ("bool", .bool), ("str", .str), ("tuple", .tuple), ("list", .list), ("dict", .dict)] : List (Str × Ty)).lookup x else none
def btI (C : CC) (x : Str) : Option Bt := if bltB C x then ([("len", .len), ("int", .int), ("abs", .abs), ("min", .min), ("max", .max), ("sum", .sum), ("any", .any), ("all", .all), ("sorted", .sorted), ("tuple", .tuple), ("list", .list), ("divmod", .divmod), ("dict", .dict)] : List (Str × Bt)).lookup x else none
theorem ty_boot : ∀ p ∈ ([("int", .int), ("bool", .bool), ("str", .str), ("tuple", .tuple), ("list", .list), ("dict", .dict)] : List (Str × Ty)), bootBuiltins p.1 = some (.type (tyName p.2)) := by decide +kernel
theorem bt_boot : ∀ p ∈ ([("len", .len), ("int", .int), ("abs", .abs), ("min", .min), ("max", .max), ("sum", .sum), ("any", .any), ("all", .all), ("sorted", .sorted), ("tuple", .tuple), ("list", .list), ("divmod", .divmod), ("dict", .dict)] : List (Str × Bt)), bootBuiltins p.1 = some (fOf p.2) := by decide +kernel
def mtI (x : Str) : Option Mt := ([("index", .index), ("count", .count)] : List (Str × Mt)).lookup x
def mmI (x : Str) : Option Mm := ([("append", .append), ("pop", .pop), ("extend", .extend)] : List (Str × Mm)).lookup x

section
variable (rec : CC → Expr → Option IE)
def cEs (C : CC) : List Expr → Option IEs
  | [] => some .nil
  | e :: es => if pl e then (rec C e).bind fun i => (cEs C es).bind fun is => some (.cons i is) else none
def isSt : Expr → Bool
  | .Starred .. => true
  | _ => false
def cLS (C : CC) : List Expr → Option (IEs × List Bool)
  | [] => some (.nil, [])
  | .Starred e _ :: es => (rec C e).bind fun i => (cLS C es).bind fun p => some (.cons i p.1, true :: p.2)
  | e :: es => if pl e then (rec C e).bind fun i => (cLS C es).bind fun p => some (.cons i p.1, false :: p.2) else none
def cKs (C : CC) : List Keyword → Option IEs
  | [] => some .nil
  | ⟨_, e, _⟩ :: es => if pl e then (rec C e).bind fun i => (cKs C es).bind fun is => some (.cons i is) else none
def cB (C : CC) (op : BoolOp) : List Expr → Option IE
  | [] => none
  | [e] => rec C e
  | e :: f :: es => (rec C e).bind fun i => (cB C op (f :: es)).bind fun j => some (match op with | .And => .and_ i j | .Or => .or_ i j)
def cTy (C : CC) : List Expr → Option (List Ty)
  | [] => some []
  | .Name x _ :: es => (tyI C x).bind fun t => (cTy C es).bind fun ts => some (t :: ts)
  | _ => none
/-- what is walked; tg: the target -/
def cI (C : CC) (tg : Expr) (e : Expr) : Option It := if pl e then (match e with
  | .Call (.Name x _) args [] _ => if eqS x "range" && bltB C x then (match args with
      | [_] => (cEs rec C args).bind fun is => some (.rng is)
      | [_, _] => (cEs rec C args).bind fun is => some (.rng is)
      | _ => none)
    else if eqS x "enumerate" && bltB C x then (match tg, args with
      | .Tuple .., [a] => if pl a then (rec C a).bind fun i => some (.enum i) else none
      | _, _ => none)
    else if eqS x "zip" && bltB C x then (match tg, args with
      | .Tuple .., [a, b] => if pl a && pl b then (rec C a).bind fun i => (rec C b).bind fun j => some (.zip i j) else none
      | _, _ => none)
    else (rec C e).bind fun i => some (.ex i)
  | _ => (rec C e).bind fun i => some (.ex i)) else none
def cT (C : CC) : Nat → Expr → Option Tg
  | _, .Name x _ => if locB C x then (slot C x).bind fun i => some (.nm i) else none
  | n + 1, .Tuple es _ _ => (es.foldr (fun e r => (cT C n e).bind fun t => r.bind fun ts => some (.cons t ts)) (some .nil)).bind fun ts => some (.tup ts)
  | _, _ => none
/-- the context of a block -/
def blkC (C : CC) (scope : Scope) : CC := { C with sc := relS scope C.sc, fnx := fun x => scope.names.lookup x == some .cell }
def ownI (C : CC) (scope : Scope) : List (Str × Nat) := scope.names.filterMap fun (x, k) => if k == .local || k == .cell then (C.N.findIdx? fun y => decide (y = x)).bind fun i => some (x, i) else none
def cC (C : CC) (elt : Expr) (gens : List Comprehension) (scope : Scope) : Option IE :=
  if L2.blkC C.N C.sc scope (ownI C scope) then (match gens with
    | [⟨tg, iter, ifs, 0⟩] => (cI rec C tg iter).bind fun it => (cT (blkC C scope) 4 tg).bind fun t => (cEs rec (blkC C scope) ifs).bind fun is => (rec (blkC C scope) elt).bind fun e =>
      if (tgn t).all (fun j => ((ownI C scope).map (·.2)).contains j) && decide (ifs.length ≤ 1) then some (.comp e ((ownI C scope).map (·.2)) (.cons t it is .nil)) else none
    | [⟨tg, iter, ifs, 0⟩, ⟨tg1, iter1, ifs1, 0⟩] => (cI rec C tg iter).bind fun it => (cT (blkC C scope) 4 tg).bind fun t => (cEs rec (blkC C scope) ifs).bind fun is => (rec (blkC C scope) elt).bind fun e =>
      (cI rec (blkC C scope) tg1 iter1).bind fun it1 => (cT (blkC C scope) 4 tg1).bind fun t1 => (cEs rec (blkC C scope) ifs1).bind fun is1 =>
      if (tgn t).all (fun j => ((ownI C scope).map (·.2)).contains j) && ((tgn t1).all (fun j => ((ownI C scope).map (·.2)).contains j) && (decide (ifs.length ≤ 1) && decide (ifs1.length ≤ 1))) then some (.comp e ((ownI C scope).map (·.2)) (.cons t it is (.cons t1 it1 is1 .nil))) else none
    | _ => none) else none
/-- a list of new containers -/
def cCr (C : CC) (elt : Expr) (gens : List Comprehension) (scope : Scope) : Option IE :=
  if L2.blkC C.N C.sc scope (ownI C scope) then (match gens with
    | [⟨tg, iter, [], 0⟩] => (cI rec C tg iter).bind fun it => (cT (blkC C scope) 4 tg).bind fun t => (rec (blkC C scope) elt).bind fun e =>
      if (tgn t).all (fun j => ((ownI C scope).map (·.2)).contains j) then some (.compr e ((ownI C scope).map (·.2)) t it) else none
    | _ => none) else none
/-- over a dict that a name holds (told: its slot and 1000 more) -/
def cD (C : CC) (elt : Expr) (gens : List Comprehension) (scope : Scope) : Option IE :=
  if L2.blkC C.N C.sc scope (ownI C scope) then (match gens with
    | [⟨tg, .Name d _, ifs, 0⟩] => (varI C d).bind fun j => if C.mu.contains (j + 1000) then (cT (blkC C scope) 4 tg).bind fun t => (cEs rec (blkC C scope) ifs).bind fun is => (rec (blkC C scope) elt).bind fun e =>
      if (tgn t).all (fun j => ((ownI C scope).map (·.2)).contains j) && decide (ifs.length ≤ 1) then some (.compd j e ((ownI C scope).map (·.2)) t is) else none else none
    | _ => none) else none
/-- {k: v for ..} -/
def cDc (C : CC) (t : Bool) (kx vx : Expr) (gens : List Comprehension) (scope : Scope) : Option IE :=
  if L2.blkC C.N C.sc scope (ownI C scope) then (match gens with
    | [⟨tg, iter, ifs, 0⟩] => (cI rec C tg iter).bind fun it => (cT (blkC C scope) 4 tg).bind fun g => (cEs rec (blkC C scope) ifs).bind fun is => (rec (blkC C scope) kx).bind fun k => (rec (blkC C scope) vx).bind fun v =>
      if (tgn g).all (fun j => ((ownI C scope).map (·.2)).contains j) && decide (ifs.length ≤ 1) then some (.dcomp t k v ((ownI C scope).map (·.2)) (.cons g it is .nil)) else none
    | _ => none) else none
/-- by parameters: where each value is written -/
def permI (ps : List Str) (np : Nat) (ks : List Str) : List Nat := ps.filterMap fun p => (ps.take np ++ ks).findIdx? fun y => decide (y = p)
def cP (C : CC) : Option Expr → Option IEs
  | none => some .nil
  | some e => if pl e then (rec C e).bind fun i => some (.cons i .nil) else none
def cCall (C : CC) (x : Str) (args : List Expr) (kws : List Keyword) : Option IE := match defI C x with
  | some k => (C.tab[k]?).bind fun d => if decide (d.1 = x) then (cEs rec C args).bind fun is => (match kws with
      | [] => if decide (args.length = d.2.length) then some (.call k [] is) else none
      | _ => (cKs rec C kws).bind fun js => if kws.all (fun k => k.arg.isSome) && permOk d.2 args.length (kws.filterMap (·.arg)) (permI d.2 args.length (kws.filterMap (·.arg)))
          then some (.call k (permI d.2 args.length (kws.filterMap (·.arg))) (app is js)) else none) else none
  | none => (match kws with
    | [] => (match varI C x with
      | some i => (match args with
        | [] => none
        | _ => (cEs rec C args).bind fun is => some (.callv i is))
      | none => if bltB C x then (if eqS x "isinstance" then (match args with
            | [a, .Name t _] => if pl a then (rec C a).bind fun i => (tyI C t).bind fun ty => some (.isi i [ty]) else none
            | [a, .Tuple ts _ _] => if pl a && decide (ts.length ≤ 100) then (rec C a).bind fun i => (cTy C ts).bind fun tys => some (.isi i tys) else none
            | _ => none)
          else if eqS x "list" || eqS x "tuple" then (match args with
            | [.Call (.Name r _) ras [] _] => if eqS r "range" && bltB C r then (match ras with
                | [_] => (cEs rec C ras).bind fun is => some (if eqS x "list" then .lof (.rng is) else .tof (.rng is))
                | [_, _] => (cEs rec C ras).bind fun is => some (if eqS x "list" then .lof (.rng is) else .tof (.rng is))
                | _ => none)
              else (btI C x).bind fun b => (cEs rec C args).bind fun is => some (.blt b is)
            | [_] => (btI C x).bind fun b => (cEs rec C args).bind fun is => some (.blt b is)
            | _ => none)
          else (match args with
            | [] => none
            | _ => (btI C x).bind fun b => (cEs rec C args).bind fun is => some (.blt b is))) else none)
    | _ => none)
def cM (C : CC) (o : Expr) (m : Str) (args : List Expr) (same : Bool) : Option IE := if same && (pr o && decide (args.length < 28)) then (match mtI m with
  | some mt => (match args with
    | [] => none
    | _ => (rec C o).bind fun i => (cEs rec C args).bind fun is => some (.mth mt i is))
  | none => (mmI m).bind fun mm => (match o with
    | .Name x _ => (varI C x).bind fun i => (cEs rec C args).bind fun is => some (.mut mm i is)
    | o => (match args with
      | [] => none
      | _ => (rec C o).bind fun i => (cEs rec C args).bind fun is => some (.muto mm i is)))) else none
/-- a.startswith(b) -/
def cW (C : CC) (o : Expr) (m : Str) (args : List Expr) (same : Bool) : Option IE := if same && (pr o && eqS m "startswith") then (match args with
  | [a] => if pl a then (rec C o).bind fun i => (rec C a).bind fun j => some (.stw i j) else none
  | _ => none) else none
/-- {text: text, ..} -/
def cDs : List (Option Expr) → List Expr → Option (List (Str × Str))
  | [], [] => some []
  | some (.Constant (.str a) _ _) :: ks, .Constant (.str b) _ _ :: vs => (cDs ks vs).bind fun ps => some ((a, b) :: ps)
  | _, _ => none
/-- sorted(set(a)), len(set(a)) -/
def cSS (C : CC) (x : Str) : List Expr → List Keyword → Option IE
  | [.Call (.Name y _) [a] [] _], [] => if eqS y "set" && (bltB C y && (bltB C x && pl a)) then (if eqS x "sorted" then (rec C a).bind fun i => some (.sset false i) else if eqS x "len" then (rec C a).bind fun i => some (.sset true i) else none) else none
  | _, _ => none
def stepE (C : CC) : Expr → Option IE
  | .Name x _ => (match varI C x with
    | some i => some (.var i)
    | none => (match defI C x with
      | some k => (C.tab[k]?).bind fun d => if decide (d.1 = x) then some (.fn k) else none
      | none => if gloB C x && okN x then (C.cs.lookup x).bind fun d => some (.cst d) else none))
  | .Constant c _ _ => (match c with
    | .none => some (.cst .none) | .bool b => some (.cst (.bool b)) | .int i => some (.cst (.int i)) | .str s => some (.cst (.str s))
    | _ => none)
  | .BinOp a o b _ => (opI o).bind fun p => (rec C a).bind fun i => (rec C b).bind fun j => some (.bin p i j)
  | .UnaryOp .USub a _ => (rec C a).bind fun i => some (.neg i)
  | .UnaryOp .Not a _ => (rec C a).bind fun i => some (.not_ i)
  | .BoolOp op es _ => cB rec C op es
  | .IfExp t a b _ => (rec C t).bind fun k => (rec C a).bind fun i => (rec C b).bind fun j => some (.ife k i j)
  | .Compare a [o] [b] _ => if pl b then (rec C a).bind fun i => (rec C b).bind fun j => some (.cmp (cmI o) i j) else none
  | .Compare a [o, o2] [b, c] _ => if pl b && pl c then (rec C a).bind fun i => (rec C b).bind fun j => (rec C c).bind fun k => some (.chain (cmI o) (cmI o2) i j k) else none
  | .Compare a [o, o2, o3] [b, c, d] _ => if pl b && (pl c && pl d) then (rec C a).bind fun i => (rec C b).bind fun j => (rec C c).bind fun k => (rec C d).bind fun l => some (.chain3 (cmI o) (cmI o2) (cmI o3) i j k l) else none
  | .Call (.Name x _) args kws _ => (match cSS rec C x args kws with
    | some i => some i
    | none => cCall rec C x args kws)
  | .Call (.Attribute o m apos) args [] cpos => (match cM rec C o m args (apos.endLine == cpos.line) with
    | some i => some i
    | none => cW rec C o m args (apos.endLine == cpos.line))
  | .Dict [] [] _ => some (.dnew false)
  | .Dict [some (.Constant (.str s) _ _)] [.Constant (.int i) _ _] _ => some (.dcst s i)
  | .Dict ks vs _ => (cDs ks vs).bind fun ps => some (.dsp ps)
  | .Tuple es _ _ => if es.any isSt then (cLS rec C es).bind fun p => some (.tups p.2 p.1) else (cEs rec C es).bind fun is => some (.tup is)
  | .List es _ => if es.any isSt then (cLS rec C es).bind fun p => some (.lsts p.2 p.1) else (cEs rec C es).bind fun is => some (.lst is)
  | .Subscript a (.Slice none none (some (.UnaryOp .USub (.Constant (.int 1) _ _) _)) _) _ => (rec C a).bind fun i => some (.rev i)
  | .Subscript a (.Slice lo hi none _) _ => (rec C a).bind fun i => (cP rec C lo).bind fun l => (cP rec C hi).bind fun h => some (.slc i l h)
  | .Subscript a b _ => if pl b then (match rowI C a with
    | some i => (rec C b).bind fun j => some (.rsub i j)
    | none => (rec C a).bind fun i => (rec C b).bind fun j => some (.sub i j)) else none
  | .ListComp elt gens scope _ => (match cD rec C elt gens scope with
    | some i => some i
    | none => cC rec C elt gens scope)
  | _ => none
end
def cE : Nat → CC → Expr → Option IE
  | 0, _, _ => none
  | n + 1, C, e => stepE (cE n) C e
end Ip

set_option Elab.async false
set_option linter.all false
set_option maxRecDepth 100000
set_option maxHeartbeats 1000000
/-! .. and it is so: expressions. -/
namespace Ip
open PySem PySem.Spec PyProof.Rows L2

structure Cxt (X : Cx) (fa : Nat → Addr) (cf : Cf) (n : Nat) (C : CC) : Prop where
  hN : X.N = C.N
  nd : C.N.Nodup
  sc : X.env.scope = C.sc
  fn : ∀ x, C.fnx x = true → X.fn x = true
  calm : X.calm = true
  room : Room n X.A
  tab : ∀ (k : Nat) (d : Str × List Str), C.tab[k]? = some d → X.mg d.1 = some (.ref (fa k)) ∧ Cal X fa cf n k d.2
  hcf : ∀ k rs S r S', cf k rs S = some (r, S') → ∃ d, C.tab[k]? = some d ∧ rs.length = d.2.length
  cs : ∀ (x : Str) (d : D), C.cs.lookup x = some d → ∃ u v, X.mg x = some u ∧ L2.RelV v u ∧ ∀ H M, Pu X.K H M v d
  fr : ∀ x, (C.fr.any fun y => decide (y = x)) = true → X.mg x = none

section
variable {X : Cx} {fa : Nat → Addr} {cf : Cf} {n : Nat} {C : CC} {x : Str}
theorem Cxt.units (h : Cxt X fa cf n C) : X.A.units + 65 < cLine := by have := h.room.un; omega
theorem Cxt.gl (h : Cxt X fa cf n C) (g : gloB C x = true) : Gl X x := by
  show X.env.scope.names.lookup x = _
  rw [h.sc]; exact of_decide_eq_true g
theorem okN_dbg (h : okN x = true) : (x == ("__debug__" : Str)) = false := by simp only [okN, Bool.and_eq_true, Bool.not_eq_true'] at h; exact h.1
theorem okN_cd (h : okN x = true) : (x == ("__classdict__" : Str)) = false := by simp only [okN, Bool.and_eq_true, Bool.not_eq_true'] at h; exact h.2.1
theorem okN_nm (h : okN x = true) : x ≠ "__name__" := by simp only [okN, Bool.and_eq_true, decide_eq_true_eq] at h; exact h.2.2
theorem slot_ok {i : Nat} (h : slot C x = some i) : C.N[i]? = some x ∧ okN x = true := by
  simp only [slot, Option.bind_eq_some_iff] at h
  obtain ⟨j, _, h⟩ := h
  split at h
  · rename_i c; cases h
    rw [Bool.and_eq_true, decide_eq_true_eq] at c
    exact c
  · cases h
theorem Cxt.vis (h : Cxt X fa cf n C) (v : visB C x = true) : Vis X.env.scope x := by
  unfold visB at v
  show _ ∨ _ ∨ _
  rw [h.sc]
  split at v
  · exact .inl (by assumption)
  · exact .inr (.inl (by assumption))
  · exact .inr (.inr (by assumption))
  · cases v
theorem Cxt.loc (h : Cxt X fa cf n C) (v : locB C x = true) : Loc X.env.scope x ∧ (X.fn x = true ∨ X.env.scope.names.lookup x = some .local) := by
  simp only [locB, Bool.and_eq_true, Bool.or_eq_true, decide_eq_true_eq] at v
  obtain ⟨v1, v2⟩ := v
  refine ⟨?_, v2.elim (fun z => .inl (h.fn x z)) fun z => .inr (by rw [h.sc]; exact z)⟩
  show _ ∨ _
  rw [h.sc]
  split at v1
  · exact .inl (by assumption)
  · exact .inr (by assumption)
  · cases v1
theorem Cxt.var (h : Cxt X fa cf n C) {i : Nat} {p : Pos} (v : varI C x = some i) : PE X (.Name x p) (tVar i) ∧ X.N[i]? = some x ∧ Vis X.env.scope x ∧ okN x = true := by
  unfold varI at v
  split at v
  · obtain ⟨h1, h2⟩ := slot_ok v
    rw [← h.hN] at h1
    have h3 := h.vis (by assumption)
    exact ⟨pe_var h1 h3 (okN_dbg h2) (okN_cd h2), h1, h3, h2⟩
  · cases v
theorem defI_ok {k : Nat} (h : defI C x = some k) : gloB C x = true ∧ okN x = true := by
  unfold defI at h
  split at h
  · rename_i c; rw [Bool.and_eq_true] at c; exact c
  · cases h
theorem Cxt.blt (h : Cxt X fa cf n C) (b : bltB C x = true) : Gl X x ∧ X.mg x = none ∧ okN x = true := by
  simp only [bltB, Bool.and_eq_true] at b
  exact ⟨h.gl b.1, h.fr x b.2.2, b.2.1⟩
theorem Cxt.btI (h : Cxt X fa cf n C) {b : Bt} (e : btI C x = some b) : Gl X x ∧ X.mg x = none ∧ okN x = true ∧ bootBuiltins x = some (fOf b) := by
  unfold Ip.btI at e
  split at e
  · obtain ⟨h1, h2, h3⟩ := h.blt (by assumption)
    exact ⟨h1, h2, h3, bt_boot _ (PySem.mem_of_lookup e)⟩
  · cases e
theorem Cxt.tyI (h : Cxt X fa cf n C) {t : Ty} {p : Pos} (e : tyI C x = some t) : PE X (.Name x p) (tC (.ty (tyName t))) := by
  unfold Ip.tyI at e
  split at e
  · obtain ⟨h1, h2, h3⟩ := h.blt (by assumption)
    exact pe_bltn h1 h2 (ty_boot _ (PySem.mem_of_lookup e)) rfl (okN_nm h3) (okN_dbg h3)
  · cases e
theorem Cxt.blk (h : Cxt X fa cf n C) (scope : Scope) (s : Shared) (H : Hp) (Ca : Addr) (cl : List (Str × Addr)) (fp : List Addr) : Cxt (X.blk s H scope (compEnvC scope cl Ca X.env) fp) fa cf n (blkC C scope) where
  hN := h.hN
  nd := h.nd
  sc := by
    show relabel scope X.env = relS scope C.sc
    rw [← h.sc]; rfl
  fn := fun x z => z
  calm := h.calm
  room := h.room
  tab := fun k d e => let ⟨h1, h2⟩ := h.tab k d e; ⟨h1, h2.ex, h2.kp, h2.nd⟩
  hcf := h.hcf
  cs := h.cs
  fr := h.fr
/-- a built-in, called -/
theorem pe_fOf {b : Bt} {a : Expr} {es : List Expr} {p pos : Pos} {t : TA} (hru : X.A.units + 67 < cLine) (hc : X.calm = true) (hg : Gl X x) (hm : X.mg x = none) (hv : bootBuiltins x = some (fOf b)) (ha : PA X (a :: es) t) (hn : x ≠ "__name__") (hdb : (x == ("__debug__" : Str)) = false)
    (he : starEach (a :: es) X.env = (false, eval a X.env) :: starEach es X.env) (hpl : (backTo pos (starEach es X.env)).any (·.1) = false) : PE X (.Call (.Name x p) (a :: es) [] pos) (tCB (rBlt X.K b) t) := by
  have hc := blt_all hru hc b
  cases b <;> first | exact pe_callB hc hg hm hv ha hn hdb he hpl | exact pe_callTy hc hg hm hv ha hn hdb he hpl

/-! ### parts -/
variable (fa cf n) in
/-- an expression does what its reading does -/
def Sd (C : CC) (e : Expr) (i : IE) : Prop := ∀ X, Cxt X fa cf n C → E X fa cf e i ∧ T X fa cf e i
variable (fa cf n) in
def SdR (rec : CC → Expr → Option IE) : Prop := ∀ C e i, rec C e = some i → Sd fa cf n C e i
variable {rec : CC → Expr → Option IE}
theorem cEs_ok (hr : SdR fa cf n rec) (h : Cxt X fa cf n C) : ∀ {es : List Expr} {is : IEs}, cEs rec C es = some is → L X fa cf es is ∧ es.all pl = true ∧ len is = es.length
  | [], is, e => by cases e; exact ⟨sl_nil, rfl, rfl⟩
  | a :: es, is, e => by
    simp only [cEs] at e
    split at e
    · rename_i hp
      simp only [Option.bind_eq_some_iff] at e
      obtain ⟨i, e1, js, e2, e3⟩ := e
      cases e3
      obtain ⟨h1, h2, h3⟩ := cEs_ok hr h e2
      exact ⟨sl_cons (hr _ _ _ e1 X h).1 h1 (pl_star hp _), by simp [hp, h2], by simp [len, h3]⟩
    · cases e
theorem cLS_ok (hr : SdR fa cf n rec) (h : Cxt X fa cf n C) : ∀ {es : List Expr} {p : IEs × List Bool}, cLS rec C es = some p → LS X fa cf es p.1 p.2
  | [], p, e => by cases e; exact sls_nil
  | a :: es, p, e => by
    by_cases hs : ∃ x q, a = .Starred x q
    · obtain ⟨x, q, rfl⟩ := hs
      simp only [cLS, Option.bind_eq_some_iff] at e
      obtain ⟨i, e1, p', e2, e3⟩ := e
      cases e3
      exact sls_star (hr _ _ _ e1 X h).1 (cLS_ok hr h e2) rfl
    · have e' : (if pl a then (rec C a).bind fun i => (cLS rec C es).bind fun p => some (IEs.cons i p.1, false :: p.2) else none) = some p := by
        cases a <;> first | exact e | exact absurd ⟨_, _, rfl⟩ hs
      split at e'
      · rename_i hp
        simp only [Option.bind_eq_some_iff] at e'
        obtain ⟨i, e1, p', e2, e3⟩ := e'
        cases e3
        exact sls_cons (hr _ _ _ e1 X h).1 (cLS_ok hr h e2) (pl_star hp _)
      · cases e'
theorem cKs_ok (hr : SdR fa cf n rec) (h : Cxt X fa cf n C) : ∀ {es : List Keyword} {is : IEs}, cKs rec C es = some is → KL X fa cf es is ∧ len is = es.length
  | [], is, e => by cases e; exact ⟨sk_nil, rfl⟩
  | ⟨_, a, _⟩ :: es, is, e => by
    simp only [cKs] at e
    split at e
    · simp only [Option.bind_eq_some_iff] at e
      obtain ⟨i, e1, js, e2, e3⟩ := e
      cases e3
      obtain ⟨h1, h2⟩ := cKs_ok hr h e2
      exact ⟨sk_cons (hr _ _ _ e1 X h).1 h1, by simp [len, h2]⟩
    · cases e
theorem cB_ok (hr : SdR fa cf n rec) (h : Cxt X fa cf n C) {op : BoolOp} {pos : Pos} : ∀ {es : List Expr} {i : IE}, cB rec C op es = some i → E X fa cf (.BoolOp op es pos) i ∧ W X fa cf (.BoolOp op es pos) i
  | [], i, e => by cases e
  | [a], i, e => by
    obtain ⟨h1, h2⟩ := hr _ _ _ (show rec C a = some i from e) X h
    refine ⟨pe_one h1, ?_⟩
    cases op with
    | And => exact pw_and1 h2
    | Or => exact pw_or1 h2
  | a :: b :: es, i, e => by
    simp only [cB, Option.bind_eq_some_iff] at e
    obtain ⟨j, e1, k, e2, e3⟩ := e
    obtain ⟨h1, h2⟩ := hr _ _ _ e1 X h
    obtain ⟨h3, h4⟩ := cB_ok hr h e2
    cases op with
    | And => cases e3; exact ⟨se_and h1 h3, sw_and h2 h4⟩
    | Or => cases e3; exact ⟨se_or h1 h3, sw_or h2 h4⟩
theorem cTy_ok (h : Cxt X fa cf n C) : ∀ {es : List Expr} {ts : List Ty}, cTy C es = some ts → PA X es (tCs (ts.map fun t => V.ty (tyName t))) ∧ ts.length = es.length
  | [], ts, e => by cases e; exact ⟨pa_cs_nil, rfl⟩
  | .Name x p :: es, ts, e => by
    simp only [cTy, Option.bind_eq_some_iff] at e
    obtain ⟨t, e1, us, e2, e3⟩ := e
    cases e3
    obtain ⟨h1, h2⟩ := cTy_ok h e2
    exact ⟨pa_cs_cons (h.tyI e1) h1 rfl, by simp [h2]⟩
  | .BoolOp .. :: _, _, e | .NamedExpr .. :: _, _, e | .BinOp .. :: _, _, e | .UnaryOp .. :: _, _, e | .Lambda .. :: _, _, e | .IfExp .. :: _, _, e | .Dict .. :: _, _, e | .Set .. :: _, _, e | .ListComp .. :: _, _, e | .SetComp .. :: _, _, e
  | .DictComp .. :: _, _, e | .GeneratorExp .. :: _, _, e | .Await .. :: _, _, e | .Yield .. :: _, _, e | .YieldFrom .. :: _, _, e | .Compare .. :: _, _, e | .Call .. :: _, _, e | .FormattedValue .. :: _, _, e | .JoinedStr .. :: _, _, e
  | .Constant .. :: _, _, e | .Attribute .. :: _, _, e | .Subscript .. :: _, _, e | .Starred .. :: _, _, e | .List .. :: _, _, e | .Tuple .. :: _, _, e | .Slice .. :: _, _, e => by simp [cTy] at e
theorem ts_ok (hr : SdR fa cf n rec) (h : Cxt X fa cf n C) {es : List Expr} {is : IEs} (e : cEs rec C es = some is) (hl : es.length ≤ 1) : Ts X fa cf es is := by
  match es, e, hl with
  | [], e, _ => cases e; exact sts_nil
  | [a], e, _ =>
    simp only [cEs] at e
    split at e
    · simp only [Option.bind_eq_some_iff] at e
      obtain ⟨i, e1, js, e2, e3⟩ := e
      cases e2; cases e3
      exact sts_one (hr _ _ _ e1 X h).2
    · cases e
theorem one_of {es : List Expr} {a : Expr} {is : IEs} (e : cEs rec C [a] = some is) : ∃ i, rec C a = some i ∧ is = .cons i .nil ∧ pl a = true := by
  simp only [cEs] at e
  split at e
  · rename_i hp
    simp only [Option.bind_eq_some_iff] at e
    obtain ⟨i, e1, js, e2, e3⟩ := e
    cases e2; cases e3
    exact ⟨i, e1, rfl, hp⟩
  · cases e
theorem two_of {a b : Expr} {is : IEs} (e : cEs rec C [a, b] = some is) : ∃ i j, rec C a = some i ∧ rec C b = some j ∧ is = .cons i (.cons j .nil) ∧ pl a = true ∧ pl b = true := by
  simp only [cEs] at e
  split at e
  · rename_i hp
    simp only [Option.bind_eq_some_iff] at e
    obtain ⟨i, e1, js, e2, e3⟩ := e
    split at e2
    · rename_i hp2
      simp only [Option.bind_eq_some_iff] at e2
      obtain ⟨j, e4, ks, e5, e6⟩ := e2
      cases e5; cases e6; cases e3
      exact ⟨i, j, e1, e4, rfl, hp, hp2⟩
    · cases e2
  · cases e
theorem cI_ex (hr : SdR fa cf n rec) (h : Cxt X fa cf n C) {tg e : Expr} {it : It} (hp : pl e = true) (c : ((rec C e).bind fun i => some (Ip.It.ex i)) = some it) : I X fa cf tg e it := by
  simp only [Option.bind_eq_some_iff] at c
  obtain ⟨i, e1, e2⟩ := c
  cases e2
  exact si_ex (hr _ _ _ e1 X h).1
theorem cI_ok (hr : SdR fa cf n rec) (h : Cxt X fa cf n C) {tg e : Expr} {it : It} (c : cI rec C tg e = some it) : I X fa cf tg e it ∧ ∀ env x, foldedSetIterable e env x = pure x := by
  unfold cI at c
  split at c
  · rename_i hp
    refine ⟨?_, fun env => pl_set hp⟩
    split at c
    · rename_i x p0 args pos
      split at c
      · rename_i hx
        rw [Bool.and_eq_true] at hx
        obtain ⟨g1, g2, g3⟩ := h.blt hx.2
        have ex : x = "range" := of_decide_eq_true hx.1
        subst ex
        split at c
        · simp only [Option.bind_eq_some_iff] at c
          obtain ⟨is, e1, e2⟩ := c
          cases e2
          obtain ⟨i, e3, rfl, hp⟩ := one_of (es := []) e1
          exact si_rng1 g1 g2 (cEs_ok hr h e1).1 (pl_star hp _)
        · simp only [Option.bind_eq_some_iff] at c
          obtain ⟨is, e1, e2⟩ := c
          cases e2
          obtain ⟨i, j, e3, e4, rfl, hp, hp2⟩ := two_of e1
          exact si_rng2 g1 g2 (cEs_ok hr h e1).1 (by rw [pl_star hp, pl_star hp2]; rfl) (pl_star hp2 _)
        · cases c
      · split at c
        · rename_i hx
          rw [Bool.and_eq_true] at hx
          obtain ⟨g1, g2, g3⟩ := h.blt hx.2
          have ex : x = "enumerate" := of_decide_eq_true hx.1
          subst ex
          split at c
          · split at c
            · rename_i hp
              simp only [Option.bind_eq_some_iff] at c
              obtain ⟨i, e1, e2⟩ := c
              cases e2
              exact si_enum g1 g2 (sl_cons (hr _ _ _ e1 X h).1 sl_nil (pl_star hp _)) (pl_star hp _)
            · cases c
          · cases c
        · split at c
          · rename_i hx
            rw [Bool.and_eq_true] at hx
            obtain ⟨g1, g2, g3⟩ := h.blt hx.2
            have ex : x = "zip" := of_decide_eq_true hx.1
            subst ex
            split at c
            · split at c
              · rename_i hp
                rw [Bool.and_eq_true] at hp
                simp only [Option.bind_eq_some_iff] at c
                obtain ⟨i, e1, j, e2, e3⟩ := c
                cases e3
                exact si_zip g1 g2 (sl_cons (hr _ _ _ e1 X h).1 (sl_cons (hr _ _ _ e2 X h).1 sl_nil (pl_star hp.2 _)) (pl_star hp.1 _)) (pl_star hp.1 _) (pl_plain _ (by simp [hp.2]))
              · cases c
            · cases c
          · exact cI_ex hr h hp c
    · exact cI_ex hr h hp c
  · cases c
theorem asg_each {env : Env} : ∀ {es : List Expr}, (∀ e ∈ es, ∀ r, assignEach (e :: r) env = (false, assign e env) :: assignEach r env) → assignEach es env = es.map fun e => (false, assign e env)
  | [], _ => rfl
  | e :: es, h => by rw [h e (List.mem_cons_self ..) es, asg_each fun x hx => h x (List.mem_cons_of_mem _ hx)]; rfl
theorem cT_plain {k : Nat} {e : Expr} {t : Tg} (c : cT C k e = some t) (env : Env) (r : List Expr) : assignEach (e :: r) env = (false, assign e env) :: assignEach r env := by
  cases k <;> cases e <;> first | rfl | (simp [cT] at c)
theorem cTs_ok {k : Nat} (ih : ∀ {e : Expr} {t : Tg}, cT C k e = some t → ∀ X, Cxt X fa cf n C → G X fa e t) (h : Cxt X fa cf n C) : ∀ {es : List Expr} {ts : Tgs}, (es.foldr (fun e r => (cT C k e).bind fun t => r.bind fun ts => some (Tgs.cons t ts)) (some .nil)) = some ts →
    Gz X fa es ts ∧ assignEach es X.env = (es.map fun e => (false, assign e X.env)) ∧ es.length = tgsl ts
  | [], ts, e => by cases e; exact ⟨sgs_nil, rfl, rfl⟩
  | a :: es, ts, e => by
    simp only [List.foldr_cons, Option.bind_eq_some_iff] at e
    obtain ⟨t, e1, us, e2, e3⟩ := e
    cases e3
    obtain ⟨h1, h2, h3⟩ := cTs_ok ih h e2
    refine ⟨sgs_cons (ih e1 X h) h1 ?_, ?_, by simp [tgsl, h3]⟩
    · rw [cT_plain e1]; rfl
    · rw [cT_plain e1, h2]; rfl
theorem cT_ok : ∀ {k : Nat} {e : Expr} {t : Tg}, cT C k e = some t → ∀ X, Cxt X fa cf n C → G X fa e t
  | k, .Name x p, t, c, X, h => by
    have c2 : (if locB C x then (slot C x).bind fun i => some (Tg.nm i) else none) = some t := by cases k <;> exact c
    split at c2
    · rename_i hl
      simp only [Option.bind_eq_some_iff] at c2
      obtain ⟨i, e1, e2⟩ := c2
      cases e2
      obtain ⟨h1, h2⟩ := slot_ok e1
      obtain ⟨h3, h4⟩ := h.loc hl
      exact sg_nm (by rw [h.hN]; exact h.nd) (by rw [h.hN]; exact h1) h3 h4
    · cases c2
  | 0, .Tuple .., t, c, X, h => by simp [cT] at c
  | k + 1, .Tuple es _ _, t, c, X, h => by
    simp only [cT, Option.bind_eq_some_iff] at c
    obtain ⟨ts, e1, e2⟩ := c
    cases e2
    obtain ⟨h1, h2, h3⟩ := cTs_ok (fun c => cT_ok c) h e1
    refine sg_tup h.calm h1 (by rw [h2, List.length_map, h3]) ?_
    rw [h2, List.findIdx?_eq_none_iff]
    intro x hx
    obtain ⟨e, _, rfl⟩ := List.mem_map.mp hx
    rfl
  | _, .BoolOp .., _, e, _, _ | _, .NamedExpr .., _, e, _, _ | _, .BinOp .., _, e, _, _ | _, .UnaryOp .., _, e, _, _ | _, .Lambda .., _, e, _, _ | _, .IfExp .., _, e, _, _ | _, .Dict .., _, e, _, _ | _, .Set .., _, e, _, _ | _, .ListComp .., _, e, _, _ | _, .SetComp .., _, e, _, _
  | _, .DictComp .., _, e, _, _ | _, .GeneratorExp .., _, e, _, _ | _, .Await .., _, e, _, _ | _, .Yield .., _, e, _, _ | _, .YieldFrom .., _, e, _, _ | _, .Compare .., _, e, _, _ | _, .Call .., _, e, _, _ | _, .FormattedValue .., _, e, _, _ | _, .JoinedStr .., _, e, _, _
  | _, .Constant .., _, e, _, _ | _, .Attribute .., _, e, _, _ | _, .Subscript .., _, e, _, _ | _, .Starred .., _, e, _, _ | _, .List .., _, e, _, _ | _, .Slice .., _, e, _, _ => by simp [cT] at e
end
end Ip

set_option Elab.async false
set_option linter.all false
set_option maxRecDepth 100000
set_option maxHeartbeats 1000000
/-! .. calls, comprehensions, the whole. -/
namespace Ip
open PySem PySem.Spec PyProof.Rows L2

section
variable {X : Cx} {fa : Nat → Addr} {cf : Cf} {n : Nat} {C : CC} {x : Str} {rec : CC → Expr → Option IE}
theorem cI_pl {tg e : Expr} {it : It} (c : cI rec C tg e = some it) : ∀ env x, foldedSetIterable e env x = pure x := by
  unfold cI at c
  split at c
  · rename_i hp; exact fun env => pl_set hp
  · cases c
theorem kw_len : ∀ {kws : List Keyword}, (kws.all fun k => k.arg.isSome) = true → (kws.filterMap (·.arg)).length = kws.length
  | [], _ => rfl
  | ⟨none, _, _⟩ :: qs, h => by simp at h
  | ⟨some y, _, _⟩ :: qs, h => by
    simp only [List.all_cons, Bool.and_eq_true] at h
    simp [kw_len h.2]
theorem own_mem {own : List (Str × Nat)} {t : Tg} (h : ((tgn t).all fun j => (own.map (·.2)).contains j) = true) : ∀ j ∈ tgn t, j ∈ own.map (·.2) := fun j hj => by
  have := List.all_eq_true.mp h j hj
  simpa using this
theorem cC_ok (hr : SdR fa cf n rec) (h : Cxt X fa cf n C) {elt : Expr} {gens : List Comprehension} {scope : Scope} {pos : Pos} {i : IE} (c : cC rec C elt gens scope = some i) : E X fa cf (.ListComp elt gens scope pos) i := by
  unfold cC at c
  split at c
  · rename_i hb
    have ok : BlkOk X.N X.env.scope scope (ownI C scope) := by rw [h.hN, h.sc]; exact blkOk_by hb
    have nd : X.N.Nodup := by rw [h.hN]; exact h.nd
    split at c
    · rename_i tg iter ifs
      simp only [Option.bind_eq_some_iff] at c
      obtain ⟨it, e1, t, e2, is, e3, e, e4, c⟩ := c
      split at c
      · rename_i hc
        cases c
        rw [Bool.and_eq_true, decide_eq_true_eq] at hc
        obtain ⟨h1, h2⟩ := cI_ok hr h e1
        exact se_lc1 h.calm nd h1 ok (own_mem hc.1) (fun s H Ca cl fp => cT_ok e2 _ (h.blk scope s H Ca cl fp)) (fun s H Ca cl fp => ts_ok hr (h.blk scope s H Ca cl fp) e3 hc.2) (fun s H Ca cl fp => (hr _ _ _ e4 _ (h.blk scope s H Ca cl fp)).1) (h2 _)
      · cases c
    · rename_i tg iter ifs tg1 iter1 ifs1
      simp only [Option.bind_eq_some_iff] at c
      obtain ⟨it, e1, t, e2, is, e3, e, e4, it1, e5, t1, e6, is1, e7, c⟩ := c
      split at c
      · rename_i hc
        cases c
        simp only [Bool.and_eq_true, decide_eq_true_eq] at hc
        obtain ⟨h1, h2⟩ := cI_ok hr h e1
        exact se_lc2 h.calm nd h1 ok (own_mem hc.1) (own_mem hc.2.1) (fun s H Ca cl fp => cT_ok e2 _ (h.blk scope s H Ca cl fp)) (fun s H Ca cl fp => ts_ok hr (h.blk scope s H Ca cl fp) e3 hc.2.2.1)
          (fun s H Ca cl fp => (cI_ok hr (h.blk scope s H Ca cl fp) e5).1) (fun s H Ca cl fp => cT_ok e6 _ (h.blk scope s H Ca cl fp)) (fun s H Ca cl fp => ts_ok hr (h.blk scope s H Ca cl fp) e7 hc.2.2.2)
          (fun s H Ca cl fp => (hr _ _ _ e4 _ (h.blk scope s H Ca cl fp)).1) (h2 _) (cI_pl e5)
      · cases c
    · cases c
  · cases c
theorem cD_ok (hr : SdR fa cf n rec) (h : Cxt X fa cf n C) {elt : Expr} {gens : List Comprehension} {scope : Scope} {pos : Pos} {i : IE} (c : cD rec C elt gens scope = some i) : E X fa cf (.ListComp elt gens scope pos) i := by
  unfold cD at c
  split at c
  · rename_i hb
    have ok : BlkOk X.N X.env.scope scope (ownI C scope) := by rw [h.hN, h.sc]; exact blkOk_by hb
    have nd : X.N.Nodup := by rw [h.hN]; exact h.nd
    split at c
    · rename_i tg d dp ifs
      simp only [Option.bind_eq_some_iff] at c
      obtain ⟨j, e1, c⟩ := c
      split at c
      · simp only [Option.bind_eq_some_iff] at c
        obtain ⟨t, e2, is, e3, e, e4, c⟩ := c
        split at c
        · rename_i hc
          cases c
          rw [Bool.and_eq_true, decide_eq_true_eq] at hc
          exact se_lcd h.calm nd (h.var e1).1 ok (own_mem hc.1) (fun s H Ca cl fp => cT_ok e2 _ (h.blk scope s H Ca cl fp)) (fun s H Ca cl fp => ts_ok hr (h.blk scope s H Ca cl fp) e3 hc.2) (fun s H Ca cl fp => (hr _ _ _ e4 _ (h.blk scope s H Ca cl fp)).1) (fun _ => rfl)
        · cases c
      · cases c
    · cases c
  · cases c
theorem cP_ok (hr : SdR fa cf n rec) (h : Cxt X fa cf n C) {o : Option Expr} {is : IEs} (c : cP rec C o = some is) : PO X o (tP X.K fa cf is) := by
  cases o with
  | none => cases c; exact sp_none
  | some a =>
    simp only [cP] at c
    split at c
    · simp only [Option.bind_eq_some_iff] at c
      obtain ⟨i, e1, e2⟩ := c
      cases e2
      exact sp_some (hr _ _ _ e1 X h).1
    · cases c
theorem blt_call (hr : SdR fa cf n rec) (h : Cxt X fa cf n C) {args : List Expr} {a : Expr} {b : Bt} {is : IEs} {p0 pos : Pos} (hb : btI C x = some b) (e : cEs rec C (a :: args) = some is) : E X fa cf (.Call (.Name x p0) (a :: args) [] pos) (.blt b is) := by
  obtain ⟨h1, h2, h3, h4⟩ := h.btI hb
  obtain ⟨h5, h6, _⟩ := cEs_ok hr h e
  have h6' := h6
  simp only [List.all_cons, Bool.and_eq_true] at h6
  refine se_blt h5 (fun t ht => pe_fOf (by have := h.room.un; omega) h.calm h1 h2 h4 ht (okN_nm h3) (okN_dbg h3) (pl_star h6.1 _) (pl_plain _ h6.2)) fun hb2 t ht => ?_
  subst hb2
  exact pe_callB call_lenTu h1 h2 h4 ht (okN_nm h3) (okN_dbg h3) (pl_star h6.1 _) (pl_plain _ h6.2)
theorem tupn_call (hr : SdR fa cf n rec) (h : Cxt X fa cf n C) {a : Expr} {ia : IE} {p0 pos : Pos} (hb : btI C x = some .tuple) (hp : pl a = true) (e : rec C a = some ia) : E X fa cf (.Call (.Name x p0) [a] [] pos) (.tupn ia) := by
  obtain ⟨h1, h2, h3, h4⟩ := h.btI hb
  have e2 : cEs rec C [a] = some (.cons ia .nil) := by simp [cEs, hp, e]
  obtain ⟨h5, h6, _⟩ := cEs_ok hr h e2
  exact se_tupn h5 fun t ht => pe_callTy call_tupN h1 h2 h4 ht (okN_nm h3) (okN_dbg h3) (pl_star hp _) rfl
theorem len_cons : ∀ {is : IEs} {k : Nat}, len is = k + 1 → ∃ i js, is = .cons i js
  | .nil, _, h => by simp [len] at h
  | .cons i js, _, _ => ⟨i, js, rfl⟩
theorem cCall_ok (hr : SdR fa cf n rec) (h : Cxt X fa cf n C) {args : List Expr} {kws : List Keyword} {p0 pos : Pos} {i : IE} (c : cCall rec C x args kws = some i) : E X fa cf (.Call (.Name x p0) args kws pos) i := by
  unfold cCall at c
  split at c
  · rename_i k hk
    obtain ⟨g1, g2⟩ := defI_ok hk
    simp only [Option.bind_eq_some_iff] at c
    obtain ⟨d, e1, c⟩ := c
    split at c
    · rename_i hd
      have hd : d.1 = x := of_decide_eq_true hd
      obtain ⟨m1, m2⟩ := h.tab k d e1
      rw [hd] at m1
      simp only [Option.bind_eq_some_iff] at c
      obtain ⟨is, e2, c⟩ := c
      obtain ⟨l1, l2, l3⟩ := cEs_ok hr h e2
      have hg := h.gl g1
      split at c
      · split at c
        · rename_i hl
          have hl : args.length = d.2.length := of_decide_eq_true hl
          cases c
          cases args with
          | nil =>
            cases e2
            have : d.2 = [] := List.length_eq_zero_iff.mp hl.symm
            rw [this] at m2
            exact se_call0 m2 h.room hg m1 (okN_dbg g2)
          | cons a es =>
            obtain ⟨i0, js, rfl⟩ := len_cons (k := es.length) (by rw [l3]; rfl)
            simp only [List.all_cons, Bool.and_eq_true] at l2
            exact se_call m2 h.room hg m1 l1 hl (fun σ S rs S' e => by rw [evs_len _ _ _ _ _ e, l3, hl]) (okN_dbg g2) (pl_star l2.1 _) (pl_plain _ l2.2)
        · cases c
      · simp only [Option.bind_eq_some_iff] at c
        obtain ⟨js, e3, c⟩ := c
        split at c
        · rename_i hk2
          rw [Bool.and_eq_true] at hk2
          cases c
          obtain ⟨k1, k2⟩ := cKs_ok hr h e3
          obtain ⟨w1, w2, w3⟩ := kw_all (env := X.env) pos hk2.1
          have w4 := kw_len hk2.1
          cases args with
          | nil =>
            cases e2
            exact se_callK0 (js := js) m2 h.room hg m1 k1 hk2.2 (by rw [k2, w4]) w1 w2 (okN_dbg g2) (by rw [w3]; rfl)
          | cons a es =>
            have l2' := l2
            simp only [List.all_cons, Bool.and_eq_true] at l2
            exact se_callK m2 h.room hg m1 l1 k1 (by rw [l3]; exact hk2.2) (by rw [k2, w4]) w1 w2 (okN_dbg g2) (pl_star l2.1 _) (by rw [w3, pl_plain _ l2']; rfl)
        · cases c
    · cases c
  · split at c
    · split at c
      · rename_i i0 hv
        obtain ⟨v1, v2, v3, v4⟩ := h.var (p := p0) hv
        split at c
        · cases c
        · simp only [Option.bind_eq_some_iff] at c
          obtain ⟨is, e2, c⟩ := c
          cases c
          obtain ⟨l1, l2, l3⟩ := cEs_ok hr h e2
          cases args with
          | nil => rename_i hne; exact absurd rfl hne
          | cons a es =>
            obtain ⟨i1, js, rfl⟩ := len_cons (k := es.length) (by rw [l3]; rfl)
            simp only [List.all_cons, Bool.and_eq_true] at l2
            refine se_callv (pp := fun k => (C.tab[k]?).map (·.2)) (fun k ps e => ?_) (fun k rs S r S' e => ?_) h.room v2 v3 l1 (okN_dbg v4) (okN_cd v4) (pl_star l2.1 _) (pl_plain _ l2.2)
            · rw [Option.map_eq_some_iff] at e
              obtain ⟨d, e4, rfl⟩ := e
              exact (h.tab k d e4).2
            · obtain ⟨d, e4, e5⟩ := h.hcf k rs S r S' e
              exact ⟨d.2, by rw [e4]; rfl, e5⟩
      · split at c
        · rename_i hb
          obtain ⟨g1, g2, g3⟩ := h.blt hb
          split at c
          · rename_i hx
            have ex : x = "isinstance" := of_decide_eq_true hx
            subst ex
            split at c
            · split at c
              · rename_i hp
                simp only [Option.bind_eq_some_iff] at c
                obtain ⟨i0, e1, ty, e2, e3⟩ := c
                cases e3
                exact se_isi1 g1 g2 (hr _ _ _ e1 X h).1 (h.tyI e2) (pl_star hp _) rfl rfl
              · cases c
            · split at c
              · rename_i hp
                rw [Bool.and_eq_true, decide_eq_true_eq] at hp
                simp only [Option.bind_eq_some_iff] at c
                obtain ⟨i0, e1, tys, e2, e3⟩ := c
                cases e3
                obtain ⟨t1, t2⟩ := cTy_ok h e2
                have hL : LIM = 16777216 := rfl
                exact se_isiT g1 g2 (hr _ _ _ e1 X h).1 t1 (by omega) (pl_star hp.1 _) rfl rfl
              · cases c
            · cases c
          · split at c
            · rename_i hx
              split at c
              · rename_i r p1 ras rp
                split at c
                · rename_i hr2
                  rw [Bool.and_eq_true] at hr2
                  obtain ⟨r1, r2, r3⟩ := h.blt hr2.2
                  have er : r = "range" := of_decide_eq_true hr2.1
                  subst er
                  split at c
                  · simp only [Option.bind_eq_some_iff] at c
                    obtain ⟨is, e1, e2⟩ := c
                    obtain ⟨i0, e3, rfl, hp⟩ := one_of (es := []) e1
                    split at e2
                    · rename_i hl
                      have ex : x = "list" := of_decide_eq_true hl
                      subst ex
                      cases e2
                      exact se_lofR1 h.calm g1 g2 r1 r2 (hr _ _ _ e3 X h).1 (pl_star hp _) rfl
                    · rename_i hl
                      have ex : x = "tuple" := by
                        rw [Bool.or_eq_true] at hx
                        exact of_decide_eq_true (hx.resolve_left hl)
                      subst ex
                      cases e2
                      exact se_tofR1 h.calm g1 g2 r1 r2 (hr _ _ _ e3 X h).1 (pl_star hp _) rfl
                  · simp only [Option.bind_eq_some_iff] at c
                    obtain ⟨is, e1, e2⟩ := c
                    obtain ⟨i0, j0, e3, e4, rfl, hp, hp2⟩ := two_of e1
                    split at e2
                    · rename_i hl
                      have ex : x = "list" := of_decide_eq_true hl
                      subst ex
                      cases e2
                      exact se_lofR2 h.calm g1 g2 r1 r2 (hr _ _ _ e3 X h).1 (hr _ _ _ e4 X h).1 (pl_star hp _) (pl_star hp2 _) (pl_plain _ (by simp [hp2])) rfl
                    · rename_i hl
                      have ex : x = "tuple" := by
                        rw [Bool.or_eq_true] at hx
                        exact of_decide_eq_true (hx.resolve_left hl)
                      subst ex
                      cases e2
                      exact se_tofR2 h.calm g1 g2 r1 r2 (hr _ _ _ e3 X h).1 (hr _ _ _ e4 X h).1 (pl_star hp _) (pl_star hp2 _) (pl_plain _ (by simp [hp2])) rfl
                  · cases c
                · simp only [Option.bind_eq_some_iff] at c
                  obtain ⟨b, e1, is, e2, e3⟩ := c
                  cases e3
                  exact blt_call hr h e1 e2
              · simp only [Option.bind_eq_some_iff] at c
                obtain ⟨b, e1, is, e2, e3⟩ := c
                cases e3
                exact blt_call hr h e1 e2
              · cases c
            · split at c
              · cases c
              · simp only [Option.bind_eq_some_iff] at c
                obtain ⟨b, e1, is, e2, e3⟩ := c
                cases e3
                cases args with
                | nil => rename_i hne; exact absurd rfl hne
                | cons a es => exact blt_call hr h e1 e2
        · cases c
    · cases c
theorem mt_ok {m : Str} {mt : Mt} (h : mtI m = some mt) : Slot "list" m (mId mt) ∧ typeOf (.builtin (mId mt)) = pure (.type "method_descriptor") ∧ Slot "tuple" m (mIdT mt) ∧ typeOf (.builtin (mIdT mt)) = pure (.type "method_descriptor") := by
  have := PySem.mem_of_lookup h
  simp only [List.mem_cons, Prod.mk.injEq, List.not_mem_nil, or_false] at this
  rcases this with ⟨rfl, rfl⟩ | ⟨rfl, rfl⟩
  · exact ⟨F.slot_list_index, F.type_list_index, F.slot_tuple_index, F.type_tuple_index⟩
  · exact ⟨F.slot_list_count, F.type_list_count, F.slot_tuple_count, F.type_tuple_count⟩
theorem mm_ok {m : Str} {mt : Mm} (h : mmI m = some mt) : Slot "list" m (mmId mt) ∧ typeOf (.builtin (mmId mt)) = pure (.type "method_descriptor") := by
  have := PySem.mem_of_lookup h
  simp only [List.mem_cons, Prod.mk.injEq, List.not_mem_nil, or_false] at this
  rcases this with ⟨rfl, rfl⟩ | ⟨rfl, rfl⟩ | ⟨rfl, rfl⟩
  · exact ⟨F.slot_list_append, F.type_list_append⟩
  · exact ⟨F.slot_list_pop, F.type_list_pop⟩
  · exact ⟨F.slot_list_extend, F.type_list_extend⟩
theorem cW_ok (hr : SdR fa cf n rec) (h : Cxt X fa cf n C) {o : Expr} {m : Str} {args : List Expr} {apos cpos : Pos} {i : IE} (c : cW rec C o m args (apos.endLine == cpos.line) = some i) : E X fa cf (.Call (.Attribute o m apos) args [] cpos) i := by
  unfold cW at c
  split at c
  · rename_i hc
    rw [Bool.and_eq_true, Bool.and_eq_true] at hc
    obtain ⟨hline, hp, hm⟩ := hc
    have hm : m = "startswith" := of_decide_eq_true hm
    subst hm
    split at c
    · split at c
      · rename_i a hpl
        simp only [Option.bind_eq_some_iff] at c
        obtain ⟨i0, e1, j0, e2, e3⟩ := c
        cases e3
        exact se_stw (hr _ _ _ e1 X h).1 (hr _ _ _ e2 X h).1 (pr_base hp) (pl_few _ (by simp [hpl]) (by simp)) hline (pl_star hpl _) rfl
      · cases c
    · cases c
  · cases c
theorem cDs_ok : ∀ {ks : List (Option Expr)} {vs : List Expr} {ps : List (Str × Str)}, cDs ks vs = some ps → Dps X ks vs ps := by
  intro ks vs
  fun_induction cDs ks vs with
  | case1 => intro ps e; cases e; exact .nil
  | case2 a x1 x2 ks b y1 y2 vs ih =>
    intro ps e
    simp only [Option.bind_eq_some_iff] at e
    obtain ⟨qs, e1, e2⟩ := e
    cases e2
    exact .cons pe_str pe_str (ih e1)
  | case3 => intro ps e; cases e
theorem cM_ok (hr : SdR fa cf n rec) (h : Cxt X fa cf n C) {o : Expr} {m : Str} {args : List Expr} {apos cpos : Pos} {i : IE} (c : cM rec C o m args (apos.endLine == cpos.line) = some i) : E X fa cf (.Call (.Attribute o m apos) args [] cpos) i := by
  unfold cM at c
  split at c
  · rename_i hc
    rw [Bool.and_eq_true, Bool.and_eq_true, decide_eq_true_eq] at hc
    obtain ⟨hline, hp, hlen⟩ := hc
    split at c
    · rename_i mt hm
      obtain ⟨s1, s2, s3, s4⟩ := mt_ok hm
      split at c
      · cases c
      · simp only [Option.bind_eq_some_iff] at c
        obtain ⟨i0, e1, is, e2, e3⟩ := c
        cases e3
        cases args with
        | nil => rename_i hne; exact absurd rfl hne
        | cons a es =>
          obtain ⟨l1, l2, l3⟩ := cEs_ok hr h e2
          have l2' := l2
          simp only [List.all_cons, Bool.and_eq_true] at l2
          exact se_mth h.units s1 s2 s3 s4 (hr _ _ _ e1 X h).1 l1 (pr_base hp) (pl_few _ l2' hlen) hline (pl_star l2.1 _) (pl_plain _ l2.2)
    · simp only [Option.bind_eq_some_iff] at c
      obtain ⟨mm, hm, c⟩ := c
      obtain ⟨s1, s2⟩ := mm_ok hm
      split at c
      · simp only [Option.bind_eq_some_iff] at c
        obtain ⟨i0, e1, is, e2, e3⟩ := c
        cases e3
        obtain ⟨v1, _⟩ := h.var (p := by assumption) e1
        cases args with
        | nil => cases e2; exact se_mut0 s1 s2 v1 (pr_base hp) hline
        | cons a es =>
          obtain ⟨l1, l2, l3⟩ := cEs_ok hr h e2
          have l2' := l2
          simp only [List.all_cons, Bool.and_eq_true] at l2
          exact se_mut s1 s2 v1 l1 (pr_base hp) (pl_few _ l2' hlen) hline (pl_star l2.1 _) (pl_plain _ l2.2)
      · split at c
        · cases c
        · simp only [Option.bind_eq_some_iff] at c
          obtain ⟨i0, e1, is, e2, e3⟩ := c
          cases e3
          cases args with
          | nil => rename_i hne; exact absurd rfl hne
          | cons a es =>
            obtain ⟨l1, l2, l3⟩ := cEs_ok hr h e2
            have l2' := l2
            simp only [List.all_cons, Bool.and_eq_true] at l2
            exact se_muto s1 s2 (hr _ _ _ e1 X h).1 l1 (pr_base hp) (pl_few _ l2' hlen) hline (pl_star l2.1 _) (pl_plain _ l2.2)
  · cases c
theorem both_of {e : Expr} {i : IE} (h : E X fa cf e i) (hp : pt e = true) : E X fa cf e i ∧ T X fa cf e i := ⟨h, st_of h (pt_true hp)⟩
theorem cSS_ok (hr : SdR fa cf n rec) (h : Cxt X fa cf n C) {args : List Expr} {kws : List Keyword} {p0 pos : Pos} {i : IE} (c : cSS rec C x args kws = some i) : E X fa cf (.Call (.Name x p0) args kws pos) i := by
  unfold cSS at c
  split at c
  · split at c
    · rename_i hc
      simp only [Bool.and_eq_true] at hc
      obtain ⟨hy, hb, hbx, hp⟩ := hc
      obtain ⟨g1, g2, _⟩ := h.blt hb
      obtain ⟨g3, g4, _⟩ := h.blt hbx
      have hy := of_decide_eq_true hy
      subst hy
      split at c
      · rename_i hx
        have hx := of_decide_eq_true hx
        subst hx
        simp only [Option.bind_eq_some_iff] at c
        obtain ⟨i1, e1, e2⟩ := c
        cases e2
        exact se_sset h.calm g3 g4 g1 g2 (hr _ _ _ e1 X h).1 (pl_star hp _) rfl
      · split at c
        · rename_i hx
          have hx := of_decide_eq_true hx
          subst hx
          simp only [Option.bind_eq_some_iff] at c
          obtain ⟨i1, e1, e2⟩ := c
          cases e2
          exact se_lset h.calm g3 g4 g1 g2 (hr _ _ _ e1 X h).1 (pl_star hp _) rfl
        · cases c
    · cases c
  · cases c
theorem stepE_ok (hr : SdR fa cf n rec) (h : Cxt X fa cf n C) : ∀ (e : Expr) (i : IE), stepE rec C e = some i → E X fa cf e i ∧ T X fa cf e i := by
  intro e i c
  unfold stepE at c
  split at c
  · refine both_of ?_ rfl
    split at c
    · rename_i j hv
      cases c
      exact se_var (h.var hv).1
    · split at c
      · rename_i k hk
        obtain ⟨g1, g2⟩ := defI_ok hk
        simp only [Option.bind_eq_some_iff] at c
        obtain ⟨d, e1, c⟩ := c
        split at c
        · rename_i hd
          have hd : d.1 = _ := of_decide_eq_true hd
          obtain ⟨m1, m2⟩ := h.tab k d e1
          rw [hd] at m1
          cases c
          exact se_fn (pe_glob (h.gl g1) m1 rfl (okN_dbg g2))
        · cases c
      · split at c
        · rename_i hg
          rw [Bool.and_eq_true] at hg
          simp only [Option.bind_eq_some_iff] at c
          obtain ⟨d, e1, e2⟩ := c
          cases e2
          obtain ⟨u, v, m1, rv, pu⟩ := h.cs _ d e1
          exact se_cst (pe_glob (h.gl hg.1) m1 rv (okN_dbg hg.2)) pu
        · cases c
  · refine both_of ?_ rfl
    split at c
    · cases c; exact se_cst pe_non fun _ _ => .non
    · cases c; exact se_cst pe_bl fun _ _ => .bl _
    · cases c; exact se_cst pe_int fun _ _ => .int _
    · cases c; exact se_cst pe_str fun _ _ => .str _
    · cases c
  · refine both_of ?_ rfl
    simp only [Option.bind_eq_some_iff] at c
    obtain ⟨p, e1, j, e2, k, e3, e4⟩ := c
    cases e4
    rw [opI_ok e1]
    exact se_bin (hr _ _ _ e2 X h).1 (hr _ _ _ e3 X h).1
  · refine both_of ?_ rfl
    simp only [Option.bind_eq_some_iff] at c
    obtain ⟨j, e1, e2⟩ := c
    cases e2
    exact se_neg (hr _ _ _ e1 X h).1
  · simp only [Option.bind_eq_some_iff] at c
    obtain ⟨j, e1, e2⟩ := c
    cases e2
    obtain ⟨h1, h2⟩ := hr _ _ _ e1 X h
    exact ⟨se_not h1, st_not h2⟩
  · obtain ⟨h1, h2⟩ := cB_ok hr h c
    exact ⟨h1, h2.pt⟩
  · simp only [Option.bind_eq_some_iff] at c
    obtain ⟨k, e1, j, e2, l, e3, e4⟩ := c
    cases e4
    obtain ⟨h1, h2⟩ := hr _ _ _ e1 X h
    obtain ⟨h3, h4⟩ := hr _ _ _ e2 X h
    obtain ⟨h5, h6⟩ := hr _ _ _ e3 X h
    exact ⟨se_ife h2 h3 h5, st_ife h2 h4 h6⟩
  · split at c
    · rename_i hp
      simp only [Option.bind_eq_some_iff] at c
      obtain ⟨k, e1, j, e2, e3⟩ := c
      cases e3
      obtain ⟨h1, h2⟩ := hr _ _ _ e1 X h
      obtain ⟨h3, h4⟩ := hr _ _ _ e2 X h
      rename_i o b _
      have hm := pl_mark o hp
      rw [← cmI_ok o] at hm ⊢
      rw [cmI_ok o] at *
      exact ⟨by have := se_cmp (o := cmI o) h.units h1 h3 (pos := by assumption) (by rw [cmI_ok]; exact hm); rw [cmI_ok] at this; exact this, by have := st_cmp (o := cmI o) h.units h1 h3 (pos := by assumption) (by rw [cmI_ok]; exact hm); rw [cmI_ok] at this; exact this⟩
    · cases c
  · split at c
    · rename_i hp
      rw [Bool.and_eq_true] at hp
      simp only [Option.bind_eq_some_iff] at c
      obtain ⟨k, e1, j, e2, l, e3, e4⟩ := c
      cases e4
      obtain ⟨h1, h2⟩ := hr _ _ _ e1 X h
      obtain ⟨h3, h4⟩ := hr _ _ _ e2 X h
      obtain ⟨h5, h6⟩ := hr _ _ _ e3 X h
      rename_i o o2 b cc pos
      have hm : lastMarks [cmOf (cmI o), cmOf (cmI o2)] [b, cc] = false := by rw [cmI_ok, cmI_ok]; exact pl_mark o2 hp.2
      have q1 := se_chain (o1 := cmI o) (o2 := cmI o2) (pos := pos) h.units h1 h3 h5 hm
      have q2 := st_chain (o1 := cmI o) (o2 := cmI o2) (pos := pos) h.units h1 h3 h5 hm
      rw [cmI_ok, cmI_ok] at q1 q2
      exact ⟨q1, q2⟩
    · cases c
  · split at c
    · rename_i hp
      rw [Bool.and_eq_true, Bool.and_eq_true] at hp
      simp only [Option.bind_eq_some_iff] at c
      obtain ⟨k, e1, j, e2, l, e3, m, e4, e5⟩ := c
      cases e5
      obtain ⟨h1, h2⟩ := hr _ _ _ e1 X h
      obtain ⟨h3, h4⟩ := hr _ _ _ e2 X h
      obtain ⟨h5, h6⟩ := hr _ _ _ e3 X h
      obtain ⟨h7, h8⟩ := hr _ _ _ e4 X h
      rename_i o o2 o3 b cc d pos
      have hm : lastMarks [cmOf (cmI o), cmOf (cmI o2), cmOf (cmI o3)] [b, cc, d] = false := by rw [cmI_ok, cmI_ok, cmI_ok]; exact pl_mark o3 hp.2.2
      have q1 := se_chain3 (o1 := cmI o) (o2 := cmI o2) (o3 := cmI o3) (pos := pos) h.units h1 h3 h5 h7 hm
      have q2 := st_chain3 (o1 := cmI o) (o2 := cmI o2) (o3 := cmI o3) (pos := pos) h.units h1 h3 h5 h7 hm
      rw [cmI_ok, cmI_ok, cmI_ok] at q1 q2
      exact ⟨q1, q2⟩
    · cases c
  · split at c
    · rename_i i1 e1
      cases c
      exact both_of (cSS_ok hr h e1) rfl
    · exact both_of (cCall_ok hr h c) rfl
  · split at c
    · rename_i i1 e1
      cases c
      exact both_of (cM_ok hr h e1) rfl
    · exact both_of (cW_ok hr h c) rfl
  · cases c; exact both_of (se_dnew _) rfl
  · cases c; exact both_of (se_dcst pe_str pe_int) rfl
  · simp only [Option.bind_eq_some_iff] at c
    obtain ⟨ps, e1, e2⟩ := c
    cases e2
    exact both_of (se_dsp (cDs_ok e1)) rfl
  · refine both_of ?_ rfl
    split at c
    · simp only [Option.bind_eq_some_iff] at c
      obtain ⟨p, e1, e2⟩ := c
      cases e2
      exact se_tups (cLS_ok hr h e1)
    · simp only [Option.bind_eq_some_iff] at c
      obtain ⟨is, e1, e2⟩ := c
      cases e2
      exact se_tup (cEs_ok hr h e1).1
  · refine both_of ?_ rfl
    split at c
    · simp only [Option.bind_eq_some_iff] at c
      obtain ⟨p, e1, e2⟩ := c
      cases e2
      exact se_lsts (cLS_ok hr h e1)
    · simp only [Option.bind_eq_some_iff] at c
      obtain ⟨is, e1, e2⟩ := c
      cases e2
      exact se_lst (cEs_ok hr h e1).1
  · refine both_of ?_ rfl
    simp only [Option.bind_eq_some_iff] at c
    obtain ⟨j, e1, e2⟩ := c
    cases e2
    exact se_rev (hr _ _ _ e1 X h).1
  · refine both_of ?_ rfl
    simp only [Option.bind_eq_some_iff] at c
    obtain ⟨j, e1, l, e2, u, e3, e4⟩ := c
    cases e4
    exact se_slc (hr _ _ _ e1 X h).1 (cP_ok hr h e2) (cP_ok hr h e3)
  · refine both_of ?_ rfl
    split at c
    · rename_i hp
      split at c
      · rename_i j e1
        simp only [Option.bind_eq_some_iff] at c
        obtain ⟨k, e2, e3⟩ := c
        cases e3
        unfold rowI at e1
        split at e1
        · simp only [Option.bind_eq_some_iff] at e1
          obtain ⟨i0, e1, e4⟩ := e1
          split at e4
          · cases e4
            exact se_rsub (h.var (p := by assumption) e1).1 (hr _ _ _ e2 X h).1 (pl_ix hp)
          · cases e4
        · cases e1
      · simp only [Option.bind_eq_some_iff] at c
        obtain ⟨j, e1, k, e2, e3⟩ := c
        cases e3
        exact se_sub h.units (hr _ _ _ e1 X h).1 (hr _ _ _ e2 X h).1 (pl_ix hp)
    · cases c
  · split at c
    · rename_i i1 e1
      cases c
      exact both_of (cD_ok hr h e1) rfl
    · exact both_of (cC_ok hr h c) rfl
  · cases c
theorem cE_ok : ∀ k : Nat, SdR fa cf n (cE k)
  | 0, _, _, _, c => by cases c
  | k + 1, C, e, i, c => fun X h => stepE_ok (cE_ok k) h e i c
end
end Ip

set_option Elab.async false
set_option linter.all false
set_option maxRecDepth 100000
set_option maxHeartbeats 1000000
/-! Statements from the text. -/
namespace Ip
open PySem PySem.Spec PyProof.Rows L2

/-- swapsWith, told -/
def swB (sc : Scope) (e : Expr) (x : Str) (p : Pos) (line : Nat) : Bool := match e with
  | .ListComp _ _ s ep => (if sc.kind.isAnnotationScope then ScopeKind.function else sc.kind) == .function && sc.names.lookup x == some .local && p.line == ep.line && !(s.names.any fun (n, k) => n == x && (k == .local || k == .cell))
  | _ => false
theorem swB_ok {env : Env} {e : Expr} {x : Str} {p : Pos} {line : Nat} (h : pl e = true) : swapsWith e (some (.Name x p)) line env = pure (swB env.scope e x p line) := by
  cases e <;> first | rfl | (simp [pl] at h)
theorem sw_other {env : Env} {e t : Expr} {line : Nat} (h : pl e = true) (ht : ∀ x p, t ≠ .Name x p) : swapsWith e (some t) line env = pure false := by
  cases e <;> first | rfl | (simp [pl] at h; done) | skip
  cases t <;> first | rfl | (exact absurd rfl (ht _ _))
theorem sw_sole {env : Env} {e t : Expr} {line : Nat} (h : pl e = true) (ht : ∀ x p, t ≠ .Name x p) : swapsWithSole [t] e line env = pure false := by
  show swapsWith e (some t) line env = pure false
  exact sw_other h ht
def isLC : Expr → Bool
  | .ListComp .. => true
  | _ => false
theorem sw_none {env : Env} {e : Expr} {line : Nat} (h : pl e = true) (hl : isLC e = false) : swapsWith e none line env = pure false := by
  cases e <;> first | rfl | (simp [pl] at h; done) | (simp [isLC] at hl)
/-- swappedStores, told -/
def star : Expr → Bool
  | .Starred .. => true
  | _ => false
def nmB (sc : Scope) (line : Nat) : Expr → Option Str
  | .Name id pos => if sc.names.lookup id == some .local && pos.line == line then some id else none
  | _ => none
def ss1 (sc : Scope) (ts vs : List Expr) : Bool := !(ts.length == 2 || ts.length == 3) || vs.length != ts.length || (if sc.kind.isAnnotationScope then ScopeKind.function else sc.kind) != .function
def ssN (sc : Scope) (ts : List Expr) : List Str := ts.filterMap (nmB sc ((ts.head?.map (·.pos.line)).getD 0))
def ss3 (ts : List Expr) (ns : List Str) : Bool := ns.length != ts.length || ns.eraseDups.length != ns.length
def ssB (sc : Scope) : List Expr → Expr → Option (Option (List Str))
  | [.Tuple ts _ _], .Tuple vs _ _ => match ss1 sc ts vs, vs.any star, ss3 ts (ssN sc ts), vs.all (foldedForSure 8), vs.all (constantsAlone 8) with
    | true, _, _, _, _ => some none
    | false, true, _, _, _ => some none
    | false, false, true, _, _ => some none
    | false, false, false, true, _ => some none
    | false, false, false, false, true => none
    | false, false, false, false, false => some (some (ssN sc ts))
  | [.Tuple _ _ _], e => if pl e then some none else none
  | [.Subscript _ _ _], _ => some none
  | _, _ => none
theorem ssB_ok {env : Env} {ts : List Expr} {e : Expr} {o : Option (List Str)} (h : ssB env.scope ts e = some o) : swappedStores ts e env = pure o := by
  unfold ssB at h
  split at h
  · rename_i ts k p vs k2 p2
    have e1 : (fun x : Expr => (match x with | .Starred _ _ => true | _ => false : Bool)) = star := by
      funext x; cases x <;> rfl
    have e2 : ∀ line : Nat, (fun x : Expr => (match x with | .Name id pos => if (env.kindOf id == some NameKind.local && pos.line == line) = true then some id else none | _ => none : Option Str)) = nmB env.scope line := by
      intro line; funext x; cases x <;> rfl
    have key : swappedStores [.Tuple ts k p] (.Tuple vs k2 p2) env = (if ss1 env.scope ts vs = true then pure none else if vs.any star = true then pure none else if ss3 ts (ssN env.scope ts) = true then pure none else if vs.all (foldedForSure 8) = true then pure none
        else if vs.all (constantsAlone 8) = true then (do unsupported "assign.tuple-of-constant-expressions:order-of-the-stores"; return some (ssN env.scope ts)) else pure (some (ssN env.scope ts))) := by
      unfold swappedStores
      simp only [pure_bind, e1, e2]
      rfl
    rw [key]
    clear key e1 e2
    split at h
    all_goals first | (cases h; done) | skip
    all_goals (cases h; simp only [*, if_true, Bool.false_eq_true, if_false])
  · split at h
    · cases h
      rename_i h1 h2
      cases e <;> first | rfl | (simp [pl] at h2; done) | (exact (h1 _ _ _ rfl).elim)
    · cases h
  · cases h; cases e <;> rfl
  · cases h

def cSs (rec : Stmt → IS) : List Stmt → ISs
  | [] => .nil
  | s :: r => .cons (rec s) (cSs rec r)
def locOnly (C : CC) (x : Str) : Bool := decide (C.sc.names.lookup x = some .local)
/-- of a dict comprehension -/
def swD (sc : Scope) (s : Scope) (ep p : Pos) (x : Str) : Bool := (if sc.kind.isAnnotationScope then ScopeKind.function else sc.kind) == .function && sc.names.lookup x == some .local && p.line == ep.line && !(s.names.any fun (n, k) => n == x && (k == .local || k == .cell))
theorem swD_ok {env : Env} {kx vx : Expr} {gens : List Comprehension} {s : Scope} {ep p : Pos} {x : Str} {line : Nat} : swapsWith (.DictComp kx vx gens s ep) (some (.Name x p)) line env = pure (swD env.scope s ep p x) := rfl
def hasM (C : CC) (x : Str) : Bool := match slot C x with
  | some i => C.mu.contains i
  | none => false
/-- name = other name: a changed one goes over -/
def mvS (C : CC) (i : Nat) (ie : IE) : IS := match ie with
  | .var j => if C.mu.contains j then .mv i (C.mu.contains i) j else .set i (C.mu.contains i) ie
  | ie => .set i (C.mu.contains i) ie
section
variable {X : Cx} {fa : Nat → Addr} {cf : Cf} {W B : Nat} {C : CC}
theorem s_mvS {a : Expr} {ie : IE} {i : Nat} {x : Str} {pos pos' : Pos} (hN : X.N.Nodup) (hi : X.N[i]? = some x) (hx : Loc X.env.scope x) (he : E X fa cf a ie) (hs : swapsWith a (some (.Name x pos')) pos.line X.env = pure false) (hf : X.fn x = true ∨ X.env.scope.names.lookup x = some .local) :
    St1 X fa cf W B (.Assign [.Name x pos'] a pos) (mvS C i ie) := by
  unfold mvS
  split
  · split
    · exact s_mv hN hi hx he hs hf
    · exact s_set hN hi hx he hs hf
  · exact s_set hN hi hx he hs hf
end
/-- a tuple that is to be known to have no dict (told: its slot and 9000 more) -/
def cEk (k : Nat) (C : CC) : Expr → Option IE
  | .Call (.Name x p) [a] [] q => if decide (btI C x = some .tuple) && pl a then (cE k C a).bind fun ia => some (.tupn ia) else none
  | .Tuple es _ _ => (cEs (cE k) C es).bind fun is => some (.tupk is)
  | _ => none
def cEk2 (k : Nat) (C : CC) : Expr → Option IE
  | .IfExp t (.Name y py) b _ => (cE k C t).bind fun it => (cE k C (.Name y py)).bind fun ia => (cEk k C b).bind fun ib => some (.ife it ia ib)
  | e => cEk k C e
def tryS (k : Nat) (C : CC) (rec : Stmt → IS) : Stmt → Option IS
  | .Assign [.Name x p] (.DictComp kx vx gens scope ep) _ => if swD C.sc scope ep p x then (if locOnly C x then (slot C x).bind fun i => (cDc (cE k) C (!C.mu.contains (i + 2000)) kx vx gens scope).bind fun ie => some (.set i (C.mu.contains i) ie) else none)
    else if locB C x then (slot C x).bind fun i => (cDc (cE k) C (!C.mu.contains (i + 2000)) kx vx gens scope).bind fun ie => some (.set i (C.mu.contains i) ie) else none
  | .Assign [.Name x _] (.Dict [] [] _) _ => if locB C x then (slot C x).bind fun i => some (.set i (C.mu.contains i) (.dnew (!C.mu.contains (i + 2000)))) else none
  | .Assign [.Name x p] e pos => if pl e && locB C x then (slot C x).bind fun i =>
      (if swB C.sc e x p pos.line then (match e with
        | .ListComp elt gens scope _ => if locOnly C x then (if C.mu.contains (i + 7000) then (cCr (cE k) C elt gens scope).bind fun ie => some (.set i false ie) else (cC (cE k) C elt gens scope).bind fun ie => some (.set i (C.mu.contains i) ie)) else none
        | _ => none)
      else if C.mu.contains (i + 9000) then (cEk2 k C e).bind fun ie => some (.set i false ie) else (cE k C e).bind fun ie => some (mvS C i ie)) else none
  | .Assign [.Tuple es kk pt] e pos => if pl e then (ssB C.sc [.Tuple es kk pt] e).bind fun o => (match o with
      | some names => (match es, e with
        | [.Name x _, .Name y _], .Tuple [a, b] _ _ => if decide (names = [x, y]) && (locOnly C x && locOnly C y) then (slot C x).bind fun i => (slot C y).bind fun j => (cEs (cE k) C [a, b]).bind fun is => if decide (i ≠ j) then some (.par [(i, C.mu.contains i), (j, C.mu.contains j)] is) else none else none
        | [.Name x _, .Name y _, .Name z _], .Tuple [a, b, c] _ _ => if decide (names = [x, y, z]) && (locOnly C x && (locOnly C y && locOnly C z)) then (slot C x).bind fun i => (slot C y).bind fun j => (slot C z).bind fun l => (cEs (cE k) C [a, b, c]).bind fun is =>
            if decide (i ≠ j) && (decide (i ≠ l) && decide (j ≠ l)) then some (.par [(i, C.mu.contains i), (j, C.mu.contains j), (l, C.mu.contains l)] is) else none else none
        | _, _ => none)
      | none => (match es with
        | [.Subscript (.Name x _) i _, .Name y _] => if pl i && locB C y then (varI C x).bind fun xi => (slot C y).bind fun yi => (cE k C i).bind fun ii => (cE k C e).bind fun ie => some (.setp xi ii yi ie) else none
        | [.Subscript (.Name x1 _) i1 _, .Subscript (.Name x2 _) i2 _, .Subscript (.Name x3 _) i3 _] => if pl i1 && (pl i2 && (pl i3 && (decide (x2 = x1) && decide (x3 = x1)))) then (varI C x1).bind fun xi => (cE k C i1).bind fun k1 => (cE k C i2).bind fun k2 => (cE k C i3).bind fun k3 => (cE k C e).bind fun ie => some (.set3 xi k1 k2 k3 ie) else none
        | [.Name x px, .Name y py] => (match e with
          | .Tuple [a, b] k2 pt2 => if hasM C x || hasM C y then (if locB C x && locB C y then (slot C x).bind fun i => (slot C y).bind fun j => (cEs (cE k) C [a, b]).bind fun is => if decide (i ≠ j) then some (.par [(i, C.mu.contains i), (j, C.mu.contains j)] is) else none else none)
            else (cT C 4 (.Tuple [.Name x px, .Name y py] kk pt)).bind fun t => (cE k C (.Tuple [a, b] k2 pt2)).bind fun ie => some (.unp t ie)
          | e => (cT C 4 (.Tuple [.Name x px, .Name y py] kk pt)).bind fun t => (cE k C e).bind fun ie => some (.unp t ie))
        | _ => (cT C 4 (.Tuple es kk pt)).bind fun t => (cE k C e).bind fun ie => some (.unp t ie))) else none
  | .Assign [.Subscript (.Name x _) i _] e pos => if pl e && pl i then (varI C x).bind fun xi => (cE k C i).bind fun ii => (cE k C e).bind fun ie => some (.seti xi ii ie) else none
  | .Assign [.Subscript o i _] e pos => if pl e && pl i then (cE k C o).bind fun io => (cE k C i).bind fun ii => (cE k C e).bind fun ie => some (.seto io ii ie) else none
  | .Expr e _ => if pl e && !isLC e then (cE k C e).bind fun ie => some (.ex ie) else none
  | .Return (some (.Call (.Name x p) [a] [] q)) _ => if C.mu.contains 8000 then (cE k C (.Call (.Name x p) [a] [] q)).bind fun ie => some (.retz ie) else if C.mu.contains 3000 && (decide (btI C x = some .tuple) && pl a) then (cE k C a).bind fun ia => some (.ret (.tupn ia)) else (cE k C (.Call (.Name x p) [a] [] q)).bind fun ie => some (.ret ie)
  | .Return (some e) _ => if C.mu.contains 8000 then (cE k C e).bind fun ie => some (.retz ie) else (cE k C e).bind fun ie => some (.ret ie)
  | .Return none _ => some .retn
  | .Pass _ => some .pass
  | .If c a b _ => (cE k C c).bind fun ic => some (.ite ic (cSs rec a) (cSs rec b))
  | .While c b [] _ => (cE k C c).bind fun ic => some (.while_ ic (cSs rec b))
  | .For tg it b [] _ => (cI (cE k) C tg it).bind fun i => (cT C 4 tg).bind fun t => some (.for_ t i (cSs rec b))
  | _ => none
def cS (k : Nat) (C : CC) : Nat → Stmt → IS
  | 0, _ => .stuck
  | m + 1, s => (tryS k C (cS k C m) s).getD .stuck

section
variable {X : Cx} {fa : Nat → Addr} {cf : Cf} {n W B : Nat} {C : CC}
theorem cC_set {rec : CC → Expr → Option IE} (hr : SdR fa cf n rec) (h : Cxt X fa cf n C) {elt : Expr} {gens : List Comprehension} {scope : Scope} {pos spos py : Pos} {i : IE} {j : Nat} {m : Bool} {y : Str} (hy : X.N[j]? = some y) (hyl : X.env.scope.names.lookup y = some .local)
    (hsw : swapsWith (.ListComp elt gens scope pos) (some (.Name y py)) spos.line X.env = pure true) (c : cC rec C elt gens scope = some i) : St1 X fa cf W B (.Assign [.Name y py] (.ListComp elt gens scope pos) spos) (.set j m i) := by
  unfold cC at c
  split at c
  · rename_i hb
    have ok : BlkOk X.N X.env.scope scope (ownI C scope) := by rw [h.hN, h.sc]; exact blkOk_by hb
    have nd : X.N.Nodup := by rw [h.hN]; exact h.nd
    split at c
    · rename_i tg iter ifs
      simp only [Option.bind_eq_some_iff] at c
      obtain ⟨it, e1, t, e2, is, e3, e, e4, c⟩ := c
      split at c
      · rename_i hc
        cases c
        rw [Bool.and_eq_true, decide_eq_true_eq] at hc
        obtain ⟨h1, h2⟩ := cI_ok hr h e1
        exact s_setLc1 h.calm nd hy hyl hsw h1 ok (own_mem hc.1) (fun s H Ca cl fp => cT_ok e2 _ (h.blk scope s H Ca cl fp)) (fun s H Ca cl fp => ts_ok hr (h.blk scope s H Ca cl fp) e3 hc.2) (fun s H Ca cl fp => (hr _ _ _ e4 _ (h.blk scope s H Ca cl fp)).1) (h2 _)
      · cases c
    · rename_i tg iter ifs tg1 iter1 ifs1
      simp only [Option.bind_eq_some_iff] at c
      obtain ⟨it, e1, t, e2, is, e3, e, e4, it1, e5, t1, e6, is1, e7, c⟩ := c
      split at c
      · rename_i hc
        cases c
        simp only [Bool.and_eq_true, decide_eq_true_eq] at hc
        obtain ⟨h1, h2⟩ := cI_ok hr h e1
        exact s_setLc2 h.calm nd hy hyl hsw h1 ok (own_mem hc.1) (own_mem hc.2.1) (fun s H Ca cl fp => cT_ok e2 _ (h.blk scope s H Ca cl fp)) (fun s H Ca cl fp => ts_ok hr (h.blk scope s H Ca cl fp) e3 hc.2.2.1)
          (fun s H Ca cl fp => (cI_ok hr (h.blk scope s H Ca cl fp) e5).1) (fun s H Ca cl fp => cT_ok e6 _ (h.blk scope s H Ca cl fp)) (fun s H Ca cl fp => ts_ok hr (h.blk scope s H Ca cl fp) e7 hc.2.2.2)
          (fun s H Ca cl fp => (hr _ _ _ e4 _ (h.blk scope s H Ca cl fp)).1) (h2 _) (cI_pl e5)
      · cases c
    · cases c
  · cases c
theorem s_setLcr {i : Nat} {m : Bool} {y : Str} {py spos pos : Pos} {elt tg iter : Expr} {scope : Scope} {own : List (Str × Nat)} {it : It} {t : Tg} {ie : IE} (hc : X.calm = true) (hN : X.N.Nodup) (hy : X.N[i]? = some y) (hyl : X.env.scope.names.lookup y = some .local)
    (hsw : swapsWith (.ListComp elt [⟨tg, iter, [], 0⟩] scope pos) (some (.Name y py)) spos.line X.env = pure true) (hi : I X fa cf tg iter it) (ok : BlkOk X.N X.env.scope scope own) (ht : ∀ j ∈ tgn t, j ∈ own.map (·.2))
    (hg : ∀ (s : Shared) (H : Hp) (C : Addr) (cl : List (Str × Addr)) (fp : List Addr), G (X.blk s H scope (compEnvC scope cl C X.env) fp) fa tg t)
    (he : ∀ (s : Shared) (H : Hp) (C : Addr) (cl : List (Str × Addr)) (fp : List Addr), E (X.blk s H scope (compEnvC scope cl C X.env) fp) fa cf elt ie) (hs : ∀ x, foldedSetIterable iter X.env x = pure x) :
    St1 X fa cf W B (.Assign [.Name y py] (.ListComp elt [⟨tg, iter, [], 0⟩] scope pos) spos) (.set i m (.compr ie (own.map (·.2)) t it)) :=
  PS.imp (ps_setLc hc hN hy hyl hsw hi ok hg (fun s H C cl fp => sts_nil) he hs) fun De σ H h => lcr_one ht (set_core h)
theorem cCr_set {rec : CC → Expr → Option IE} (hr : SdR fa cf n rec) (h : Cxt X fa cf n C) {elt : Expr} {gens : List Comprehension} {scope : Scope} {pos spos py : Pos} {i : IE} {j : Nat} {m : Bool} {y : Str} (hy : X.N[j]? = some y) (hyl : X.env.scope.names.lookup y = some .local)
    (hsw : swapsWith (.ListComp elt gens scope pos) (some (.Name y py)) spos.line X.env = pure true) (c : cCr rec C elt gens scope = some i) : St1 X fa cf W B (.Assign [.Name y py] (.ListComp elt gens scope pos) spos) (.set j m i) := by
  unfold cCr at c
  split at c
  · rename_i hb
    have ok : BlkOk X.N X.env.scope scope (ownI C scope) := by rw [h.hN, h.sc]; exact blkOk_by hb
    have nd : X.N.Nodup := by rw [h.hN]; exact h.nd
    split at c
    · rename_i tg iter
      simp only [Option.bind_eq_some_iff] at c
      obtain ⟨it, e1, t, e2, e, e4, c⟩ := c
      split at c
      · rename_i hc
        cases c
        obtain ⟨h1, h2⟩ := cI_ok hr h e1
        exact s_setLcr h.calm nd hy hyl hsw h1 ok (own_mem hc) (fun s H Ca cl fp => cT_ok e2 _ (h.blk scope s H Ca cl fp)) (fun s H Ca cl fp => (hr _ _ _ e4 _ (h.blk scope s H Ca cl fp)).1) (h2 _)
      · cases c
    · cases c
  · cases c
theorem cDc_set {rec : CC → Expr → Option IE} (hr : SdR fa cf n rec) (h : Cxt X fa cf n C) {kx vx : Expr} {gens : List Comprehension} {scope : Scope} {pos spos py : Pos} {i : IE} {j : Nat} {m t : Bool} {y : Str} (hy : X.N[j]? = some y) (hyl : X.env.scope.names.lookup y = some .local)
    (hsw : swapsWith (.DictComp kx vx gens scope pos) (some (.Name y py)) spos.line X.env = pure true) (c : cDc rec C t kx vx gens scope = some i) : St1 X fa cf W B (.Assign [.Name y py] (.DictComp kx vx gens scope pos) spos) (.set j m i) := by
  unfold cDc at c
  split at c
  · rename_i hb
    have ok : BlkOk X.N X.env.scope scope (ownI C scope) := by rw [h.hN, h.sc]; exact blkOk_by hb
    have nd : X.N.Nodup := by rw [h.hN]; exact h.nd
    split at c
    · rename_i tg iter ifs
      simp only [Option.bind_eq_some_iff] at c
      obtain ⟨it, e1, g, e2, is, e3, ik, e4, iv, e5, c⟩ := c
      split at c
      · rename_i hc
        cases c
        rw [Bool.and_eq_true, decide_eq_true_eq] at hc
        obtain ⟨h1, h2⟩ := cI_ok hr h e1
        exact s_setDc h.units h.calm nd hy hyl hsw h1 ok (own_mem hc.1) (fun s H Ca cl fp => cT_ok e2 _ (h.blk scope s H Ca cl fp)) (fun s H Ca cl fp => ts_ok hr (h.blk scope s H Ca cl fp) e3 hc.2) (fun s H Ca cl fp => (hr _ _ _ e4 _ (h.blk scope s H Ca cl fp)).1) (fun s H Ca cl fp => (hr _ _ _ e5 _ (h.blk scope s H Ca cl fp)).1) (h2 _)
      · cases c
    · cases c
  · cases c
theorem cDc_ok {rec : CC → Expr → Option IE} (hr : SdR fa cf n rec) (h : Cxt X fa cf n C) {kx vx : Expr} {gens : List Comprehension} {scope : Scope} {pos : Pos} {i : IE} {t : Bool} (c : cDc rec C t kx vx gens scope = some i) : E X fa cf (.DictComp kx vx gens scope pos) i := by
  unfold cDc at c
  split at c
  · rename_i hb
    have ok : BlkOk X.N X.env.scope scope (ownI C scope) := by rw [h.hN, h.sc]; exact blkOk_by hb
    have nd : X.N.Nodup := by rw [h.hN]; exact h.nd
    split at c
    · rename_i tg iter ifs
      simp only [Option.bind_eq_some_iff] at c
      obtain ⟨it, e1, g, e2, is, e3, ik, e4, iv, e5, c⟩ := c
      split at c
      · rename_i hc
        cases c
        rw [Bool.and_eq_true, decide_eq_true_eq] at hc
        obtain ⟨h1, h2⟩ := cI_ok hr h e1
        exact se_dc h.units h.calm nd h1 ok (own_mem hc.1) (fun s H Ca cl fp => cT_ok e2 _ (h.blk scope s H Ca cl fp)) (fun s H Ca cl fp => ts_ok hr (h.blk scope s H Ca cl fp) e3 hc.2) (fun s H Ca cl fp => (hr _ _ _ e4 _ (h.blk scope s H Ca cl fp)).1) (fun s H Ca cl fp => (hr _ _ _ e5 _ (h.blk scope s H Ca cl fp)).1) (h2 _)
      · cases c
    · cases c
  · cases c
theorem cSs_ok {rec : Stmt → IS} (hr : ∀ s, St1 X fa cf W B s (rec s)) : ∀ ss : List Stmt, Sts X fa cf W B ss (cSs rec ss)
  | [] => ss_nil
  | s :: r => ss_cons (hr s) (cSs_ok hr r)
theorem Cxt.only (h : Cxt X fa cf n C) {x : Str} (l : locOnly C x = true) : X.env.scope.names.lookup x = some .local := by rw [h.sc]; exact of_decide_eq_true l
theorem cEk_ok {k : Nat} (hE : SdR fa cf n (cE k)) (h : Cxt X fa cf n C) {e : Expr} {ie : IE} (c : cEk k C e = some ie) : E X fa cf e ie := by
  unfold cEk at c
  split at c
  · split at c
    · rename_i hc
      rw [Bool.and_eq_true, decide_eq_true_eq] at hc
      simp only [Option.bind_eq_some_iff] at c
      obtain ⟨ia, e3, e4⟩ := c
      cases e4
      exact tupn_call hE h hc.1 hc.2 e3
    · cases c
  · simp only [Option.bind_eq_some_iff] at c
    obtain ⟨is, e3, e4⟩ := c
    cases e4
    exact se_tupk (cEs_ok hE h e3).1
  · cases c
theorem cEk2_ok {k : Nat} (hE : SdR fa cf n (cE k)) (h : Cxt X fa cf n C) {e : Expr} {ie : IE} (c : cEk2 k C e = some ie) : E X fa cf e ie := by
  unfold cEk2 at c
  split at c
  · simp only [Option.bind_eq_some_iff] at c
    obtain ⟨it, e1, ia, e2, ib, e3, e4⟩ := c
    cases e4
    exact se_ife (hE _ _ _ e1 X h).2 (hE _ _ _ e2 X h).1 (cEk_ok hE h e3)
  · exact cEk_ok hE h c
theorem tryS_ok (h : Cxt X fa cf n C) (hp : PassesOwn (model X.prog X.w) X.A X.env X.xe) {k : Nat} {rec : Stmt → IS} (hr : ∀ s, St1 X fa cf W B s (rec s)) : ∀ (s : Stmt) (i : IS), tryS k C rec s = some i → St1 X fa cf W B s i := by
  have hE : SdR fa cf n (cE k) := cE_ok k
  have nd : X.N.Nodup := by rw [h.hN]; exact h.nd
  have sl : ∀ {x : Str} {i : Nat}, slot C x = some i → X.N[i]? = some x := fun e => by rw [h.hN]; exact (slot_ok e).1
  intro s i c
  unfold tryS at c
  split at c
  · split at c
    · rename_i x p kx vx gens scope ep pos hs
      split at c
      · rename_i hc
        simp only [Option.bind_eq_some_iff] at c
        obtain ⟨j, e1, ie, e2, e3⟩ := c
        cases e3
        exact cDc_set hE h (sl e1) (h.only hc) (by rw [swD_ok, h.sc, hs]) e2
      · cases c
    · rename_i x p kx vx gens scope ep pos hs
      split at c
      · rename_i hc
        simp only [Option.bind_eq_some_iff] at c
        obtain ⟨j, e1, ie, e2, e3⟩ := c
        cases e3
        obtain ⟨l1, l2⟩ := h.loc hc
        simp only [Bool.not_eq_true] at hs
        exact s_set nd (sl e1) l1 (cDc_ok hE h e2) (by rw [swD_ok, h.sc, hs]) l2
      · cases c
  · split at c
    · rename_i x p dp pos hc
      simp only [Option.bind_eq_some_iff] at c
      obtain ⟨j, e1, e3⟩ := c
      cases e3
      obtain ⟨l1, l2⟩ := h.loc hc
      exact s_set nd (sl e1) l1 (se_dnew _) rfl l2
    · cases c
  · split at c
    · rename_i x p e pos hc
      rw [Bool.and_eq_true] at hc
      simp only [Option.bind_eq_some_iff] at c
      obtain ⟨j, e1, c⟩ := c
      obtain ⟨l1, l2⟩ := h.loc hc.2
      split at c
      · rename_i hsw
        split at c
        · split at c
          · rename_i hl
            split at c
            · simp only [Option.bind_eq_some_iff] at c
              obtain ⟨ie, e2, e3⟩ := c
              cases e3
              refine cCr_set hE h (sl e1) (h.only hl) ?_ e2
              rw [swB_ok hc.1, h.sc, hsw]
            · simp only [Option.bind_eq_some_iff] at c
              obtain ⟨ie, e2, e3⟩ := c
              cases e3
              refine cC_set hE h (sl e1) (h.only hl) ?_ e2
              rw [swB_ok hc.1, h.sc, hsw]
          · cases c
        · cases c
      · rename_i hsw
        simp only [Bool.not_eq_true] at hsw
        split at c
        · simp only [Option.bind_eq_some_iff] at c
          obtain ⟨ie, e2, e3⟩ := c
          cases e3
          refine s_set nd (sl e1) l1 (cEk2_ok hE h e2) ?_ l2
          rw [swB_ok hc.1, h.sc, hsw]
        simp only [Option.bind_eq_some_iff] at c
        obtain ⟨ie, e2, e3⟩ := c
        cases e3
        refine s_mvS nd (sl e1) l1 (hE _ _ _ e2 X h).1 ?_ l2
        rw [swB_ok hc.1, h.sc, hsw]
    · cases c
  · rename_i es kk pt e pos
    split at c
    · rename_i hpl
      simp only [Option.bind_eq_some_iff] at c
      obtain ⟨o, e1, c⟩ := c
      have hw : swappedStores [.Tuple es kk pt] e X.env = pure o := ssB_ok (by rw [h.sc]; exact e1)
      have hs : swapsWithSole [.Tuple es kk pt] e pos.line X.env = pure false := sw_sole hpl (by intro _ _ z; cases z)
      split at c
      · split at c
        · split at c
          · rename_i hc
            simp only [Bool.and_eq_true, decide_eq_true_eq] at hc
            obtain ⟨rfl, hx, hy⟩ := hc
            simp only [Option.bind_eq_some_iff] at c
            obtain ⟨i0, s1, j0, s2, is, e2, c⟩ := c
            split at c
            · rename_i hij
              cases c
              exact s_par2 h.calm nd (sl s1) (sl s2) (of_decide_eq_true hij) (h.only hx) (h.only hy) (cEs_ok hE h e2).1 hw hs
            · cases c
          · cases c
        · split at c
          · rename_i hc
            simp only [Bool.and_eq_true, decide_eq_true_eq] at hc
            obtain ⟨rfl, hx, hy, hz⟩ := hc
            simp only [Option.bind_eq_some_iff] at c
            obtain ⟨i0, s1, j0, s2, l0, s3, is, e2, c⟩ := c
            split at c
            · rename_i hij
              simp only [Bool.and_eq_true, decide_eq_true_eq] at hij
              cases c
              exact s_par3 h.calm nd (sl s1) (sl s2) (sl s3) hij.1 hij.2.1 hij.2.2 (h.only hx) (h.only hy) (h.only hz) (cEs_ok hE h e2).1 hw hs
            · cases c
          · cases c
        · cases c
      · split at c
        · split at c
          · rename_i hc
            rw [Bool.and_eq_true] at hc
            simp only [Option.bind_eq_some_iff] at c
            obtain ⟨xi, s1, yi, s2, ii, e2, ie, e3, e4⟩ := c
            cases e4
            obtain ⟨l1, l2⟩ := h.loc hc.2
            exact s_setp h.units h.calm nd (sl s2) l1 l2 (hE _ _ _ e3 X h).1 (h.var s1).1 (hE _ _ _ e2 X h).1 hs hw (pl_asg hc.1)
          · cases c
        · split at c
          · rename_i hc
            simp only [Bool.and_eq_true, decide_eq_true_eq] at hc
            obtain ⟨c1, c2, c3, c4, c5⟩ := hc
            subst c4 c5
            simp only [Option.bind_eq_some_iff] at c
            obtain ⟨xi, s1, k1, e1, k2, e2, k3, e3, ie, e4, e5⟩ := c
            cases e5
            refine s_set3 h.units h.calm (hE _ _ _ e4 X h).1 (h.var s1).1 (h.var s1).1 (h.var s1).1 (hE _ _ _ e1 X h).1 (hE _ _ _ e2 X h).1 (hE _ _ _ e3 X h).1 hs hw fun o i p0 hm => ?_
            simp only [List.mem_cons, List.not_mem_nil, or_false, Prod.mk.injEq] at hm
            rcases hm with ⟨rfl, rfl⟩ | ⟨rfl, rfl⟩ | ⟨rfl, rfl⟩
            · exact pl_asg c1
            · exact pl_asg c2
            · exact pl_asg c3
          · cases c
        · split at c
          · split at c
            · split at c
              · rename_i hl
                rw [Bool.and_eq_true] at hl
                simp only [Option.bind_eq_some_iff] at c
                obtain ⟨i0, s1, j0, s2, is, e2, c⟩ := c
                split at c
                · rename_i hij
                  cases c
                  obtain ⟨l1, l2⟩ := h.loc hl.1
                  obtain ⟨l3, l4⟩ := h.loc hl.2
                  exact s_parT h.calm nd (sl s1) (sl s2) (of_decide_eq_true hij) l1 l2 l3 l4 (cEs_ok hE h e2).1 hw hs
                · cases c
              · cases c
            · simp only [Option.bind_eq_some_iff] at c
              obtain ⟨t, e2, ie, e3, e4⟩ := c
              cases e4
              exact s_unp (hE _ _ _ e3 X h).1 (cT_ok e2 X h) hs hw rfl
          · simp only [Option.bind_eq_some_iff] at c
            obtain ⟨t, e2, ie, e3, e4⟩ := c
            cases e4
            exact s_unp (hE _ _ _ e3 X h).1 (cT_ok e2 X h) hs hw rfl
        · simp only [Option.bind_eq_some_iff] at c
          obtain ⟨t, e2, ie, e3, e4⟩ := c
          cases e4
          exact s_unp (hE _ _ _ e3 X h).1 (cT_ok e2 X h) hs hw rfl
    · cases c
  · split at c
    · rename_i hc
      rw [Bool.and_eq_true] at hc
      simp only [Option.bind_eq_some_iff] at c
      obtain ⟨xi, s1, ii, e2, ie, e3, e4⟩ := c
      cases e4
      exact s_seti h.units (hE _ _ _ e3 X h).1 (h.var s1).1 (hE _ _ _ e2 X h).1 (sw_sole hc.1 (by intro _ _ z; cases z)) (ssB_ok rfl) rfl (pl_asg hc.2)
    · cases c
  · split at c
    · rename_i hc
      rw [Bool.and_eq_true] at hc
      simp only [Option.bind_eq_some_iff] at c
      obtain ⟨io, e1, ii, e2, ie, e3, e4⟩ := c
      cases e4
      exact s_seto h.units (hE _ _ _ e3 X h).1 (hE _ _ _ e1 X h).1 (hE _ _ _ e2 X h).1 (sw_sole hc.1 (by intro _ _ z; cases z)) (ssB_ok rfl) rfl (pl_asg hc.2)
    · cases c
  · split at c
    · rename_i hc
      rw [Bool.and_eq_true, Bool.not_eq_true'] at hc
      simp only [Option.bind_eq_some_iff] at c
      obtain ⟨ie, e3, e4⟩ := c
      cases e4
      exact s_ex (hE _ _ _ e3 X h).1 (sw_none hc.1 hc.2)
    · cases c
  · split at c
    · simp only [Option.bind_eq_some_iff] at c
      obtain ⟨ie, e3, e4⟩ := c
      cases e4
      exact s_retz (hE _ _ _ e3 X h).1
    · split at c
      · rename_i hc
        simp only [Bool.and_eq_true, decide_eq_true_eq] at hc
        simp only [Option.bind_eq_some_iff] at c
        obtain ⟨ia, e3, e4⟩ := c
        cases e4
        exact s_ret (tupn_call hE h hc.2.1 hc.2.2 e3)
      · simp only [Option.bind_eq_some_iff] at c
        obtain ⟨ie, e3, e4⟩ := c
        cases e4
        exact s_ret (hE _ _ _ e3 X h).1
  · split at c
    · simp only [Option.bind_eq_some_iff] at c
      obtain ⟨ie, e3, e4⟩ := c
      cases e4
      exact s_retz (hE _ _ _ e3 X h).1
    · simp only [Option.bind_eq_some_iff] at c
      obtain ⟨ie, e3, e4⟩ := c
      cases e4
      exact s_ret (hE _ _ _ e3 X h).1
  · cases c; exact s_retn
  · cases c; exact s_pass
  · simp only [Option.bind_eq_some_iff] at c
    obtain ⟨ie, e3, e4⟩ := c
    cases e4
    exact s_ite (hE _ _ _ e3 X h).2 (cSs_ok hr _) (cSs_ok hr _)
  · simp only [Option.bind_eq_some_iff] at c
    obtain ⟨ie, e3, e4⟩ := c
    cases e4
    exact s_while hp (hE _ _ _ e3 X h).2 (cSs_ok hr _)
  · simp only [Option.bind_eq_some_iff] at c
    obtain ⟨it, e3, t, e4, e5⟩ := c
    cases e5
    obtain ⟨i1, i2⟩ := cI_ok hE h e3
    exact s_for hp h.calm i1 (cT_ok e4 X h) (cSs_ok hr _) (i2 _)
  · cases c
theorem cS_ok (h : Cxt X fa cf n C) (hp : PassesOwn (model X.prog X.w) X.A X.env X.xe) {k : Nat} : ∀ (m : Nat) (s : Stmt), St1 X fa cf W B s (cS k C m s)
  | 0, s => s_stuck
  | m + 1, s => by
    unfold cS
    cases e : tryS k C (cS k C m) s with
    | none => exact s_stuck
    | some i => exact tryS_ok h hp (cS_ok h hp m) s i e
end
end Ip

set_option Elab.async false
set_option linter.all false
set_option maxRecDepth 100000
set_option maxHeartbeats 1000000
/-! A def's frame; the table of defs. -/
namespace Ip
open PySem PySem.Spec PyProof.Rows L2

section
variable {K : PySem.W.Frag} {fa μ μ0 : Nat → Addr} {n B : Nat} {H0 H H' : Hp} {M M' : Mk} {S S' : Store} {rs : List Ip.R} {vs : List V} {as : List Addr}
/-- the frame's first state -/
theorem fr_start {mu : List Bool} {N : List Str} (p : RS K μ H M S) (q : RRL K fa μ S.length H0 H M rs vs as) (hd : ∀ a ∈ as, ∀ k, k < S.length → a ≠ μ k) (hl : mu.length = rs.length) (ho : ∀ r ∈ rs, okA r = true) (hN : rs.length ≤ N.length) :
    ∃ μ' M', Fr K fa S.length μ (rm H as) (rmM M as) μ' H M' (ent mu rs S).2 ((ent mu rs S).1 ++ List.replicate (N.length - rs.length) none) (L2.start N vs) := by
  obtain ⟨m1, m2, m3, m4⟩ := ent_mem q hl
  obtain ⟨s1, s2⟩ := ent_store q S hl
  generalize hA : entA mu rs vs = A at *
  generalize hDe : entD mu rs vs = De at *
  have hvl := q.length
  refine ⟨fun k => if k < S.length then μ k else ((A[k - S.length]?).map (·.2)).getD 0, fun b => M b ∧ b ∉ De, ?_⟩
  have hM : ∀ b, (M b ∧ b ∉ De) → M b := fun b z => z.1
  have old : ∀ k, k < S.length → (if k < S.length then μ k else ((A[k - S.length]?).map (·.2)).getD 0) = μ k := fun k h => if_pos h
  have new : ∀ (j : Nat) (p : D × Addr), A[j]? = some p → (if S.length + j < S.length then μ (S.length + j) else ((A[S.length + j - S.length]?).map (·.2)).getD 0) = p.2 := fun j p h => by
    rw [if_neg (by omega), Nat.add_sub_cancel_left, h]; rfl
  have kN : ∀ {a : Addr} {x : D}, Pl K H M a x → Pl K H (fun b => M b ∧ b ∉ De) a x := fun c => c.mono (fun _ _ e _ => e) (fun b _ _ z => z.1) fun _ e => e
  have dis : ∀ k, k < S.length → μ k ∉ De := fun k h z => hd _ (m2 _ z) k h rfl
  have at_ : ∀ k, S.length ≤ k → k < (ent mu rs S).2.length → ∃ p, A[k - S.length]? = some p ∧ p ∈ A := fun k h1 h2 => by
    rw [s1, List.length_append, List.length_map] at h2
    have hlt : k - S.length < A.length := by omega
    exact ⟨_, List.getElem?_eq_getElem hlt, List.getElem_mem hlt⟩
  have newk : ∀ k, S.length ≤ k → ∀ p, A[k - S.length]? = some p → (if k < S.length then μ k else ((A[k - S.length]?).map (·.2)).getD 0) = p.2 := fun k h p e => by rw [if_neg (by omega), e]; rfl
  have stt : ∀ (k : Nat) (x : D), (ent mu rs S).2[k]? = some x → (M (if k < S.length then μ k else ((A[k - S.length]?).map (·.2)).getD 0) ∧ (if k < S.length then μ k else ((A[k - S.length]?).map (·.2)).getD 0) ∉ De) ∧ Pl K H (fun b => M b ∧ b ∉ De) (if k < S.length then μ k else ((A[k - S.length]?).map (·.2)).getD 0) x := fun k x e => by
    by_cases h : k < S.length
    · rw [s1, List.getElem?_append_left h] at e
      rw [old k h]
      obtain ⟨h1, h2⟩ := p.st k x e
      exact ⟨⟨h1, dis k h⟩, kN h2⟩
    · obtain ⟨p0, h1, h2⟩ := at_ k (by omega) (List.getElem?_eq_some_iff.mp e).1
      rw [newk k (by omega) p0 h1]
      rw [s1, List.getElem?_append_right (by omega)] at e
      obtain ⟨p1, h3, h4⟩ := map_ofst e
      rw [h1] at h3; cases h3
      subst h4
      obtain ⟨j1, j2, j3⟩ := m1 p0 h2
      exact ⟨⟨j2, m4 p0 h2⟩, kN (.inr j3)⟩
  refine ⟨⟨⟨fun b z => p.dom b z.1, stt, fun k m hk hm e => ?_⟩, old, fun k h1 h2 => ?_, ?_, by rw [s1, List.length_append]; omega, fun b z => by rw [rm_of z.2]; exact p.dom b z.1⟩, ⟨?_, fun i r e => ?_⟩, fun i j m hm e1 e2 => ?_, fun i j m ks hm e1 e2 => ?_⟩
  · by_cases h : k < S.length
    · by_cases h' : m < S.length
      · rw [old k h, old m h'] at e; exact p.inj k m h h' e
      · obtain ⟨p0, h1, h2⟩ := at_ m (by omega) hm
        rw [old k h, newk m (by omega) p0 h1] at e
        exact absurd e.symm (hd _ (m1 p0 h2).1 k h)
    · obtain ⟨p0, h1, h2⟩ := at_ k (by omega) hk
      by_cases h' : m < S.length
      · rw [old m h', newk k (by omega) p0 h1] at e
        exact absurd e (hd _ (m1 p0 h2).1 m h')
      · obtain ⟨p1, h3, h4⟩ := at_ m (by omega) hm
        rw [newk k (by omega) p0 h1, newk m (by omega) p1 h3] at e
        have i1 : (A.map (·.2))[k - S.length]? = some p0.2 := by rw [List.getElem?_map, h1]; rfl
        have i2 : (A.map (·.2))[m - S.length]? = some p0.2 := by rw [List.getElem?_map, h3, e]; rfl
        have := (List.getElem?_inj (by rw [List.length_map]; exact (List.getElem?_eq_some_iff.mp h1).1) m3).mp (i1.trans i2.symm)
        omega
  · obtain ⟨p0, h3, h4⟩ := at_ k h1 h2
    rw [newk k h1 p0 h3]
    exact if_pos (m1 p0 h4).1
  · have e0 : (ent mu rs S).2.take S.length = S := by rw [s1]; simp
    rw [e0]
    refine ⟨fun b z => ⟨z.1, fun hb => z.2 (m2 b hb)⟩, fun b z => ?_, fun b z => p.dom b z.1, fun b o e _ => (rm_some e).2, fun b z => ?_, fun b o u e => (rm_some e).2, rfl, fun k x e => ?_⟩
    · by_cases hb : b ∈ as
      · exact .inr (if_pos hb)
      · exact .inl ⟨z.1, hb⟩
    · by_cases hb : b ∈ as
      · exact absurd (if_pos hb) z
      · rw [rm_of hb] at z; exact z
    · obtain ⟨h1, h2⟩ := p.st k x e
      exact ⟨⟨h1, dis k (List.getElem?_eq_some_iff.mp e).1⟩, kN h2⟩
  · unfold L2.start
    simp only [List.length_append, List.length_replicate, List.length_map, s2, hvl]
  · have hlen : i < (ent mu rs S).1.length := by
      by_cases h : i < (ent mu rs S).1.length
      · exact h
      · rw [List.getElem?_append_right (by omega)] at e
        by_cases h2 : i - (ent mu rs S).1.length < N.length - rs.length
        · rw [List.getElem?_replicate_of_lt h2] at e; cases e
        · rw [List.getElem?_eq_none (by rw [List.length_replicate]; omega)] at e; cases e
    rw [List.getElem?_append_left hlen] at e
    obtain ⟨⟨v, h1, h2⟩, _⟩ := ent_slots q (N := (ent mu rs S).2.length) (μ' := fun k => if k < S.length then μ k else ((A[k - S.length]?).map (·.2)).getD 0) (M' := fun b => M b ∧ b ∉ De) hM old (by rw [s1, List.length_append]; omega) (mu := mu) S hl (Nat.le_refl _) (fun j p hp => by
      rw [hA] at hp
      exact ⟨new j p hp, by rw [s1, List.length_append, List.length_map]; have := (List.getElem?_eq_some_iff.mp hp).1; omega⟩) (fun a ha z => by rw [hDe] at ha; exact z.2 ha) ho i r e
    refine ⟨v, ?_, h2⟩
    unfold L2.start
    rw [List.getElem?_append_left (by rw [List.length_map, hvl, ← s2]; exact hlen), List.getElem?_map, h1]
    rfl
  · have lt : ∀ {i : Nat}, ((ent mu rs S).1 ++ List.replicate (N.length - rs.length) none)[i]? = some (some (Ip.R.l m)) → (ent mu rs S).1[i]? = some (some (Ip.R.l m)) := fun {i} e => by
      by_cases h : i < (ent mu rs S).1.length
      · rwa [List.getElem?_append_left h] at e
      · rw [List.getElem?_append_right (by omega)] at e
        by_cases h2 : i - (ent mu rs S).1.length < N.length - rs.length
        · rw [List.getElem?_replicate_of_lt h2] at e; cases e
        · rw [List.getElem?_eq_none (by rw [List.length_replicate]; omega)] at e; cases e
    exact (ent_uq q S hl (Nat.le_refl _) i j m hm (lt e1) (lt e2)).2
  · exfalso
    by_cases h : j < (ent mu rs S).1.length
    · rw [List.getElem?_append_left h] at e2
      exact ent_nrw S ho j ks e2
    · rw [List.getElem?_append_right (by omega)] at e2
      by_cases h2 : j - (ent mu rs S).1.length < N.length - rs.length
      · rw [List.getElem?_replicate_of_lt h2] at e2; cases e2
      · rw [List.getElem?_eq_none (by rw [List.length_replicate]; omega)] at e2; cases e2
end

/-! ### the table -/
structure Df where
  nm : Str
  d : He.DefD
  ps : List Str
  N : List Str
  mu : List Bool
  ms : List Nat
def Df.cc (tab : List (Str × List Str)) (cs : List (Str × PyData)) (fr : List Str) (D : Df) : CC := ⟨D.N, D.d.scope, fun _ => true, tab, cs, fr, D.ms⟩
def tabOf (ds : List Df) : List (Str × List Str) := ds.map fun D => (D.nm, D.ps)
def Df.fn (tab : List (Str × List Str)) (cs : List (Str × PyData)) (fr : List Str) (k m : Nat) (D : Df) : Fn := ⟨D.ps.length, D.mu, D.N.length, cSs (cS k (D.cc tab cs fr) m) D.d.body⟩
def fnsOf (ds : List Df) (cs : List (Str × PyData)) (fr : List Str) (k m : Nat) : List Fn := ds.map (Df.fn (tabOf ds) cs fr k m)
def parB : Arguments → List Str → Bool
  | ⟨[], args, none, [], [], none, []⟩, ps => decide (args.map (·.arg) = ps)
  | _, _ => false
def Df.ok (D : Df) : Bool := parB D.d.params D.ps && (D.d.dfl.isEmpty && (D.d.kwd.isEmpty && (decide (D.d.scope.kind = .function) && (!D.d.scope.isCoroutine && (!D.d.scope.isGenerator && (decide D.N.Nodup && (decide (D.N.take D.ps.length = D.ps) &&
  (D.ps.all (fun x => decide (D.d.scope.names.lookup x = some .local ∨ D.d.scope.names.lookup x = some .cell)) && D.d.scope.names.all fun y => decide (y.2 ≠ .free)))))))))
theorem Df.scope {D : Df} (h : D.ok = true) : FnScope D.N D.ps D.d.scope := by
  simp only [Df.ok, Bool.and_eq_true, decide_eq_true_eq, List.all_eq_true, Bool.not_eq_true'] at h
  obtain ⟨_, _, _, h1, h2, h3, h4, h5, h6, h7⟩ := h
  exact ⟨h1, h2, h3, h4, h5, h6, h7⟩
theorem Df.par {D : Df} (h : D.ok = true) : ∃ args, D.d.params = ⟨[], args, none, [], [], none, []⟩ ∧ args.map (·.arg) = D.ps := by
  simp only [Df.ok, Bool.and_eq_true] at h
  have h := h.1
  unfold parB at h
  split at h
  · rename_i args e; exact ⟨args, e, of_decide_eq_true h⟩
  · cases h
theorem Df.nodup {D : Df} (h : D.ok = true) : D.ps.Nodup := by
  have s := Df.scope h
  rw [← s.pre]
  exact s.nd.sublist (List.take_sublist _ _)
section
variable {P : Program} {w : World} {K : PySem.W.Frag} {mg : Str → Option Value} {base : Heap} {fa : Nat → Addr} {cs : List (Str × PyData)} {fr : List Str} {ds : List Df} {k m W : Nat}
theorem binds_ok {D : Df} {fd : FuncData} {f : Addr} (ok : D.ok = true) (F : FunD K D.d.name D.d.qual D.d.params D.d.body D.d.scope [] [] f fd) (s : Shared) (us ws vals : List Value) (ks : List Str) (h1 : (D.ps.take us.length ++ ks).Nodup) (h2 : ∀ k ∈ ks, k ∈ D.ps) (h3 : us.length ≤ D.ps.length) (h4 : ks.length = ws.length) (h5 : vals.length = D.ps.length)
    (h6 : ∀ (i : Nat) (p : Str) (v : Value), D.ps[i]? = some p → vals[i]? = some v → ∃ j : Nat, (D.ps.take us.length ++ ks)[j]? = some p ∧ (us ++ ws)[j]? = some v) : BindsTo s fd ⟨us, ks.zip ws⟩ (D.ps.zip vals) := by
  obtain ⟨args, e1, e2⟩ := Df.par ok
  obtain ⟨oc, od, dV, kV, doc, pm, an, cdv, ct, osl, rfl, lk, hcd, hD, hK⟩ := F.ex
  rcases hD with ⟨_, rfl⟩ | ⟨e, _⟩
  · refine .of_eq ?_
    rw [e1, ← e2]
    have hl : args.length = D.ps.length := by rw [← e2, List.length_map]
    exact bind_all (by rw [e2]; exact h1) (by rw [e2]; exact h2) (by omega) h4 (by omega) (by rw [e2]; exact h6)
  · exact absurd rfl e
/-- THE TABLE: each def does what its reading does, at every level -/
theorem table (ok : ∀ D ∈ ds, D.ok = true) (hF : ∀ (i : Nat) (D : Df), ds[i]? = some D → ∃ fd, FunD K D.d.name D.d.qual D.d.params D.d.body D.d.scope [] [] (fa i) fd) (hG : ∀ (i : Nat) (D : Df), ds[i]? = some D → mg D.nm = some (.ref (fa i)))
    (hcs : ∀ (x : Str) (d : PyData), cs.lookup x = some d → ∃ u v, mg x = some u ∧ L2.RelV v u ∧ ∀ H M, Pu K H M v d) (hfr : ∀ x, (fr.any fun y => decide (y = x)) = true → mg x = none) :
    ∀ (n i : Nat) (D : Df), ds[i]? = some D → ∀ fd, FunD K D.d.name D.d.qual D.d.params D.d.body D.d.scope [] [] (fa i) fd → FnOk P w K mg base CX0 n (fa i) fd D.ps (spF K fa (run (fnsOf ds cs fr k m) W n) i D.ps.length) := by
  intro n
  induction n with
  | zero =>
    intro i D hi fd F
    refine ⟨fun vs H Q E h => h.1, fun A outer s H args us vs Q E _ _ _ _ h => ?_⟩
    obtain ⟨_, _, _, _, _, _, _, _, _, _, _, _, e, _⟩ := h
    simp [run] at e
  | succ n ih =>
    intro i D hi fd F
    have okD := ok D (List.mem_of_getElem? hi)
    have hfi : (fnsOf ds cs fr k m)[i]? = some (D.fn (tabOf ds) cs fr k m) := by unfold fnsOf; rw [List.getElem?_map, hi]; rfl
    refine F.ok (Df.scope okD) (fun vs H Q E h => h.1) (fun cdv A outer s H vs Q E hr h => ?_)
    obtain ⟨hv, μ, M, S, rs, as, r, S', H0, p, q, hd, e, hQ⟩ := h
    simp only [run, hfi, Option.bind_some] at e
    split at e
    · rename_i hl
      obtain ⟨⟨hl1, hl2⟩, hl3⟩ := hl
      simp only [Df.fn] at hl1 hl2 e
      simp only [Option.bind_eq_some_iff] at e
      obtain ⟨⟨o, S1⟩, e1, e2⟩ := e
      have hNl : rs.length ≤ D.N.length := by
        have := congrArg List.length (Df.scope okD).pre
        rw [List.length_take] at this; omega
      obtain ⟨μ', M', f0⟩ := fr_start (fa := fa) (mu := D.mu) (N := D.N) p q hd (by omega) (List.all_eq_true.mp hl3) hNl
      refine ⟨tSs K fa (run (fnsOf ds cs fr k m) W n) W S.length (cSs (cS k (D.cc (tabOf ds) cs fr) m) D.d.body), ?_, ?_⟩
      · have cx : Cxt (cxOf CX0 P w K mg base D.N D.d.qual D.d.scope (fa i) cdv A outer s H E) fa (run (fnsOf ds cs fr k m) W n) n (D.cc (tabOf ds) cs fr) := by
          refine ⟨rfl, (Df.scope okD).nd, rfl, fun _ _ => rfl, rfl, hr, fun j d hj => ?_, fun j rs S r S' e => ?_, hcs, hfr⟩
          · have hj0 : (tabOf ds)[j]? = some d := hj
            clear hj
            unfold tabOf at hj0
            rw [List.getElem?_map, Option.map_eq_some_iff] at hj0
            obtain ⟨D', hj, rfl⟩ := hj0
            obtain ⟨fd', F'⟩ := hF j D' hj
            have okD' := ok D' (List.mem_of_getElem? hj)
            exact ⟨hG j D' hj, ⟨fd', ih j D' hj fd' F', binds_ok okD' F'⟩, F'.kp, Df.nodup okD'⟩
          · cases n with
            | zero => simp [run] at e
            | succ n =>
              simp only [run, Option.bind_eq_some_iff] at e
              obtain ⟨F', e3, e4⟩ := e
              unfold fnsOf at e3
              rw [List.getElem?_map, Option.map_eq_some_iff] at e3
              obtain ⟨D', e3, rfl⟩ := e3
              split at e4
              · rename_i hl
                refine ⟨(D'.nm, D'.ps), ?_, hl.1.1⟩
                show (tabOf ds)[j]? = _
                unfold tabOf
                rw [List.getElem?_map, e3]; rfl
              · cases e4
        exact cSs_ok (fun st => cS_ok cx (passes_of rfl) m st) _
      · refine ⟨μ, rm H as, rmM M as, μ', M', (ent D.mu rs S).2, (ent D.mu rs S).1 ++ List.replicate (D.N.length - rs.length) none, [], o, S1, f0, fun n h => by simp at h, ?_, ?_⟩
        · rw [hl1]; exact e1
        · cases o with
          | nx σd' =>
            cases e2
            exact fun μ2 σ2 H2 M2 f2 _ => hQ _ _ M2 f2.go .non
          | rt r0 =>
            intro μ2 v H2 M2 f2 rr
            cases r0 with
            | l j =>
              obtain ⟨h1, rfl⟩ := rr
              simp only [leave] at e2
              split at e2
              · cases e2
                rename_i hj
                exact hQ _ _ M2 f2.go ⟨hj, by rw [f2.mu j hj]⟩
              · rename_i hj
                simp only [Option.bind_eq_some_iff, Option.map_eq_some_iff] at e2
                obtain ⟨x, e3, y, e5, e4⟩ := e2
                cases e4
                obtain ⟨g1, g2⟩ := f2.rs.st j x e3
                exact hQ _ _ M2 f2.go ⟨_, rfl, f2.own j (by omega) h1, g1, g2.ct e5⟩
            | d x => cases e2; exact hQ _ _ M2 f2.go rr
            | f x => cases e2; exact hQ _ _ M2 f2.go rr
            | fn j => cases e2; exact hQ _ _ M2 f2.go rr
            | s0 ns => cases e2; exact hQ _ _ M2 f2.go rr
            | fr xs => cases e2; exact hQ _ _ M2 f2.go rr
            | rw ks => cases e2
    · cases e
end
end Ip

set_option Elab.async false
set_option linter.all false
set_option maxRecDepth 100000
set_option maxHeartbeats 1000000
/-! From the head to a law. -/
namespace Ip
open PySem PySem.Spec PyProof.Rows L2

def csFa : List (Str × PyData) → List He.Fa
  | [] => []
  | (x, .int i) :: r => .int x i :: csFa r
  | (x, .str z) :: r => .str x z :: csFa r
  | (x, .tuple _) :: r => .glo x :: csFa r
  | _ :: r => csFa r
def csOk : PyData → Bool
  | .int _ => true
  | .str _ => true
  | .tuple ds => (match strsOf ds with | some (_ :: _) => true | _ => false)
  | _ => false
/-- the module's tuples of texts -/
def tupsOk (cs : List (Str × PyData)) (K : PySem.W.Frag) : Bool := cs.all fun c => match c.2 with
  | .tuple ds => (match strsOf ds with | some zs => He.tupB K c.1 (zs.map .str) | none => false)
  | _ => true
def obI (n : Nat) (fa : List He.Fa) (fn : List He.DefD) (cs : List (Str × PyData)) (g : Addr → Option Obj) : He.AlD × Bool := (fun K => (He.obsD fa fn K, tupsOk cs K)) (He.frG g (He.asD g n))
/-- the head's look: the kit's, and the tuples of texts -/
def hookI (n : Nat) (fa : List He.Fa) (fn : List He.DefD) (cs : List (Str × PyData)) : PySem.W.Hook where
  α := He.AlD × Bool
  obs := fun s => obI n fa fn cs s.heap.get?
  val := fun _ => (He.valD fn, true)
  says := fun _ h => ∃ K : PySem.W.Frag, K.In h ∧ He.SaysD fa fn K ∧ tupsOk cs K = true
  of := fun _ _ e => ⟨_, He.frG_in, congrArg Prod.fst e, congrArg Prod.snd e⟩
  keeps := fun _ _ _ ⟨K, hK, c⟩ k => ⟨K, PySem.W.Frag.In.keeps hK k, c⟩
theorem obI_eq {n : Nat} {fa : List He.Fa} {fn : List He.DefD} {cs : List (Str × PyData)} {g : Addr → Option Obj} {s : Shared} (h : ∀ a, g a = s.heap.get? a) : obI n fa fn cs g = (hookI n fa fn cs).obs s := by
  have e : g = s.heap.get? := funext h
  rw [e] <;> rfl
theorem strsOf_map : ∀ {ds : List D} {zs : List Str}, strsOf ds = some zs → ds = zs.map PyData.str
  | [], zs, e => by cases e; rfl
  | .str i :: r, zs, e => by
    simp only [strsOf, Option.map_eq_some_iff] at e
    obtain ⟨ms, e, rfl⟩ := e
    rw [strsOf_map e]; rfl
  | .none :: _, _, e => by simp [strsOf] at e
  | .bool _ :: _, _, e => by simp [strsOf] at e
  | .int _ :: _, _, e => by simp [strsOf] at e
  | .list _ :: _, _, e => by simp [strsOf] at e
  | .tuple _ :: _, _, e => by simp [strsOf] at e
  | .dict _ :: _, _, e => by simp [strsOf] at e
def faOf (ds : List Df) (cs : List (Str × PyData)) (fr : List Str) : List He.Fa := ds.map (fun D => He.Fa.glo D.nm) ++ fr.map He.Fa.free ++ csFa cs
theorem strsOf_of : ∀ zs : List Str, strsOf (zs.map PyData.str) = some zs
  | [] => rfl
  | z :: r => by rw [List.map_cons, strsOf, strsOf_of r]; rfl
theorem csFa_mem {x : Str} {d : PyData} : ∀ {cs : List (Str × PyData)}, (x, d) ∈ cs → csOk d = true → (∃ i, d = .int i ∧ He.Fa.int x i ∈ csFa cs) ∨ (∃ z, d = .str z ∧ He.Fa.str x z ∈ csFa cs) ∨ (∃ z zs, d = .tuple ((z :: zs).map .str) ∧ He.Fa.glo x ∈ csFa cs)
  | [], h, _ => by simp at h
  | (y, e) :: r, h, hd => by
    rcases List.mem_cons.mp h with h | h
    · cases h
      cases d with
      | int i => exact .inl ⟨i, rfl, List.mem_cons_self ..⟩
      | str z => exact .inr (.inl ⟨z, rfl, List.mem_cons_self ..⟩)
      | tuple ds =>
        have hd2 : (match strsOf ds with | some (_ :: _) => true | _ => false) = true := hd
        cases hz : strsOf ds with
        | none => rw [hz] at hd2; cases hd2
        | some zs =>
          cases zs with
          | nil => rw [hz] at hd2; cases hd2
          | cons z zs => exact .inr (.inr ⟨z, zs, by rw [strsOf_map hz], List.mem_cons_self ..⟩)
      | _ => simp [csOk] at hd
    · have ih := csFa_mem (cs := r) h hd
      have sub : ∀ f, f ∈ csFa r → f ∈ csFa ((y, e) :: r) := fun f hf => by
        cases e <;> first | exact List.mem_cons_of_mem _ hf | exact hf
      rcases ih with ⟨i, h1, h2⟩ | ⟨z, h1, h2⟩ | ⟨z, zs, h1, h2⟩
      · exact .inl ⟨i, h1, sub _ h2⟩
      · exact .inr (.inl ⟨z, h1, sub _ h2⟩)
      · exact .inr (.inr ⟨z, zs, h1, sub _ h2⟩)
theorem fact_mem {fas : List He.Fa} {fn : List He.DefD} {K : PySem.W.Frag} (c : He.SaysD fas fn K) {f : He.Fa} (h : f ∈ fas) : f.ok K = true := by
  obtain ⟨i, e⟩ := List.getElem?_of_mem h
  exact c.fact i e
def Df.at (D : Df) : Bool := decide (D.d.at_ = (D.nm, none))
theorem Df.nodef {D : Df} (h : D.ok = true) (K : PySem.W.Frag) : D.d.dvs K = [] ∧ D.d.kws K = [] := by
  simp only [Df.ok, Bool.and_eq_true] at h
  obtain ⟨_, h1, h2, _⟩ := h
  exact ⟨by unfold He.DefD.dvs; rw [List.isEmpty_iff.mp h1]; rfl, by unfold He.DefD.kws; rw [List.isEmpty_iff.mp h2]; rfl⟩
theorem law_facts {ds : List Df} {cs : List (Str × PyData)} {fr : List Str} {k m W lv iL n : Nat} {DL : Df} {P : Program} {w : World} {K : PySem.W.Frag} {h : Heap} {mg : Str → Option Value} {f : Addr}
    (ok : ds.all (fun D => D.ok && D.at) = true) (okc : cs.all (fun c => csOk c.2) = true) (hL : ds[iL]? = some DL) (hp : DL.ps = [("script" : Str)]) (hnm : DL.nm = "law")
    (pure_ : ∀ ns : List Int, ns.length ≤ n → ∃ S', run (fnsOf ds cs fr k m) W lv iL [.s ns] [] = some (.d (.bool true), S'))
    (X : K.In h) (G : h.Ns mainGlobals mg) (hfa : mg ("law" : Str) = some (.ref f)) (c : He.SaysD (faOf ds cs fr) (ds.map (·.d)) K) (ct : tupsOk cs K = true) :
    ∃ (fd : FuncData) (sp : Sp), (∀ (s : Shared) (v : Value), BindsTo s fd ⟨[v], []⟩ [("script", v)]) ∧ (∀ (H : Hp) (a : Addr) (ns : List Int), ns.length ≤ n → Only H → SqL K H a (ns.map V.int) → sp [.ref a] H (fun v _ => v = .bl true) fun _ _ _ => False) ∧
      ∀ base : Heap, K.In base → base.Ns mainGlobals mg → FnOk P w K mg base CX0 lv f fd [("script" : Str)] sp := by
  have okD : ∀ D ∈ ds, D.ok = true ∧ D.d.at_ = (D.nm, none) := fun D hD => by
    have := List.all_eq_true.mp ok D hD
    rw [Bool.and_eq_true] at this
    exact ⟨this.1, of_decide_eq_true this.2⟩
  let fa : Nat → Addr := fun i => ((ds[i]?).map fun D => He.fAd K D.d.at_).getD 0
  have fa_ : ∀ (i : Nat) (D : Df), ds[i]? = some D → fa i = He.fAd K D.d.at_ := fun i D e => by show ((ds[i]?).map _).getD 0 = _; rw [e]; rfl
  have hF : ∀ (i : Nat) (D : Df), ds[i]? = some D → ∃ fd, FunD K D.d.name D.d.qual D.d.params D.d.body D.d.scope [] [] (fa i) fd := fun i D e => by
    obtain ⟨fd, F⟩ := c.def_ i (d := D.d) (by rw [List.getElem?_map, e]; rfl)
    obtain ⟨h1, h2⟩ := Df.nodef (okD D (List.mem_of_getElem? e)).1 K
    rw [h1, h2] at F
    rw [fa_ i D e]
    exact ⟨fd, F⟩
  have hG : ∀ (i : Nat) (D : Df), ds[i]? = some D → mg D.nm = some (.ref (fa i)) := fun i D e => by
    have hm := List.mem_of_getElem? e
    rw [fa_ i D e, (okD D hm).2]
    refine He.glo_ok X G (fact_mem c ?_)
    exact List.mem_append_left _ (List.mem_append_left _ (List.mem_map.mpr ⟨D, hm, rfl⟩))
  have hcs : ∀ (x : Str) (d : PyData), cs.lookup x = some d → ∃ u v, mg x = some u ∧ L2.RelV v u ∧ ∀ H M, Pu K H M v d := fun x d e => by
    have hm := PySem.mem_of_lookup e
    rcases csFa_mem hm (List.all_eq_true.mp okc _ hm) with ⟨i, rfl, h2⟩ | ⟨z, rfl, h2⟩ | ⟨z, zs, rfl, h2⟩
    · obtain ⟨t, ht⟩ := He.int_ok X G (fact_mem c (List.mem_append_right _ h2))
      exact ⟨_, .int i, ht, ⟨t, rfl⟩, fun _ _ => .int i⟩
    · obtain ⟨t, ht⟩ := He.str_ok X G (fact_mem c (List.mem_append_right _ h2))
      exact ⟨_, .str z, ht, ⟨t, rfl⟩, fun _ _ => .str z⟩
    · have ht := He.glo_ok X G (fact_mem c (List.mem_append_right _ h2))
      have h3 := List.all_eq_true.mp ct _ hm
      simp only at h3
      rw [show strsOf ((z :: zs).map PyData.str) = some (z :: zs) from strsOf_of _] at h3
      have h4 := He.tupB_ok h3 (fun _ => none)
      rw [show ((z :: zs).map He.Dv.str).map (He.Dv.v K) = (z :: zs).map V.str by rw [List.map_map]; rfl] at h4
      exact ⟨_, .ref (He.ga K x), ht, rfl, fun _ _ => .tupK (by simp) h4⟩
  have hfr : ∀ x, (fr.any fun y => decide (y = x)) = true → mg x = none := fun x e => by
    obtain ⟨y, hy, e⟩ := List.any_eq_true.mp e
    have e : y = x := of_decide_eq_true e
    subst e
    exact He.free_ok X G (fact_mem c (List.mem_append_left _ (List.mem_append_right _ (List.mem_map.mpr ⟨y, hy, rfl⟩))))
  obtain ⟨fd, F⟩ := hF iL DL hL
  have okL := (okD DL (List.mem_of_getElem? hL)).1
  have ef : fa iL = f := by
    have := (hG iL DL hL).symm
    rw [hnm, hfa] at this
    cases this; rfl
  refine ⟨fd, spF K fa (run (fnsOf ds cs fr k m) W lv) iL DL.ps.length, fun s v => ?_, fun H a ns hl hO hS => ?_, fun base KX GX => ?_⟩
  · have := binds_ok okL F s [v] [] [v] [] (by rw [hp]; simp) (fun _ z => by simp at z) (by rw [hp]; simp) rfl (by rw [hp]; rfl) fun i p u h1 h2 => by
      rw [hp] at h1 ⊢
      exact ⟨i, by rw [List.append_nil]; cases i <;> simpa using h1, by simpa using h2⟩
    rw [hp] at this
    exact this
  · obtain ⟨S', e⟩ := pure_ ns hl
    refine ⟨by rw [hp]; rfl, fun _ => 0, fun _ => False, [], [.s ns], [], _, S', H, ⟨fun _ z => z.elim, fun k x e => by simp at e, fun k m h => by simp at h⟩, .o (fun _ z => by cases z) ⟨a, rfl, ?_⟩ .nil, fun _ z => by simp at z, e, fun v H' M' _ rr => ?_⟩
    · rcases hS with (hS | ⟨o, hS⟩) | hS
      · rcases hO a with h0 | ⟨o, xs, h0⟩
        · rw [h0] at hS; cases hS
        · rw [h0] at hS; cases hS
      · exact ⟨ns, rfl, .inl ⟨fun z => z, o, hS⟩⟩
      · exact ⟨ns, rfl, .inr (.inr hS)⟩
    · cases (show Pu K H' M' v (.bool true) from rr)
      rfl
  · rw [← ef, ← hp]
    exact table (fun D hD => (okD D hD).1) hF hG hcs hfr lv iL DL hL fd F
end Ip

set_option Elab.async false
set_option linter.all false
set_option maxRecDepth 100000
set_option maxHeartbeats 1000000
/-! The interpreter's equations, for proofs about what it computes. -/
namespace Ip
open PySem
section
variable (cf : Cf) (W B : Nat) (σ : Ev) (S : Store) (L : List Nat)
@[simp] theorem ev_cst (x : D) : ev cf (.cst x) σ S = some (.d x, S) := by rw [ev] <;> rfl
@[simp] theorem ev_fn (k : Nat) : ev cf (.fn k) σ S = some (.fn k, S) := by rw [ev] <;> rfl
theorem ev_var' (i : Nat) : ev cf (.var i) σ S = (match σ[i]? with | some (some r) => some (r, S) | _ => none) := by rw [ev] <;> rfl
theorem ev_var {i : Nat} {r : R} (h : σ[i]? = some (some r)) : ev cf (.var i) σ S = some (r, S) := by rw [ev, h]
@[simp] theorem ev_v0 (r : R) (s : Ev) : ev cf (.var 0) (some r :: s) S = some (r, S) := by rw [ev]; rfl
@[simp] theorem ev_vs (i : Nat) (o : Option R) (s : Ev) : ev cf (.var (i + 1)) (o :: s) S = ev cf (.var i) s S := by rw [ev, ev]; rfl
@[simp] theorem ev_and (a b : IE) : ev cf (.and_ a b) σ S = (ev cf a σ S).bind fun p => (tru p.2 p.1).bind fun k => if k then ev cf b σ p.2 else some (p.1, p.2) := by rw [ev] <;> rfl
@[simp] theorem ev_or (a b : IE) : ev cf (.or_ a b) σ S = (ev cf a σ S).bind fun p => (tru p.2 p.1).bind fun k => if k then some (p.1, p.2) else ev cf b σ p.2 := by rw [ev] <;> rfl
@[simp] theorem ev_not (a : IE) : ev cf (.not_ a) σ S = (ev cf a σ S).bind fun p => (tru p.2 p.1).bind fun k => some (.d (.bool (!k)), p.2) := by rw [ev] <;> rfl
@[simp] theorem ev_bin (o : Op) (a b : IE) : ev cf (.bin o a b) σ S = (ev cf a σ S).bind fun p => (ev cf b σ p.2).bind fun q => (rdn q.2 p.1).bind fun u => (rdn q.2 q.1).bind fun v => (opD o u v).bind fun r => some (r, q.2) := by rw [ev] <;> rfl
@[simp] theorem ev_neg (a : IE) : ev cf (.neg a) σ S = (ev cf a σ S).bind fun p => (match p.1 with | .d (.int i) => some (.d (.int (-i)), p.2) | _ => none) := by rw [ev] <;> rfl
@[simp] theorem ev_ife (t a b : IE) : ev cf (.ife t a b) σ S = (ev cf t σ S).bind fun p => (tru p.2 p.1).bind fun k => if k then ev cf a σ p.2 else ev cf b σ p.2 := by rw [ev] <;> rfl
@[simp] theorem ev_cmp (o : Cm) (a b : IE) : ev cf (.cmp o a b) σ S = (ev cf a σ S).bind fun p => (ev cf b σ p.2).bind fun q => (rdL o q.2 p.1).bind fun u => (rdR o q.2 q.1).bind fun v => (cmD o u v).bind fun k => some (.d (.bool k), q.2) := by rw [ev] <;> rfl
@[simp] theorem ev_chain (o1 o2 : Cm) (a b c : IE) : ev cf (.chain o1 o2 a b c) σ S = (ev cf a σ S).bind fun p => (ev cf b σ p.2).bind fun q => (rd q.2 p.1).bind fun u => (rd q.2 q.1).bind fun v => (cmD o1 u v).bind fun k =>
    if k then (ev cf c σ q.2).bind fun z => (rd z.2 q.1).bind fun v' => (rd z.2 z.1).bind fun w => (cmD o2 v' w).bind fun k2 => some (.d (.bool k2), z.2) else some (.d (.bool false), q.2) := by rw [ev] <;> rfl
@[simp] theorem ev_call (k : Nat) (as : IEs) : ev cf (.call k [] as) σ S = (evs cf as σ S).bind fun p => cf k p.1 p.2 := by rw [ev] <;> rfl
@[simp] theorem ev_callp (k i : Nat) (is : List Nat) (as : IEs) : ev cf (.call k (i :: is) as) σ S = (evs cf as σ S).bind fun p => (permR p.1 (i :: is)).bind fun q => cf k q p.2 := by rw [ev] <;> rfl
@[simp] theorem ev_callv (i : Nat) (as : IEs) : ev cf (.callv i as) σ S = (match σ[i]? with | some (some (.fn k)) => (evs cf as σ S).bind fun p => cf k p.1 p.2 | _ => none) := by rw [ev] <;> rfl
@[simp] theorem ev_blt (b : Bt) (as : IEs) : ev cf (.blt b as) σ S = (evs cf as σ S).bind fun p => (rdsb b p.2 p.1).bind fun xs => (bltD b xs).bind fun r => some (r, p.2) := by rw [ev] <;> rfl
@[simp] theorem ev_isi (a : IE) (ts : List Ty) : ev cf (.isi a ts) σ S = (ev cf a σ S).bind fun p => (rdi p.2 p.1).bind fun u => some (.d (.bool (ts.any (isTy u))), p.2) := by rw [ev] <;> rfl
@[simp] theorem ev_sub (a i : IE) : ev cf (.sub a i) σ S = (ev cf a σ S).bind fun p => (ev cf i σ p.2).bind fun q => (rdi q.2 p.1).bind fun u => (rd q.2 q.1).bind fun v => (subD u v).bind fun r => some (.d r, q.2) := by rw [ev] <;> rfl
@[simp] theorem ev_slc (a : IE) (lo hi : IEs) : ev cf (.slc a lo hi) σ S = (ev cf a σ S).bind fun p => (evp cf lo σ p.2).bind fun l => (evp cf hi σ l.2).bind fun h => (rd h.2 p.1).bind fun u => (slcD u l.1 h.1).bind fun r => some (r, h.2) := by rw [ev] <;> rfl
@[simp] theorem ev_tup (as : IEs) : ev cf (.tup as) σ S = (evs cf as σ S).bind fun p => (pures p.1).bind fun xs => if xs.length ≤ LIM then some (.d (.tuple xs), p.2) else none := by rw [ev] <;> rfl
@[simp] theorem ev_lst (as : IEs) : ev cf (.lst as) σ S = (evs cf as σ S).bind fun p => (pures p.1).bind fun xs => if xs.length ≤ LIM then some (.f (.list xs), p.2) else none := by rw [ev] <;> rfl
@[simp] theorem ev_chain3 (o1 o2 o3 : Cm) (a b c d : IE) : ev cf (.chain3 o1 o2 o3 a b c d) σ S = (ev cf a σ S).bind fun p => (ev cf b σ p.2).bind fun q => (rd q.2 p.1).bind fun u => (rd q.2 q.1).bind fun v => (cmD o1 u v).bind fun k =>
    if k then (ev cf c σ q.2).bind fun z => (rd z.2 q.1).bind fun v' => (rd z.2 z.1).bind fun w => (cmD o2 v' w).bind fun k2 =>
      if k2 then (ev cf d σ z.2).bind fun y => (rd y.2 z.1).bind fun w' => (rd y.2 y.1).bind fun t => (cmD o3 w' t).bind fun k3 => some (.d (.bool k3), y.2) else some (.d (.bool false), z.2)
    else some (.d (.bool false), q.2) := by rw [ev] <;> rfl
@[simp] theorem ev_stw (a b : IE) : ev cf (.stw a b) σ S = (ev cf a σ S).bind fun p => (ev cf b σ p.2).bind fun q => (match p.1, q.1 with
    | .d (.str s), .d (.str t) => some (.d (.bool (Txt.startswith s t)), q.2)
    | _, _ => none) := by rw [ev] <;> rfl
@[simp] theorem ev_dsp (ps : List (Str × Str)) : ev cf (.dsp ps) σ S = if ps.length ≤ 15 ∧ 0 < ps.length ∧ (ps.map (·.1)).Nodup then some (.f (.dict (ps.map fun p => (.str p.1, .str p.2))), S) else none := by rw [ev] <;> rfl
@[simp] theorem ev_tupk (as : IEs) : ev cf (.tupk as) σ S = (evs cf as σ S).bind fun p => (pures p.1).bind fun xs => if xs.length ≤ LIM then some (.s0 (.tuple xs), p.2) else none := by rw [ev] <;> rfl
@[simp] theorem ev_tups (fl : List Bool) (as : IEs) : ev cf (.tups fl as) σ S = (evs cf as σ S).bind fun p => (pures p.1).bind fun xs => (splice fl xs).bind fun ys => if ys.length ≤ LIM then some (.d (.tuple ys), p.2) else none := by rw [ev]
@[simp] theorem ev_lsts (fl : List Bool) (as : IEs) : ev cf (.lsts fl as) σ S = (evs cf as σ S).bind fun p => (pures p.1).bind fun xs => (splice fl xs).bind fun ys => if ys.length ≤ LIM then some (.f (.list ys), p.2) else none := by rw [ev]
@[simp] theorem ev_rev (a : IE) : ev cf (.rev a) σ S = (ev cf a σ S).bind fun p => (rd p.2 p.1).bind fun u => (match u with | .list xs => some (.f (.list xs.reverse), p.2) | .tuple xs => some (.d (.tuple xs.reverse), p.2) | _ => none) := by rw [ev] <;> rfl
theorem ev_comp (e : IE) (own : List Nat) (t : Tg) (i : It) (ifs : IEs) (g : Gs) : ev cf (.comp e own (.cons t i ifs g)) σ S = (evi cf i σ S).bind fun p =>
    (lpC p.2.1 (fun x S2 => (asg t x (wipe σ own)).bind fun σ1 => (tst cf ifs σ1 S2).bind fun q => if q.1 then evg cf (ev cf e) g σ1 q.2 else some ([], q.2)) p.1 p.2.2).bind fun z => if z.1.length ≤ LIM then some (.f (.list z.1), z.2) else none := by rw [ev] <;> rfl
theorem ev_dcomp (t : Bool) (k v : IE) (own : List Nat) (tg : Tg) (i : It) (ifs : IEs) : ev cf (.dcomp t k v own (.cons tg i ifs .nil)) σ S = (evi cf i σ S).bind fun p =>
    (lpC p.2.1 (fun x S2 => (asg tg x (wipe σ own)).bind fun σ1 => (tst cf ifs σ1 S2).bind fun q => if q.1 then (ev cf k σ1 q.2).bind fun y => (ev cf v σ1 y.2).bind fun z => (pureR y.1).bind fun y' => (pureR z.1).bind fun z' => some ([.tuple [y', z']], z.2) else some ([], q.2)) p.1 p.2.2).bind fun z => (dictOf t z.1).bind fun ds => some (.f (.dict ds), z.2) := by rw [ev] <;> rfl
@[simp] theorem ev_dcst (s : Str) (i : Int) : ev cf (.dcst s i) σ S = some (.f (.dict [(.str s, .int i)]), S) := by rw [ev] <;> rfl
@[simp] theorem ev_dnew (t : Bool) : ev cf (.dnew t) σ S = some (.f (.dict (dict0 t)), S) := by rw [ev] <;> rfl
theorem ev_compd {n : Nat} {es : List (D × D)} (x : Nat) (e : IE) (own : List Nat) (t : Tg) (ifs : IEs) (hx : σ[x]? = some (some (.l n))) (hn : S[n]? = some (.dict ((.none, .none) :: es))) : ev cf (.compd x e own t ifs) σ S =
    (lpC none (fun y S2 => (asg t y (wipe σ own)).bind fun σ1 => (tst cf ifs σ1 S2).bind fun q => if q.1 then (ev cf e σ1 q.2).bind fun z => (pureR z.1).bind fun z' => some ([z'], z.2) else some ([], q.2)) (es.map (·.1)) (S.set n .none)).bind fun z => (match z.2[n]? with
      | some .none => if z.1.length ≤ LIM then some (.f (.list z.1), z.2.set n (.dict ((.none, .none) :: es))) else none
      | _ => none) := by
  rw [ev]
  simp only [hx, hn]
  try rfl
@[simp] theorem ev_lof (i : It) : ev cf (.lof i) σ S = (evi cf i σ S).bind fun p => if p.1.length ≤ LIM then some (.f (.list p.1), p.2.2) else none := by rw [ev] <;> rfl
@[simp] theorem ev_tof (i : It) : ev cf (.tof i) σ S = (evi cf i σ S).bind fun p => if p.1.length ≤ LIM then some (.d (.tuple p.1), p.2.2) else none := by rw [ev] <;> rfl
@[simp] theorem ev_sset (b : Bool) (a : IE) : ev cf (.sset b a) σ S = (ev cf a σ S).bind fun p => (rd p.2 p.1).bind fun u => (ssetD b u).bind fun r => some (r, p.2) := by rw [ev] <;> rfl
@[simp] theorem ev_mth (m : Mt) (o : IE) (as : IEs) : ev cf (.mth m o as) σ S = (ev cf o σ S).bind fun p => (match p.1 with
    | .s0 (.tuple zs) => (evs cf as σ p.2).bind fun q => (rds q.2 q.1).bind fun ys => (mthT m zs ys).bind fun r => some (r, q.2)
    | x => (rd p.2 x).bind fun u0 => if isL u0 then (evs cf as σ p.2).bind fun q => (rd q.2 x).bind fun u => (rds q.2 q.1).bind fun ys => (mthD m u ys).bind fun r => some (r, q.2) else none) := by rw [ev] <;> rfl
@[simp] theorem ev_tupn (a : IE) : ev cf (.tupn a) σ S = (ev cf a σ S).bind fun p => (rd p.2 p.1).bind fun u => (match u with
    | .list ys => some (.s0 (.tuple ys), p.2)
    | _ => none) := by rw [ev] <;> rfl
@[simp] theorem ev_mut (m : Mm) (x : Nat) (as : IEs) : ev cf (.mut m x as) σ S = (match σ[x]? with
    | some (some (.l n)) => (S[n]?).bind fun u0 => if isL u0 then (evs cf as σ S).bind fun p => (pures p.1).bind fun ys => (p.2[n]?).bind fun u => (mutD m u ys).bind fun q => some (.d q.2, p.2.set n q.1) else none
    | _ => none) := by rw [ev] <;> rfl
@[simp] theorem evs_nil : evs cf .nil σ S = some ([], S) := by rw [evs] <;> rfl
@[simp] theorem evs_cons (e : IE) (r : IEs) : evs cf (.cons e r) σ S = (ev cf e σ S).bind fun p => (evs cf r σ p.2).bind fun q => some (p.1 :: q.1, q.2) := by rw [evs] <;> rfl
@[simp] theorem evp_nil : evp cf .nil σ S = some (none, S) := by rw [evp] <;> rfl
@[simp] theorem evp_one (e : IE) : evp cf (.cons e .nil) σ S = (ev cf e σ S).bind fun p => (match p.1 with | .d (.int i) => some (some i, p.2) | _ => none) := by rw [evp] <;> rfl
@[simp] theorem evi_ex (e : IE) : evi cf (.ex e) σ S = (ev cf e σ S).bind fun p => (iterOf p.2 p.1).bind fun q => some (q.1, q.2, p.2) := by rw [evi] <;> rfl
@[simp] theorem evi_rng (as : IEs) : evi cf (.rng as) σ S = (evs cf as σ S).bind fun p => (match p.1 with
    | [.d (.int j)] => if inR j then some (rngD 0 j, none, p.2) else none
    | [.d (.int i), .d (.int j)] => if inR i && inR j then some (rngD i j, none, p.2) else none
    | _ => none) := by rw [evi] <;> rfl
@[simp] theorem evi_enum (e : IE) : evi cf (.enum e) σ S = (ev cf e σ S).bind fun p => (iterOf p.2 p.1).bind fun q => some (enumD 0 q.1, q.2, p.2) := by rw [evi] <;> rfl
@[simp] theorem evi_zip (a b : IE) : evi cf (.zip a b) σ S = (ev cf a σ S).bind fun p => (ev cf b σ p.2).bind fun q => (match pureR p.1, pureR q.1 with
    | some (.tuple xs), some (.tuple ys) => some (zipD xs ys, none, q.2)
    | some (.list xs), some (.list ys) => some (zipD xs ys, none, q.2)
    | _, _ => none) := by rw [evi] <;> rfl
@[simp] theorem evg_nil (fe : Ev → Store → Option (R × Store)) : evg cf fe .nil σ S = (fe σ S).bind fun p => (pureR p.1).bind fun y => some ([y], p.2) := by rw [evg] <;> rfl
theorem evg_cons (fe : Ev → Store → Option (R × Store)) (t : Tg) (i : It) (ifs : IEs) (g : Gs) : evg cf fe (.cons t i ifs g) σ S = (evi cf i σ S).bind fun p =>
    lpC p.2.1 (fun x S2 => (asg t x (wipe σ (tgn t))).bind fun σ1 => (tst cf ifs σ1 S2).bind fun q => if q.1 then evg cf fe g σ1 q.2 else some ([], q.2)) p.1 p.2.2 := by rw [evg] <;> rfl
@[simp] theorem tst_nil : tst cf .nil σ S = some (true, S) := by rw [tst] <;> rfl
@[simp] theorem tst_cons (c : IE) (r : IEs) : tst cf (.cons c r) σ S = (ev cf c σ S).bind fun p => (tru p.2 p.1).bind fun k => if k then tst cf r σ p.2 else some (false, p.2) := by rw [tst] <;> rfl
@[simp] theorem tv_eq (c : IE) : tv cf c σ S = (ev cf c σ S).bind fun p => (tru p.2 p.1).bind fun k => some (k, p.2) := by rw [tv] <;> rfl
@[simp] theorem ev_compr (e : IE) (own : List Nat) (t : Tg) (i : It) : ev cf (.compr e own t i) σ S = (evi cf i σ S).bind fun q =>
      (lpC q.2.1 (fun x S2 => (asg t x (wipe σ own)).bind fun σ1 => (ev cf e σ1 S2).bind fun p => (match p.1 with
        | .f z => some ([z], p.2)
        | _ => none)) q.1 q.2.2).bind fun z => if z.1.length ≤ LIM then some (.fr z.1, z.2) else none := by rw [ev] <;> rfl
@[simp] theorem ev_rsub (x : Nat) (e : IE) : ev cf (.rsub x e) σ S = (match σ[x]? with
    | some (some (.rw ks)) => (ev cf e σ S).bind fun p => (match p.1 with
      | .d (.int k) => (L2.ixN ks.length k).bind fun j => (ks[j]?).bind fun n => some (.l n, p.2)
      | _ => none)
    | _ => none) := by rw [ev] <;> rfl
@[simp] theorem ev_muto (m : Mm) (o : IE) (as : IEs) : ev cf (.muto m o as) σ S = (ev cf o σ S).bind fun p => (match p.1 with
    | .l n => (p.2[n]?).bind fun u0 => if isL u0 then (evs cf as σ p.2).bind fun q => (pures q.1).bind fun ys => (q.2[n]?).bind fun u => (mutD m u ys).bind fun w => some (.d w.2, q.2.set n w.1) else none
    | _ => none) := by rw [ev] <;> rfl
/-! statements -/
@[simp] theorem ex_seto (o i e : IE) : ex cf W B (.seto o i e) L σ S = (ev cf e σ S).bind fun p => (pureR p.1).bind fun v => (ev cf o σ p.2).bind fun x => (match x.1 with
    | .l n => (ev cf i σ x.2).bind fun q => (rd q.2 q.1).bind fun k => (q.2[n]?).bind fun u => (putD u k v).bind fun u' => some (.nx σ, q.2.set n u')
    | _ => none) := by rw [ex] <;> rfl
@[simp] theorem ex_retz (e : IE) : ex cf W B (.retz e) L σ S = (ev cf e (σ.map (thawR B S)) (S.take B)).bind fun p => some (.rt p.1, p.2) := by rw [ex] <;> rfl
@[simp] theorem setv_fr (B : Nat) (L : List Nat) (m : Bool) (σ : Ev) (S : Store) (i : Nat) (xs : List D) : setv B L m σ S i (.fr xs) = some (σ.set i (some (.rw (List.range' S.length xs.length))), S ++ xs) := rfl
@[simp] theorem okA_d (x : D) : okA (.d x) = true := rfl
@[simp] theorem okA_l (x : Nat) : okA (.l x) = true := rfl
@[simp] theorem okA_f (x : D) : okA (.f x) = true := rfl
@[simp] theorem okA_fn (x : Nat) : okA (.fn x) = true := rfl
@[simp] theorem okA_s0 (x : D) : okA (.s0 x) = true := rfl

@[simp] theorem ex_set (i : Nat) (m : Bool) (e : IE) : ex cf W B (.set i m e) L σ S = (ev cf e σ S).bind fun p => (setv B L m σ p.2 i p.1).bind fun q => some (.nx q.1, q.2) := by rw [ex] <;> rfl
@[simp] theorem ex_par (is : List (Nat × Bool)) (as : IEs) : ex cf W B (.par is as) L σ S = (evs cf as σ S).bind fun p => if is.length = p.1.length ∧ p.1.all (base B) = true then some (.nx (setAll σ (is.map (·.1)) (ent (is.map (·.2)) p.1 p.2).1), (ent (is.map (·.2)) p.1 p.2).2) else none := by rw [ex] <;> rfl
@[simp] theorem ex_unp (t : Tg) (e : IE) : ex cf W B (.unp t e) L σ S = (ev cf e σ S).bind fun p => (pureR p.1).bind fun x => (asg t x σ).bind fun σ1 => some (.nx σ1, p.2) := by rw [ex] <;> rfl
@[simp] theorem ex_mv (i : Nat) (m : Bool) (j : Nat) : ex cf W B (.mv i m j) L σ S = (match σ[j]? with
    | some (some (.l n)) => if i = j then none else some (.nx ((σ.set j none).set i (some (.l n))), S)
    | some (some r) => (setv B L m σ S i r).bind fun p => some (.nx p.1, p.2)
    | _ => none) := by rw [ex] <;> rfl
@[simp] theorem ex_seti (x : Nat) (i e : IE) : ex cf W B (.seti x i e) L σ S = (ev cf e σ S).bind fun p => (pureR p.1).bind fun v => (match σ[x]? with
    | some (some (.l n)) => (ev cf i σ p.2).bind fun q => (rd q.2 q.1).bind fun k => (q.2[n]?).bind fun u => (putD u k v).bind fun u' => some (.nx σ, q.2.set n u')
    | _ => none) := by rw [ex] <;> rfl
@[simp] theorem ex_setp (x : Nat) (i : IE) (t : Nat) (e : IE) : ex cf W B (.setp x i t e) L σ S = (ev cf e σ S).bind fun p => (pureR p.1).bind fun z => (match z with
    | .tuple [v, w] => (match σ[x]? with
      | some (some (.l n)) => (ev cf i σ p.2).bind fun q => (rd q.2 q.1).bind fun k => (q.2[n]?).bind fun u => (putD u k v).bind fun u' => some (.nx (σ.set t (some (.d w))), q.2.set n u')
      | _ => none)
    | _ => none) := by rw [ex] <;> rfl
@[simp] theorem ex_set3 (x : Nat) (i1 i2 i3 e : IE) : ex cf W B (.set3 x i1 i2 i3 e) L σ S = (ev cf e σ S).bind fun p => (pureR p.1).bind fun z => (match z with
    | .tuple [v1, v2, v3] => (match σ[x]? with
      | some (some (.l n)) =>
        (ev cf i1 σ p.2).bind fun a => (rd a.2 a.1).bind fun k1 => (a.2[n]?).bind fun u1 => (putD u1 k1 v1).bind fun w1 =>
        (ev cf i2 σ (a.2.set n w1)).bind fun b => (rd b.2 b.1).bind fun k2 => (b.2[n]?).bind fun u2 => (putD u2 k2 v2).bind fun w2 =>
        (ev cf i3 σ (b.2.set n w2)).bind fun c => (rd c.2 c.1).bind fun k3 => (c.2[n]?).bind fun u3 => (putD u3 k3 v3).bind fun w3 => some (.nx σ, c.2.set n w3)
      | _ => none)
    | _ => none) := by rw [ex] <;> rfl
@[simp] theorem ex_ex (e : IE) : ex cf W B (.ex e) L σ S = (ev cf e σ S).bind fun p => some (.nx σ, p.2) := by rw [ex] <;> rfl
@[simp] theorem ex_ret (e : IE) : ex cf W B (.ret e) L σ S = (ev cf e σ S).bind fun p => some (.rt p.1, p.2) := by rw [ex] <;> rfl
@[simp] theorem ex_retn : ex cf W B .retn L σ S = some (.rt (.d .none), S) := by rw [ex] <;> rfl
@[simp] theorem ex_pass : ex cf W B .pass L σ S = some (.nx σ, S) := by rw [ex] <;> rfl
@[simp] theorem ex_ite (c : IE) (a b : ISs) : ex cf W B (.ite c a b) L σ S = (tv cf c σ S).bind fun p => if p.1 then exs cf W B a L σ p.2 else exs cf W B b L σ p.2 := by rw [ex] <;> rfl
theorem ex_for (t : Tg) (i : It) (b : ISs) : ex cf W B (.for_ t i b) L σ S = (evi cf i σ S).bind fun p => lpS p.2.1 (fun x σ1 S2 => (asg t x σ1).bind fun σ2 => exs cf W B b (lk p.2.1 L) σ2 S2) p.1 σ p.2.2 := by rw [ex] <;> rfl
theorem ex_while (c : IE) (b : ISs) : ex cf W B (.while_ c b) L σ S = lpW (tv cf c) (fun σ1 S1 => exs cf W B b L σ1 S1) W σ S := by rw [ex] <;> rfl
@[simp] theorem exs_nil : exs cf W B .nil L σ S = some (.nx σ, S) := by rw [exs] <;> rfl
@[simp] theorem exs_cons (s : IS) (r : ISs) : exs cf W B (.cons s r) L σ S = (ex cf W B s L σ S).bind fun p => (match p.1 with | .nx σ1 => exs cf W B r L σ1 p.2 | .rt v => some (.rt v, p.2)) := by rw [exs] <;> rfl
end
@[simp] theorem ent_nil (S : Store) : ent [] [] S = ([], S) := rfl
@[simp] theorem ent_d (m : Bool) (ms : List Bool) (x : D) (rs : List R) (S : Store) : ent (m :: ms) (.d x :: rs) S = (some (.d x) :: (ent ms rs S).1, (ent ms rs S).2) := by cases m <;> rfl
@[simp] theorem ent_l (m : Bool) (ms : List Bool) (x : Nat) (rs : List R) (S : Store) : ent (m :: ms) (.l x :: rs) S = (some (.l x) :: (ent ms rs S).1, (ent ms rs S).2) := by cases m <;> rfl
@[simp] theorem ent_fn (m : Bool) (ms : List Bool) (x : Nat) (rs : List R) (S : Store) : ent (m :: ms) (.fn x :: rs) S = (some (.fn x) :: (ent ms rs S).1, (ent ms rs S).2) := by cases m <;> rfl
@[simp] theorem ent_s (m : Bool) (ms : List Bool) (x : List Int) (rs : List R) (S : Store) : ent (m :: ms) (.s x :: rs) S = (some (.s x) :: (ent ms rs S).1, (ent ms rs S).2) := by cases m <;> rfl
@[simp] theorem ent_ff (ms : List Bool) (x : D) (rs : List R) (S : Store) : ent (false :: ms) (.f x :: rs) S = (some (.d x) :: (ent ms rs S).1, (ent ms rs S).2) := rfl
@[simp] theorem ent_ft (ms : List Bool) (x : D) (rs : List R) (S : Store) : ent (true :: ms) (.f x :: rs) S = (some (.l S.length) :: (ent ms rs (S ++ [x])).1, (ent ms rs (S ++ [x])).2) := rfl
@[simp] theorem leave_nx (B : Nat) (σ : Ev) (S : Store) : leave B (.nx σ) S = some (.d .none, S.take B) := rfl
@[simp] theorem leave_d (B : Nat) (x : D) (S : Store) : leave B (.rt (.d x)) S = some (.d x, S.take B) := rfl
@[simp] theorem leave_f (B : Nat) (x : D) (S : Store) : leave B (.rt (.f x)) S = some (.f x, S.take B) := rfl
@[simp] theorem leave_fn (B : Nat) (x : Nat) (S : Store) : leave B (.rt (.fn x)) S = some (.fn x, S.take B) := rfl
@[simp] theorem leave_s (B : Nat) (x : List Int) (S : Store) : leave B (.rt (.s x)) S = some (.s x, S.take B) := rfl
@[simp] theorem leave_l (B n : Nat) (S : Store) : leave B (.rt (.l n)) S = if n < B then some (.l n, S.take B) else (S[n]?).bind fun x => (alive x).map fun y => (.f y, S.take B) := rfl
@[simp] theorem setv_d (B : Nat) (L : List Nat) (m : Bool) (σ : Ev) (S : Store) (i : Nat) (x : D) : setv B L m σ S i (.d x) = some (σ.set i (some (.d x)), S) := rfl
@[simp] theorem setv_fn (B : Nat) (L : List Nat) (m : Bool) (σ : Ev) (S : Store) (i : Nat) (x : Nat) : setv B L m σ S i (.fn x) = some (σ.set i (some (.fn x)), S) := rfl
@[simp] theorem setv_s (B : Nat) (L : List Nat) (m : Bool) (σ : Ev) (S : Store) (i : Nat) (x : List Int) : setv B L m σ S i (.s x) = some (σ.set i (some (.s x)), S) := rfl
@[simp] theorem setv_ff (B : Nat) (L : List Nat) (σ : Ev) (S : Store) (i : Nat) (x : D) : setv B L false σ S i (.f x) = some (σ.set i (some (.d x)), S) := rfl
@[simp] theorem setAll_nil (σ : Ev) (os : List (Option R)) : setAll σ [] os = σ := by simp only [setAll]
@[simp] theorem setAll_cons (σ : Ev) (i : Nat) (is : List Nat) (o : Option R) (os : List (Option R)) : setAll σ (i :: is) (o :: os) = setAll (σ.set i o) is os := by simp only [setAll]
@[simp] theorem base_d (B : Nat) (x : D) : base B (.d x) = true := rfl
@[simp] theorem base_f (B : Nat) (x : D) : base B (.f x) = true := rfl
@[simp] theorem base_fn (B : Nat) (x : Nat) : base B (.fn x) = true := rfl
@[simp] theorem base_l (B : Nat) (x : Nat) : base B (.l x) = decide (x < B) := rfl
@[simp] theorem asg_nm (i : Nat) (x : D) (σ : Ev) : asg (.nm i) x σ = some (σ.set i (some (.d x))) := rfl
@[simp] theorem asg_tup (ts : Tgs) (xs : List D) (σ : Ev) : asg (.tup ts) (.tuple xs) σ = asgs ts xs σ := rfl
@[simp] theorem asgs_nil (σ : Ev) : asgs .nil [] σ = some σ := rfl
@[simp] theorem asgs_cons (t : Tg) (r : Tgs) (x : D) (xs : List D) (σ : Ev) : asgs (.cons t r) (x :: xs) σ = (asg t x σ).bind fun σ1 => asgs r xs σ1 := rfl
@[simp] theorem wipe_nil (σ : Ev) : wipe σ [] = σ := rfl
@[simp] theorem wipe_cons (σ : Ev) (v : Nat) (vs : List Nat) : wipe σ (v :: vs) = (wipe σ vs).set v none := rfl
@[simp] theorem rd_d (S : Store) (x : D) : rd S (.d x) = some x := rfl
@[simp] theorem rd_f (S : Store) (x : D) : rd S (.f x) = some x := rfl
@[simp] theorem alive_l (xs : List D) : alive (.list xs) = some (.list xs) := rfl
@[simp] theorem alive_k (xs : List (D × D)) : alive (.dict xs) = some (.dict xs) := rfl
@[simp] theorem rd_l (S : Store) (n : Nat) : rd S (.l n) = (S[n]?).bind alive := rfl
@[simp] theorem rd_s (S : Store) (x : List Int) : rd S (.s x) = some (.list (x.map .int)) := rfl
@[simp] theorem rdn_d (S : Store) (x : D) : rdn S (.d x) = some x := rfl
@[simp] theorem rdn_f (S : Store) (x : D) : rdn S (.f x) = some x := rfl
@[simp] theorem rdn_l (S : Store) (n : Nat) : rdn S (.l n) = (S[n]?).bind alive := rfl
@[simp] theorem rdL_d (o : Cm) (S : Store) (x : D) : rdL o S (.d x) = some x := by cases o <;> rfl
@[simp] theorem rdL_f (o : Cm) (S : Store) (x : D) : rdL o S (.f x) = some x := by cases o <;> rfl
@[simp] theorem rdL_l (o : Cm) (S : Store) (n : Nat) : rdL o S (.l n) = (S[n]?).bind alive := by cases o <;> rfl
@[simp] theorem rdL_s (o : Cm) (S : Store) (x : List Int) : rdL o S (.s x) = some (.list (x.map .int)) := by cases o <;> rfl
@[simp] theorem rdL_te (S : Store) (x : List D) : rdL .eq S (.s0 (.tuple x)) = some (.tuple x) := rfl
@[simp] theorem rdL_tn (S : Store) (x : List D) : rdL .ne S (.s0 (.tuple x)) = some (.tuple x) := rfl
@[simp] theorem rdR_d (o : Cm) (S : Store) (x : D) : rdR o S (.d x) = some x := by cases o <;> rfl
@[simp] theorem rdR_f (o : Cm) (S : Store) (x : D) : rdR o S (.f x) = some x := by cases o <;> rfl
@[simp] theorem rdR_l (o : Cm) (S : Store) (n : Nat) : rdR o S (.l n) = (S[n]?).bind alive := by cases o <;> rfl
@[simp] theorem rdR_s (o : Cm) (S : Store) (x : List Int) : rdR o S (.s x) = some (.list (x.map .int)) := by cases o <;> rfl
@[simp] theorem rdR_te (S : Store) (x : List D) : rdR .eq S (.s0 (.tuple x)) = some (.tuple x) := rfl
@[simp] theorem rdR_tn (S : Store) (x : List D) : rdR .ne S (.s0 (.tuple x)) = some (.tuple x) := rfl
@[simp] theorem rdR_tm (S : Store) (x : List D) : rdR .mem S (.s0 (.tuple x)) = some (.tuple x) := rfl
@[simp] theorem rdR_tk (S : Store) (x : List D) : rdR .nmem S (.s0 (.tuple x)) = some (.tuple x) := rfl
@[simp] theorem tru_s0t (S : Store) (xs : List D) : tru S (.s0 (.tuple xs)) = none := rfl
@[simp] theorem rdi_d (S : Store) (x : D) : rdi S (.d x) = some x := rfl
@[simp] theorem rdi_f (S : Store) (x : D) : rdi S (.f x) = some x := rfl
@[simp] theorem rdi_l (S : Store) (n : Nat) : rdi S (.l n) = rd S (.l n) := rfl
@[simp] theorem rdi_s (S : Store) (x : List Int) : rdi S (.s x) = some (.list (x.map .int)) := rfl
@[simp] theorem rdi_t (S : Store) (x : List D) : rdi S (.s0 (.tuple x)) = some (.tuple x) := rfl
@[simp] theorem rdsb_nil (b : Bt) (S : Store) : rdsb b S [] = some [] := rfl
@[simp] theorem rdsb_d (b : Bt) (S : Store) (x : D) (rs : List R) : rdsb b S (.d x :: rs) = rds S (.d x :: rs) := rfl
@[simp] theorem rdsb_f (b : Bt) (S : Store) (x : D) (rs : List R) : rdsb b S (.f x :: rs) = rds S (.f x :: rs) := rfl
@[simp] theorem rdsb_l (b : Bt) (S : Store) (x : Nat) (rs : List R) : rdsb b S (.l x :: rs) = rds S (.l x :: rs) := rfl
@[simp] theorem rdsb_s (b : Bt) (S : Store) (x : List Int) (rs : List R) : rdsb b S (.s x :: rs) = rds S (.s x :: rs) := rfl
@[simp] theorem rdsb_t (S : Store) (x : List D) : rdsb .len S [.s0 (.tuple x)] = some [.tuple x] := rfl
@[simp] theorem iterOf_tn (S : Store) (xs : List D) : iterOf S (.s0 (.tuple xs)) = some (xs, none) := rfl
@[simp] theorem setv_s0 (B : Nat) (L : List Nat) (m : Bool) (σ : Ev) (S : Store) (i : Nat) (x : D) : setv B L m σ S i (.s0 x) = some (σ.set i (some (.s0 x)), S) := rfl
@[simp] theorem ent_s0 (m : Bool) (ms : List Bool) (x : D) (rs : List R) (S : Store) : ent (m :: ms) (.s0 x :: rs) S = (some (.s0 x) :: (ent ms rs S).1, (ent ms rs S).2) := by cases m <;> rfl
@[simp] theorem leave_s0 (B : Nat) (x : D) (S : Store) : leave B (.rt (.s0 x)) S = some (.s0 x, S.take B) := rfl
@[simp] theorem rds_nil (S : Store) : rds S [] = some [] := rfl
@[simp] theorem rds_cons (S : Store) (r : R) (rs : List R) : rds S (r :: rs) = (rd S r).bind fun x => (rds S rs).bind fun q => some (x :: q) := rfl
@[simp] theorem pures_nil : pures [] = some [] := rfl
@[simp] theorem pures_cons (r : R) (rs : List R) : pures (r :: rs) = (pureR r).bind fun x => (pures rs).bind fun q => some (x :: q) := rfl
@[simp] theorem pureR_d (x : D) : pureR (.d x) = some x := rfl
@[simp] theorem pureR_f (x : D) : pureR (.f x) = some x := rfl
@[simp] theorem tru_b (S : Store) (b : Bool) : tru S (.d (.bool b)) = some b := rfl
@[simp] theorem tru_i (S : Store) (i : Int) : tru S (.d (.int i)) = some (i != 0) := rfl
@[simp] theorem tru_n (S : Store) : tru S (.d .none) = some false := rfl
@[simp] theorem tru_t (S : Store) (xs : List D) : tru S (.d (.tuple xs)) = some (!xs.isEmpty) := rfl
@[simp] theorem tru_dl (S : Store) (xs : List D) : tru S (.d (.list xs)) = some (!xs.isEmpty) := rfl
@[simp] theorem tru_fl (S : Store) (xs : List D) : tru S (.f (.list xs)) = some (!xs.isEmpty) := rfl
@[simp] theorem permR_nil (rs : List R) : permR rs [] = some [] := rfl
@[simp] theorem permR_cons (rs : List R) (i : Nat) (is : List Nat) : permR rs (i :: is) = (rs[i]?).bind fun r => (permR rs is).bind fun q => some (depR r :: q) := rfl
@[simp] theorem depR_d (x : D) : depR (.d x) = .d x := rfl
@[simp] theorem depR_f (x : D) : depR (.f x) = .d x := rfl
@[simp] theorem depR_l (x : Nat) : depR (.l x) = .l x := rfl
@[simp] theorem iterOf_t (S : Store) (xs : List D) : iterOf S (.d (.tuple xs)) = some (xs, none) := rfl
@[simp] theorem iterOf_l (S : Store) (xs : List D) : iterOf S (.d (.list xs)) = some (xs, none) := rfl
@[simp] theorem iterOf_f (S : Store) (xs : List D) : iterOf S (.f (.list xs)) = some (xs, none) := rfl
@[simp] theorem iterOf_s (S : Store) (ns : List Int) : iterOf S (.s ns) = some (ns.map .int, none) := rfl
@[simp] theorem lk_none (L : List Nat) : lk none L = L := rfl
/-! data -/
@[simp] theorem op_add (i j : Int) : opD .add (.int i) (.int j) = some (.d (.int (i + j))) := rfl
@[simp] theorem op_sub (i j : Int) : opD .sub (.int i) (.int j) = some (.d (.int (i - j))) := rfl
@[simp] theorem op_mul (i j : Int) : opD .mul (.int i) (.int j) = if cmulB i j then some (.d (.int (i * j))) else none := rfl
@[simp] theorem op_fdiv (i j : Int) : opD .fdiv (.int i) (.int j) = if cdivB j then some (.d (.int (i.fdiv j))) else none := rfl
@[simp] theorem op_mod (i j : Int) : opD .mod (.int i) (.int j) = if j ≠ 0 then some (.d (.int (i.fmod j))) else none := rfl
@[simp] theorem op_pow (i j : Int) : opD .pow (.int i) (.int j) = if cpowB i j then some (.d (.int (i ^ j.toNat))) else none := rfl
@[simp] theorem op_catT (xs ys : List D) : opD .add (.tuple xs) (.tuple ys) = if xs.length + ys.length ≤ LIM then some (.d (.tuple (xs ++ ys))) else none := rfl
@[simp] theorem op_catL (xs ys : List D) : opD .add (.list xs) (.list ys) = if xs.length + ys.length ≤ LIM then some (.f (.list (xs ++ ys))) else none := rfl
@[simp] theorem cm_lt (i j : Int) : cmD .lt (.int i) (.int j) = some (decide (i < j)) := rfl
@[simp] theorem cm_le (i j : Int) : cmD .le (.int i) (.int j) = some (decide (i ≤ j)) := rfl
@[simp] theorem cm_gt (i j : Int) : cmD .gt (.int i) (.int j) = some (decide (j < i)) := rfl
@[simp] theorem cm_ge (i j : Int) : cmD .ge (.int i) (.int j) = some (decide (j ≤ i)) := rfl
@[simp] theorem cm_eq (i j : Int) : cmD .eq (.int i) (.int j) = some (decide (i = j)) := by
  show eqD _ _ = _
  unfold eqD
  rw [show SeqAt.shaped (.int i) = true from rfl, show SeqAt.shaped (.int j) = true from rfl]
  simp only [Bool.and_self, if_true, PyData.eqv]
  rfl
theorem eqD_int (i j : Int) : eqD (.int i) (.int j) = some (decide (i = j)) := cm_eq i j
@[simp] theorem cm_ne (i j : Int) : cmD .ne (.int i) (.int j) = some (!decide (i = j)) := by
  simp only [cmD, eqD_int]; rfl
@[simp] theorem cm_isn (x : D) : cmD .isn x .none = some (isNone x) := by cases x <;> rfl
@[simp] theorem cm_notn (x : D) : cmD .notn x .none = some (!isNone x) := by cases x <;> rfl
@[simp] theorem cm_isb (a b : Bool) : cmD .isn (.bool a) (.bool b) = some (decide (a = b)) := rfl
@[simp] theorem cm_notb (a b : Bool) : cmD .notn (.bool a) (.bool b) = some (!decide (a = b)) := rfl
@[simp] theorem isTy_int (i : Int) (t : Ty) : isTy (.int i) t = (t == .int) := by cases t <;> rfl
@[simp] theorem isTy_bool (i : Bool) (t : Ty) : isTy (.bool i) t = (t == .bool || t == .int) := by cases t <;> rfl
@[simp] theorem isTy_tup (xs : List D) (t : Ty) : isTy (.tuple xs) t = (t == .tuple) := by cases t <;> rfl
@[simp] theorem isTy_lst (xs : List D) (t : Ty) : isTy (.list xs) t = (t == .list) := by cases t <;> rfl
@[simp] theorem isTy_str (s : Str) (t : Ty) : isTy (.str s) t = (t == .str) := by cases t <;> rfl
@[simp] theorem isTy_none (t : Ty) : isTy .none t = false := by cases t <;> rfl
@[simp] theorem isNone_int (i : Int) : isNone (.int i) = false := rfl
@[simp] theorem isNone_bool (i : Bool) : isNone (.bool i) = false := rfl
@[simp] theorem isNone_tup (i : List D) : isNone (.tuple i) = false := rfl
@[simp] theorem isNone_lst (i : List D) : isNone (.list i) = false := rfl
@[simp] theorem isNone_str (s : Str) : isNone (.str s) = false := rfl
@[simp] theorem isNone_none : isNone .none = true := rfl
@[simp] theorem blt_len_t (xs : List D) : bltD .len [.tuple xs] = some (.d (.int xs.length)) := rfl
@[simp] theorem blt_len_l (xs : List D) : bltD .len [.list xs] = some (.d (.int xs.length)) := rfl
@[simp] theorem blt_int_i (i : Int) : bltD .int [.int i] = some (.d (.int i)) := rfl
@[simp] theorem blt_int_b (i : Bool) : bltD .int [.bool i] = some (.d (.int (if i then 1 else 0))) := rfl
@[simp] theorem blt_abs (i : Int) : bltD .abs [.int i] = some (.d (.int (if i < 0 then -i else i))) := rfl
@[simp] theorem blt_min2 (i j : Int) : bltD .min [.int i, .int j] = some (.d (.int (if j < i then j else i))) := rfl
@[simp] theorem blt_max2 (i j : Int) : bltD .max [.int i, .int j] = some (.d (.int (if j > i then j else i))) := rfl
@[simp] theorem blt_tup_l (xs : List D) : bltD .tuple [.list xs] = some (.d (.tuple xs)) := rfl
@[simp] theorem blt_tup_t (xs : List D) : bltD .tuple [.tuple xs] = some (.d (.tuple xs)) := rfl
@[simp] theorem blt_lst_l (xs : List D) : bltD .list [.list xs] = some (.f (.list xs)) := rfl
@[simp] theorem blt_lst_t (xs : List D) : bltD .list [.tuple xs] = some (.f (.list xs)) := rfl
theorem boolsOf_map {α : Type} (p : α → Bool) : ∀ xs : List α, boolsOf (xs.map fun x => .bool (p x)) = some (xs.map p)
  | [] => rfl
  | x :: r => by rw [List.map_cons, boolsOf, boolsOf_map p r]; rfl
theorem intsOf_map' {α : Type} (p : α → Int) : ∀ xs : List α, intsOf (xs.map fun x => .int (p x)) = some (xs.map p)
  | [] => rfl
  | x :: r => by rw [List.map_cons, intsOf, intsOf_map' p r]; rfl
@[simp] theorem boolsOf_b (bs : List Bool) : boolsOf (bs.map .bool) = some bs := by have := boolsOf_map id bs; simpa using this
@[simp] theorem intsOf_i (ns : List Int) : intsOf (ns.map .int) = some ns := by have := intsOf_map' id ns; simpa using this
theorem truthsOf_b {xs : List D} {bs : List Bool} (h : boolsOf xs = some bs) : truthsOf xs = some bs := by unfold truthsOf; rw [h]
theorem blt_all_of {xs : List D} {bs : List Bool} (h : boolsOf xs = some bs) : bltD .all [.list xs] = some (.d (.bool (bs.all id))) := by show (truthsOf xs).bind _ = _; rw [truthsOf_b h]; rfl
theorem blt_any_of {xs : List D} {bs : List Bool} (h : boolsOf xs = some bs) : bltD .any [.list xs] = some (.d (.bool (bs.any id))) := by show (truthsOf xs).bind _ = _; rw [truthsOf_b h]; rfl
theorem blt_sorted_of {xs : List D} {ns : List Int} (h : intsOf xs = some ns) : bltD .sorted [.list xs] = some (.f (.list ((sortI ns).map .int))) := by show sortD xs = _; unfold sortD; rw [h]
theorem blt_max_of {xs : List D} {n : Int} {ns : List Int} (h : intsOf xs = some (n :: ns)) : bltD .max [.list xs] = some (.d (.int (maxI n ns))) := by show (intsOf xs).bind _ = _; rw [h]; rfl
@[simp] theorem blt_all_b (bs : List Bool) : bltD .all [.list (bs.map .bool)] = some (.d (.bool (bs.all id))) := blt_all_of (boolsOf_b bs)
@[simp] theorem blt_any_b (bs : List Bool) : bltD .any [.list (bs.map .bool)] = some (.d (.bool (bs.any id))) := blt_any_of (boolsOf_b bs)
@[simp] theorem truthsOf_i : ∀ ns : List Int, truthsOf (ns.map .int) = some (ns.map fun n => n != 0)
  | [] => rfl
  | n :: ns => by
    show (match boolsOf (.int n :: ns.map .int) with | some bs => some bs | none => (intsOf ((n :: ns).map .int)).map fun (ns : List Int) => ns.map fun n => n != 0) = _
    rw [intsOf_i]
    rfl
@[simp] theorem blt_any_i (ns : List Int) : bltD .any [.list (ns.map .int)] = some (.d (.bool (ns.any fun n => n != 0))) := by
  show (truthsOf _).bind _ = _
  rw [truthsOf_i, Option.bind_some, List.any_map]; rfl
@[simp] theorem blt_any_ti (ns : List Int) : bltD .any [.tuple (ns.map .int)] = some (.d (.bool (ns.any fun n => n != 0))) := by
  show (truthsOf _).bind _ = _
  rw [truthsOf_i, Option.bind_some, List.any_map]; rfl
@[simp] theorem blt_all_ti (ns : List Int) : bltD .all [.tuple (ns.map .int)] = some (.d (.bool (ns.all fun n => n != 0))) := by
  show (truthsOf _).bind _ = _
  rw [truthsOf_i, Option.bind_some, List.all_map]; rfl
@[simp] theorem blt_sum_ti (ns : List Int) : bltD .sum [.tuple (ns.map .int)] = some (.d (.int ns.sum)) := by
  show (intsOf _).bind _ = _
  rw [intsOf_i]; rfl
theorem blt_max_ti (n : Int) (ns : List Int) : bltD .max [.tuple ((n :: ns).map .int)] = some (.d (.int (maxI n ns))) := by
  show (intsOf _).bind _ = _
  rw [intsOf_i]; rfl
theorem blt_min_ti (n : Int) (ns : List Int) : bltD .min [.tuple ((n :: ns).map .int)] = some (.d (.int (minI n ns))) := by
  show (intsOf _).bind _ = _
  rw [intsOf_i]; rfl
@[simp] theorem blt_sorted_i (ns : List Int) : bltD .sorted [.list (ns.map .int)] = some (.f (.list ((sortI ns).map .int))) := blt_sorted_of (intsOf_i ns)
@[simp] theorem sub_t0 (x : D) (r : List D) : subD (.tuple (x :: r)) (.int 0) = some x := by
  show L2.atI (x :: r) 0 = some x
  unfold L2.atI L2.ixN; rw [if_pos (by omega), if_pos (by simp <;> omega)]; rfl
@[simp] theorem sub_t1 (x y : D) (r : List D) : subD (.tuple (x :: y :: r)) (.int 1) = some y := by
  show L2.atI (x :: y :: r) 1 = some y
  unfold L2.atI L2.ixN; rw [if_pos (by omega), if_pos (by simp <;> omega)]; rfl
@[simp] theorem sub_t2 (x y z : D) (r : List D) : subD (.tuple (x :: y :: z :: r)) (.int 2) = some z := by
  show L2.atI (x :: y :: z :: r) 2 = some z
  unfold L2.atI L2.ixN; rw [if_pos (by omega), if_pos (by simp <;> omega)]; rfl
@[simp] theorem sub_l0 (x : D) (r : List D) : subD (.list (x :: r)) (.int 0) = some x := sub_t0 x r
@[simp] theorem sub_l1 (x y : D) (r : List D) : subD (.list (x :: y :: r)) (.int 1) = some y := sub_t1 x y r
@[simp] theorem sub_l2 (x y z : D) (r : List D) : subD (.list (x :: y :: z :: r)) (.int 2) = some z := sub_t2 x y z r
theorem atI_of {xs : List D} {i : Int} {d : D} (h0 : 0 ≤ i) (h : xs[i.toNat]? = some d) : L2.atI xs i = some d := by
  have := (List.getElem?_eq_some_iff.mp h).1
  unfold L2.atI L2.ixN; rw [if_pos h0, if_pos (by omega)]; exact h
theorem sub_t {xs : List D} {i : Int} {d : D} (h0 : 0 ≤ i) (h : xs[i.toNat]? = some d) : subD (.tuple xs) (.int i) = some d := atI_of h0 h
theorem sub_l {xs : List D} {i : Int} {d : D} (h0 : 0 ≤ i) (h : xs[i.toNat]? = some d) : subD (.list xs) (.int i) = some d := atI_of h0 h
theorem enumD_map {α : Type} (e : α → D) : ∀ (xs : List α) (k : Nat), enumD k (xs.map e) = (xs.zipIdx k).map fun p => .tuple [.int p.2, e p.1]
  | [], k => rfl
  | x :: r, k => by simp only [List.map_cons, enumD, enumD_map e r, List.zipIdx_cons]
theorem rngD_map (lo hi : Int) : rngD lo hi = ((List.range (hi - lo).toNat).map fun i => lo + (i : Nat)).map .int := by simp [rngD, Function.comp_def]
/-- one call -/
theorem run_eq {fns : List Fn} {W n k : Nat} {F : Fn} {rs : List R} {S : Store} (h : fns[k]? = some F) (hl : rs.length = F.np) (hm : F.mu.length = F.np) (ho : rs.all okA = true) :
    run fns W (n + 1) k rs S = (exs (run fns W n) W S.length F.body [] ((ent F.mu rs S).1 ++ List.replicate (F.ns - F.np) none) (ent F.mu rs S).2).bind fun p => leave S.length p.1 p.2 := by
  rw [run, h]
  simp only [Option.bind_some]
  rw [if_pos ⟨⟨hl, hm⟩, ho⟩]
end Ip
namespace Ip
theorem tupsOf_tupI : ∀ ks : List (List Int), (∀ k ∈ ks, k ≠ []) → tupsOf (ks.map tupI) = some ks
  | [], _ => rfl
  | [] :: _, h => absurd rfl (h [] (by simp))
  | (n :: ns) :: r, h => by
    have e : intsOf ((n :: ns).map PySem.PyData.int) = some (n :: ns) := intsOf_i _
    rw [List.map_cons]
    show (intsOf ((n :: ns).map PySem.PyData.int)).bind _ = _
    rw [e]
    show (tupsOf (r.map tupI)).map _ = _
    rw [tupsOf_tupI r fun k hk => h k (List.mem_cons_of_mem _ hk)]; rfl
/-- sorted of tuples of whole numbers -/
theorem blt_sorted_t (ks : List (List Int)) (h : ∀ k ∈ ks, k ≠ []) : bltD .sorted [.list (ks.map tupI)] = some (.f (.list ((sortT ks).map tupI))) := by
  show sortD _ = _
  cases ks with
  | nil => rfl
  | cons k r =>
    have e : intsOf ((k :: r).map tupI) = none := rfl
    unfold sortD
    rw [e, tupsOf_tupI _ h]
theorem blt_sorted_g {ys : List D} (h1 : intsOf ys = none) (h2 : tupsOf ys = none) (h3 : goodS ys = true) : bltD .sorted [.list ys] = some (.f (.list (sortG ys))) := by
  show sortD ys = _
  unfold sortD
  rw [h1, h2]
  exact if_pos h3
/-- sorted of a dict -/
theorem blt_sorted_d {es : List (D × D)} {ks : List (List Int)} (e : es.map (·.1) = ks.map tupI) (h : ∀ k ∈ ks, k ≠ []) : bltD .sorted [.dict ((.none, .none) :: es)] = some (.f (.list ((sortT ks).map tupI))) := by
  show (tupsOf (es.map (·.1))).bind _ = _
  rw [e, tupsOf_tupI _ h]; rfl
theorem blt_list_d (es : List (D × D)) : bltD .list [.dict ((.none, .none) :: es)] = some (.f (.list (es.map (·.1)))) := rfl
theorem blt_len_d (es : List (D × D)) : bltD .len [.dict ((.none, .none) :: es)] = some (.d (.int es.length)) := rfl
theorem blt_dict_l {ys : List D} {ds : List (D × D)} (h : dictOf true ys = some ds) : bltD .dict [.list ys] = some (.f (.dict ds)) := by
  show (dictOf true ys).map _ = _
  rw [h]; rfl
end Ip

set_option Elab.async false
set_option linter.all false
set_option maxRecDepth 100000
set_option maxHeartbeats 1000000
/-! Loops, calls: what is used in proofs of laws. -/
namespace Ip
open PySem
section
variable {f : D → Store → Option (List D × Store)} {S : Store}
@[simp] theorem still_none (S : Store) : still none S = True := rfl
theorem lpC_all {g : D → List D} : ∀ {xs : List D}, (∀ x ∈ xs, f x S = some (g x, S)) → lpC none f xs S = some (xs.flatMap g, S)
  | [], _ => by simp [lpC]
  | x :: r, h => by
    rw [lpC, if_pos (show still none _ from trivial), h x (List.mem_cons_self ..)]
    simp only [Option.bind_some]
    rw [lpC_all fun y hy => h y (List.mem_cons_of_mem _ hy)]
    rfl
theorem lpC_map {g : D → D} {xs : List D} (h : ∀ x ∈ xs, f x S = some ([g x], S)) : lpC none f xs S = some (xs.map g, S) := by
  rw [lpC_all (g := fun x => [g x]) h]
  congr 2
  induction xs with
  | nil => rfl
  | cons x r ih => simp [ih fun y hy => h y (List.mem_cons_of_mem _ hy)]
/-- over data that stand for other values -/
theorem lpC_of {α : Type} {e : α → D} {g : α → List D} : ∀ {xs : List α}, (∀ x ∈ xs, f (e x) S = some (g x, S)) → lpC none f (xs.map e) S = some (xs.flatMap g, S)
  | [], _ => by simp [lpC]
  | x :: r, h => by
    rw [List.map_cons, lpC, if_pos (show still none _ from trivial), h x (List.mem_cons_self ..)]
    simp only [Option.bind_some]
    rw [lpC_of fun y hy => h y (List.mem_cons_of_mem _ hy)]
    rfl
theorem lpC_ofm {α β : Type} {e : α → D} {e' : β → D} {g : α → β} {xs : List α} (h : ∀ x ∈ xs, f (e x) S = some ([e' (g x)], S)) : lpC none f (xs.map e) S = some ((xs.map g).map e', S) := by
  rw [lpC_of (g := fun x => [e' (g x)]) h]
  congr 2
  induction xs with
  | nil => rfl
  | cons x r ih => simp [ih fun y hy => h y (List.mem_cons_of_mem _ hy)]
theorem lpC_off {α β : Type} {e : α → D} {e' : β → D} {g : α → β} {p : α → Bool} {xs : List α} (h : ∀ x ∈ xs, f (e x) S = some (if p x then [e' (g x)] else [], S)) : lpC none f (xs.map e) S = some (((xs.filter p).map g).map e', S) := by
  rw [lpC_of (g := fun x => if p x then [e' (g x)] else []) h]
  congr 2
  induction xs with
  | nil => rfl
  | cons x r ih =>
    rw [List.flatMap_cons, ih fun y hy => h y (List.mem_cons_of_mem _ hy), List.filter_cons]
    cases p x <;> simp
/-- the store changes: an invariant -/
theorem lpC_inv {α : Type} {e : α → D} {I : Store → Prop} {P : α → List D → Prop} : ∀ {xs : List α} {S : Store}, I S → (∀ x ∈ xs, ∀ S, I S → ∃ ys S', f (e x) S = some (ys, S') ∧ I S' ∧ P x ys) →
    ∃ (zs : List (List D)) (S' : Store), lpC none f (xs.map e) S = some (zs.flatten, S') ∧ I S' ∧ zs.length = xs.length ∧ ∀ (i : Nat) (x : α) (ys : List D), xs[i]? = some x → zs[i]? = some ys → P x ys
  | [], S, i, _ => ⟨[], S, by simp [lpC], i, rfl, fun i x ys h => by simp at h⟩
  | x :: r, S, i, h => by
    obtain ⟨ys, S1, e1, i1, p1⟩ := h x (List.mem_cons_self ..) S i
    obtain ⟨zs, S2, e2, i2, l2, p2⟩ := lpC_inv (xs := r) i1 fun y hy => h y (List.mem_cons_of_mem _ hy)
    refine ⟨ys :: zs, S2, ?_, i2, by simp [l2], fun j y ws h1 h2 => ?_⟩
    · rw [List.map_cons, lpC, if_pos (show still none _ from trivial), e1]
      simp only [Option.bind_some]
      rw [e2]; rfl
    · cases j with
      | zero => simp at h1 h2; subst h1; subst h2; exact p1
      | succ j => exact p2 j y ws (by simpa using h1) (by simpa using h2)
end
section
variable {f : D → Ev → Store → Option (Ou × Store)}
/-- a loop that comes to its end: an invariant by the turn -/
theorem lpS_inv {α : Type} {e : α → D} {I : Nat → Ev → Store → Prop} : ∀ {xs : List α} {k : Nat} {σ : Ev} {S : Store}, I k σ S → (∀ (i : Nat) (x : α) (σ : Ev) (S : Store), xs[i]? = some x → I (k + i) σ S → ∃ σ' S', f (e x) σ S = some (.nx σ', S') ∧ I (k + i + 1) σ' S') →
    ∃ σ' S', lpS none f (xs.map e) σ S = some (.nx σ', S') ∧ I (k + xs.length) σ' S'
  | [], k, σ, S, i, _ => ⟨σ, S, by simp [lpS], i⟩
  | x :: r, k, σ, S, i, h => by
    obtain ⟨σ1, S1, e1, i1⟩ := h 0 x σ S rfl i
    obtain ⟨σ2, S2, e2, i2⟩ := lpS_inv (xs := r) (k := k + 1) i1 fun j y σ S hj q => by
      have := h (j + 1) y σ S (by simpa using hj) (by rw [show k + (j + 1) = k + 1 + j by omega]; exact q)
      rw [show k + (j + 1) + 1 = k + 1 + j + 1 by omega] at this
      exact this
    refine ⟨σ2, S2, ?_, by rw [List.length_cons, show k + (r.length + 1) = k + 1 + r.length by omega]; exact i2⟩
    rw [List.map_cons, lpS, if_pos (show still none _ from trivial), e1]
    exact e2
/-- a fold -/
theorem lpS_fold {α β : Type} {e : α → D} {st : β → Ev} {S : Store} {g : β → α → β} : ∀ {xs : List α} {b : β}, (∀ x ∈ xs, ∀ b, f (e x) (st b) S = some (.nx (st (g b x)), S)) → lpS none f (xs.map e) (st b) S = some (.nx (st (xs.foldl g b)), S)
  | [], b, _ => by simp [lpS]
  | x :: r, b, h => by
    rw [List.map_cons, lpS, if_pos (show still none _ from trivial), h x (List.mem_cons_self ..) b]
    exact lpS_fold fun y hy => h y (List.mem_cons_of_mem _ hy)
end
/-- a def that leaves the store: at every level from d on it gives r -/
def Pf (fns : List Fn) (W d k : Nat) (args : List R) (r : R) : Prop := ∀ n, d ≤ n → ∀ S, run fns W n k args S = some (r, S)
theorem Pf.mono {fns : List Fn} {W d d' k : Nat} {args : List R} {r : R} (h : Pf fns W d k args r) (hd : d ≤ d') : Pf fns W d' k args r := fun n hn S => h n (by omega) S
theorem Pf.of {fns : List Fn} {W d k : Nat} {F : Fn} {args : List R} {r : R} (h : fns[k]? = some F) (hl : args.length = F.np) (hm : F.mu.length = F.np)
    (hb : ∀ n, d ≤ n → ∀ S, ((exs (run fns W n) W S.length F.body [] ((ent F.mu args S).1 ++ List.replicate (F.ns - F.np) none) (ent F.mu args S).2).bind fun p => leave S.length p.1 p.2) = some (r, S)) (ho : args.all okA = true := by rfl) : Pf fns W (d + 1) k args r := fun n hn S => by
  obtain ⟨m, rfl⟩ : ∃ m, n = m + 1 := ⟨n - 1, by omega⟩
  rw [run_eq h hl hm ho]
  exact hb m (by omega) S
@[simp] theorem take_len {α : Type} (S : List α) : S.take S.length = S := List.take_length
theorem LIM_eq : LIM = 16777216 := rfl
/-! ### what comes out -/
def Ok {α : Type} (o : Option α) (Q : α → Prop) : Prop := ∃ x, o = some x ∧ Q x
theorem Ok.some {α : Type} {x : α} {Q : α → Prop} (h : Q x) : Ok (some x) Q := ⟨x, rfl, h⟩
theorem Ok.of_eq {α : Type} {o : Option α} {x : α} {Q : α → Prop} (e : o = Option.some x) (h : Q x) : Ok o Q := ⟨x, e, h⟩
theorem Ok.bind {α β : Type} {o : Option α} {f : α → Option β} {P : α → Prop} {Q : β → Prop} (h : Ok o P) (hf : ∀ x, P x → Ok (f x) Q) : Ok (o.bind f) Q := by
  obtain ⟨x, rfl, p⟩ := h
  exact hf x p
theorem Ok.mono {α : Type} {o : Option α} {P Q : α → Prop} (h : Ok o P) (m : ∀ x, P x → Q x) : Ok o Q := let ⟨x, e, p⟩ := h; ⟨x, e, m x p⟩
theorem Ok.eq {α : Type} {o : Option α} {x : α} (h : Ok o (· = x)) : o = Option.some x := by obtain ⟨y, e, rfl⟩ := h; exact e
theorem lpS_ok {α : Type} {f : D → Ev → Store → Option (Ou × Store)} {e : α → D} {I : Nat → Ev → Store → Prop} {xs : List α} {σ : Ev} {S : Store} (i0 : I 0 σ S)
    (h : ∀ (i : Nat) (x : α) (σ : Ev) (S : Store), xs[i]? = Option.some x → I i σ S → Ok (f (e x) σ S) fun p => ∃ σ', p.1 = .nx σ' ∧ I (i + 1) σ' p.2) : Ok (lpS none f (xs.map e) σ S) fun p => ∃ σ', p.1 = .nx σ' ∧ I xs.length σ' p.2 := by
  obtain ⟨σ', S', e1, e2⟩ := lpS_inv (f := f) (e := e) (I := I) (xs := xs) (k := 0) i0 fun i x σ S hx q => by
    rw [Nat.zero_add] at q
    obtain ⟨⟨o, S1⟩, e1, σ', e2, q2⟩ := h i x σ S hx q
    cases e2
    exact ⟨σ', S1, e1, by rw [Nat.zero_add]; exact q2⟩
  rw [Nat.zero_add] at e2
  exact ⟨_, e1, σ', rfl, e2⟩
theorem lpC_ok {α : Type} {f : D → Store → Option (List D × Store)} {e : α → D} {I : Store → Prop} {P : α → List D → Prop} {xs : List α} {S : Store} (i0 : I S) (h : ∀ x ∈ xs, ∀ S, I S → Ok (f (e x) S) fun p => I p.2 ∧ P x p.1) :
    Ok (lpC none f (xs.map e) S) fun p => I p.2 ∧ ∃ zs : List (List D), p.1 = zs.flatten ∧ zs.length = xs.length ∧ ∀ (i : Nat) (x : α) (ys : List D), xs[i]? = Option.some x → zs[i]? = Option.some ys → P x ys := by
  obtain ⟨zs, S', e1, i1, l1, p1⟩ := lpC_inv (f := f) (e := e) (I := I) (P := P) i0 fun x hx S i => by
    obtain ⟨⟨ys, S1⟩, e1, i1, p1⟩ := h x hx S i
    exact ⟨ys, S1, e1, i1, p1⟩
  exact ⟨_, e1, i1, zs, rfl, l1, p1⟩
/-- a call's end -/
def Wf (fns : List Fn) (W d k : Nat) (args : List R) (S : Store) (Q : R → Store → Prop) : Prop := ∀ n, d ≤ n → Ok (run fns W n k args S) fun p => Q p.1 p.2
theorem Wf.mono {fns : List Fn} {W d d' k : Nat} {args : List R} {S : Store} {Q : R → Store → Prop} (h : Wf fns W d k args S Q) (hd : d ≤ d') : Wf fns W d' k args S Q := fun n hn => h n (by omega)
theorem Pf.wf {fns : List Fn} {W d k : Nat} {args : List R} {r : R} {S : Store} {Q : R → Store → Prop} (h : Pf fns W d k args r) (q : Q r S) : Wf fns W d k args S Q := fun n hn => ⟨_, h n hn S, q⟩
theorem Wf.of {fns : List Fn} {W d k : Nat} {F : Fn} {args : List R} {S : Store} {Q : R → Store → Prop} (h : fns[k]? = Option.some F) (hl : args.length = F.np) (hm : F.mu.length = F.np)
    (hb : ∀ n, d ≤ n → Ok ((exs (run fns W n) W S.length F.body [] ((ent F.mu args S).1 ++ List.replicate (F.ns - F.np) none) (ent F.mu args S).2).bind fun p => leave S.length p.1 p.2) fun p => Q p.1 p.2) (ho : args.all okA = true := by rfl) : Wf fns W (d + 1) k args S Q := fun n hn => by
  obtain ⟨m, rfl⟩ : ∃ m, n = m + 1 := ⟨n - 1, by omega⟩
  rw [run_eq h hl hm ho]
  exact hb m (by omega)
@[simp] theorem take_set {α : Type} (S : List α) (p : Nat) (x : α) : (S.set p x).take S.length = S.set p x := List.take_of_length_le (by simp)
@[simp] theorem take_app {α : Type} (S : List α) (T : List α) : (S ++ T).take S.length = S := by simp
@[simp] theorem take_set_app {α : Type} (S : List α) (p : Nat) (x : α) (T : List α) : (S.set p x ++ T).take S.length = S.set p x := by
  have := take_app (S.set p x) T
  rwa [List.length_set] at this
@[simp] theorem get_last {α : Type} (S : List α) (x : α) (T : List α) : (S ++ x :: T)[S.length]? = Option.some x := by simp
@[simp] theorem get_last_set {α : Type} (S : List α) (p : Nat) (y x : α) (T : List α) : (S.set p y ++ x :: T)[S.length]? = Option.some x := by
  have := get_last (S.set p y) x T
  rwa [List.length_set] at this
theorem lt_of_get {α : Type} {S : List α} {p : Nat} {x : α} (h : S[p]? = Option.some x) : p < S.length := (List.getElem?_eq_some_iff.mp h).1
theorem get_set {α : Type} {S : List α} {p : Nat} {x : α} (y : α) (h : S[p]? = Option.some x) : (S.set p y)[p]? = Option.some y := List.getElem?_set_self (lt_of_get h)
theorem get_app {α : Type} {S T : List α} {p : Nat} {x : α} (h : S[p]? = Option.some x) : (S ++ T)[p]? = Option.some x := by rw [List.getElem?_append_left (lt_of_get h)]; exact h
theorem set_app {α : Type} {S T : List α} {p : Nat} {x y : α} (h : S[p]? = Option.some x) : (S ++ T).set p y = S.set p y ++ T := by rw [List.set_append_left _ _ (lt_of_get h)]
theorem set_set_app {α : Type} {S T : List α} {p : Nat} {y z : α} (h : p < S.length) : (S.set p y ++ T).set p z = S.set p z ++ T := by
  rw [List.set_append_left _ _ (by simpa using h), List.set_set]
theorem Pool.lt {S : Store} {p : Nat} {y : D} {Q : D → Prop} (h : ∃ x, S[p]? = Option.some x ∧ Q x) : p < S.length := let ⟨_, e, _⟩ := h; lt_of_get e
theorem set_self {α : Type} {S : List α} {p : Nat} {x : α} (h : S[p]? = Option.some x) : S.set p x = S := by
  obtain ⟨hl, he⟩ := List.getElem?_eq_some_iff.mp h
  rw [← he]; exact List.set_getElem_self hl
@[simp] theorem set_last {α : Type} (S : List α) (x y : α) : (S ++ [x]).set S.length y = S ++ [y] := by rw [List.set_append_right _ _ (Nat.le_refl _)]; simp
@[simp] theorem set_last_set {α : Type} (S : List α) (p : Nat) (z x y : α) : (S.set p z ++ [x]).set S.length y = S.set p z ++ [y] := by
  have := set_last (S.set p z) x y
  rwa [List.length_set] at this
@[simp] theorem setv_new (B : Nat) (L : List Nat) (σ : Ev) (S : Store) (i : Nat) (x : D) (h : σ[i]? = Option.some none) : setv B L true σ S i (.f x) = Option.some (σ.set i (Option.some (.l S.length)), S ++ [x]) := by
  simp only [setv, if_true, h]
theorem cmulB_r {i j : Int} (h : -(2 ^ 64) < j ∧ j < 2 ^ 64) : cmulB i j = true := by simp only [cmulB, Bool.or_eq_true, decide_eq_true_eq]; omega
theorem cmulB_l {i j : Int} (h : -(2 ^ 64) < i ∧ i < 2 ^ 64) : cmulB i j = true := by simp only [cmulB, Bool.or_eq_true, decide_eq_true_eq]; omega
theorem fm_lt (x : Int) {j : Int} (h : 0 < j) : 0 ≤ x.fmod j ∧ x.fmod j < j := ⟨Int.fmod_nonneg_of_pos x h, Int.fmod_lt_of_pos x h⟩
theorem cmulB_fm {i x j c : Int} (h : 0 < j ∧ j < 2 ^ 62 ∧ -(2 ^ 62) < c ∧ c < 2 ^ 62) : cmulB i (x.fmod j + c) = true := by
  have := fm_lt x h.1
  exact cmulB_r (by omega)
theorem cmulB_fl {i x j : Int} (h : 0 < j ∧ j < 2 ^ 62) : cmulB (x.fmod j) i = true := by
  have := fm_lt x h.1
  exact cmulB_l (by omega)
theorem inR_r {i : Int} (h : -(2 ^ 62) < i ∧ i < 2 ^ 62) : inR i = true := by simp only [inR, decide_eq_true_eq]; omega
/-! ### what every law draws -/
/-- the pool stands at p -/
def PoolD (x : D) : Prop := ∃ a b c : Int, 0 ≤ a ∧ x = .list [.int a, .int b, .int c]
def Pool (S : Store) (p : Nat) : Prop := ∃ x, S[p]? = Option.some x ∧ PoolD x
theorem Pool.set {S : Store} {p : Nat} {x : D} (h : Pool S p) (hx : PoolD x) : Pool (S.set p x) p := let ⟨_, e, _⟩ := h; ⟨x, get_set x e, hx⟩
theorem Pool.app {S T : Store} {p : Nat} (h : Pool S p) : Pool (S ++ T) p := let ⟨x, e, q⟩ := h; ⟨x, get_app e, q⟩
/-- a draw below m -/
def Below (fns : List Fn) (W d k : Nat) : Prop := ∀ (S : Store) (p : Nat) (m : Int), Pool S p → 0 < m → m < 1073741824 → Wf fns W d k [.l p, .d (.int m)] S fun r S' => ∃ v : Int, r = .d (.int v) ∧ 0 ≤ v ∧ v < m ∧ ∃ x, PoolD x ∧ S' = S.set p x
/-- data that the laws compare -/
def Sm : Nat → D → Prop
  | _, .none => True
  | _, .bool _ => True
  | _, .int _ => True
  | _, .str s => PyData.strOk s = true
  | d + 1, .tuple xs => xs.length ≤ LIM ∧ ∀ x ∈ xs, Sm d x
  | _, _ => False
@[simp] theorem cm_eqb (b : Bool) : cmD .eq (.bool b) (.bool b) = Option.some true := by cases b <;> rfl
theorem cm_eqs {b : Str} (h : PyData.strOk b = true) : cmD .eq (.str b) (.str b) = Option.some true := by
  show eqD _ _ = _
  unfold eqD
  rw [show SeqAt.shaped (.str b) = true by simp [SeqAt.shaped, PyData.canLay0, PyData.depth, h]]
  simp [PyData.eqv]
theorem zipD_self : ∀ xs : List D, zipD xs xs = xs.map fun x => .tuple [x, x]
  | [] => rfl
  | x :: r => by simp [zipD, zipD_self r]
theorem all_true : ∀ {xs : List D}, boolsOf (xs.map fun _ => .bool true) = Option.some (xs.map fun _ => true)
  | [] => rfl
  | x :: r => by rw [List.map_cons, boolsOf, all_true]; rfl
/-! .. with what comes behind -/
theorem lpS_k {α β : Type} {f : D → Ev → Store → Option (Ou × Store)} {e : α → D} (I : Nat → Ev → Store → Prop) {xs : List α} {σ : Ev} {S : Store} {K : Ou × Store → Option β} {Q0 : β → Prop} (i0 : I 0 σ S)
    (h : ∀ (i : Nat) (x : α) (σ : Ev) (S : Store) (Q : Ou × Store → Prop), xs[i]? = Option.some x → I i σ S → (∀ σ' S', I (i + 1) σ' S' → Q (.nx σ', S')) → Ok (f (e x) σ S) Q)
    (fin : ∀ σ' S', I xs.length σ' S' → Ok (K (.nx σ', S')) Q0) : Ok ((lpS none f (xs.map e) σ S).bind K) Q0 := by
  refine Ok.bind (lpS_ok (I := I) i0 fun i x σ S hx q => h i x σ S _ hx q fun σ' S' q' => ⟨σ', rfl, q'⟩) ?_
  rintro ⟨o, S'⟩ ⟨σ', rfl, q⟩
  exact fin σ' S' q
theorem lpC_k {α β : Type} {f : D → Store → Option (List D × Store)} {e : α → D} (I : Store → Prop) (P : α → List D → Prop) {xs : List α} {S : Store} {K : List D × Store → Option β} {Q0 : β → Prop} (i0 : I S)
    (h : ∀ x ∈ xs, ∀ S (Q : List D × Store → Prop), I S → (∀ ys S', I S' → P x ys → Q (ys, S')) → Ok (f (e x) S) Q)
    (fin : ∀ (zs : List (List D)) S', I S' → zs.length = xs.length → (∀ (i : Nat) (x : α) (ys : List D), xs[i]? = Option.some x → zs[i]? = Option.some ys → P x ys) → Ok (K (zs.flatten, S')) Q0) : Ok ((lpC none f (xs.map e) S).bind K) Q0 := by
  refine Ok.bind (lpC_ok (I := I) (P := P) i0 fun x hx S q => h x hx S _ q fun ys S' q' p => ⟨q', p⟩) ?_
  rintro ⟨o, S'⟩ ⟨q, zs, rfl, l, p⟩
  exact fin zs S' q l p
theorem Wf.ofk {fns : List Fn} {W d k : Nat} {F : Fn} {args : List R} {S : Store} {Q : R → Store → Prop} (h : fns[k]? = Option.some F) (hl : args.length = F.np) (hm : F.mu.length = F.np)
    (hb : ∀ n (Q' : R × Store → Prop), d ≤ n → (∀ r S', Q r S' → Q' (r, S')) → Ok ((exs (run fns W n) W S.length F.body [] ((ent F.mu args S).1 ++ List.replicate (F.ns - F.np) none) (ent F.mu args S).2).bind fun p => leave S.length p.1 p.2) Q') (ho : args.all okA = true := by rfl) : Wf fns W (d + 1) k args S Q :=
  Wf.of h hl hm (fun n hn => hb n _ hn fun _ _ q => q) ho
/-- a call, with what comes behind -/
theorem Wf.k {fns : List Fn} {W d k : Nat} {args : List R} {S : Store} {Q : R → Store → Prop} {β : Type} {K : R × Store → Option β} {Q0 : β → Prop} {n : Nat} (h : Wf fns W d k args S Q) (hn : d ≤ n) (fin : ∀ r S', Q r S' → Ok (K (r, S')) Q0) : Ok ((run fns W n k args S).bind K) Q0 :=
  Ok.bind (h n hn) fun ⟨r, S'⟩ q => fin r S' q
theorem cutD_map {α : Type} (e : α → D) (xs : List α) (lo hi : Option Int) : cutD (xs.map e) lo hi = ((xs.drop (HT.sIx xs.length 0 lo)).take (HT.sIx xs.length xs.length hi - HT.sIx xs.length 0 lo)).map e := by
  unfold cutD
  rw [List.length_map, ← List.map_drop, ← List.map_take]
@[simp] theorem lim_0 : 0 ≤ LIM := by decide
@[simp] theorem lim_1 : 1 ≤ LIM := by decide
@[simp] theorem lim_2 : 2 ≤ LIM := by decide
@[simp] theorem lim_3 : 3 ≤ LIM := by decide
@[simp] theorem lim_4 : 4 ≤ LIM := by decide
@[simp] theorem lim_5 : 5 ≤ LIM := by decide
@[simp] theorem lim_6 : 6 ≤ LIM := by decide
@[simp] theorem lim_7 : 7 ≤ LIM := by decide
@[simp] theorem lim_8 : 8 ≤ LIM := by decide
@[simp] theorem lim_9 : 9 ≤ LIM := by decide
@[simp] theorem lim_10 : 10 ≤ LIM := by decide
@[simp] theorem lim_11 : 11 ≤ LIM := by decide
@[simp] theorem lim_12 : 12 ≤ LIM := by decide
@[simp] theorem lim_13 : 13 ≤ LIM := by decide
@[simp] theorem lim_14 : 14 ≤ LIM := by decide
@[simp] theorem lim_15 : 15 ≤ LIM := by decide
@[simp] theorem lim_16 : 16 ≤ LIM := by decide
/-! ranges -/
def rngL (lo hi : Int) : List Int := (List.range (hi - lo).toNat).map fun (i : Nat) => lo + (i : Int)
theorem rngD_L (lo hi : Int) : rngD lo hi = (rngL lo hi).map .int := rngD_map lo hi
theorem rngL_mem {lo hi x : Int} : x ∈ rngL lo hi ↔ lo ≤ x ∧ x < hi := by
  simp only [rngL, List.mem_map, List.mem_range]
  constructor
  · rintro ⟨n, h, rfl⟩; omega
  · rintro ⟨h1, h2⟩; exact ⟨(x - lo).toNat, by omega, by omega⟩
@[simp] theorem rngL_length (lo hi : Int) : (rngL lo hi).length = (hi - lo).toNat := by simp [rngL]
theorem rngL_get {lo hi i : Int} (h0 : 0 ≤ i) (h1 : lo + i < hi) : (rngL lo hi)[i.toNat]? = Option.some (lo + i) := by
  unfold rngL
  rw [List.getElem?_map, List.getElem?_range (by omega)]
  simp; omega
theorem rngL_at {lo hi x : Int} {i : Nat} (h : (rngL lo hi)[i]? = Option.some x) : x = lo + i ∧ x < hi := by
  unfold rngL at h
  rw [List.getElem?_map, Option.map_eq_some_iff] at h
  obtain ⟨j, h1, rfl⟩ := h
  obtain ⟨h2, h3⟩ := List.getElem?_eq_some_iff.mp h1
  simp only [List.length_range] at h2
  simp only [List.getElem_range] at h3
  subst h3
  exact ⟨rfl, by omega⟩
theorem rngL_cons {lo hi : Int} (h : lo < hi) : ∃ t, rngL lo hi = lo :: t := by
  unfold rngL
  obtain ⟨m, hm⟩ : ∃ m, (hi - lo).toNat = m + 1 := ⟨(hi - lo).toNat - 1, by omega⟩
  rw [hm, List.range_succ_eq_map, List.map_cons]
  exact ⟨_, by simp; rfl⟩
end Ip
namespace Ip
open PySem
/-! sorted by tuples of whole numbers -/
section
variable {α : Type} (k : α → List Int)
def insB (x : α) : List α → List α
  | [] => [x]
  | m :: r => if HT.lexLt (k m) (k x) then m :: insB x r else x :: m :: r
def sortB : List α → List α
  | [] => []
  | x :: r => insB k x (sortB r)
theorem insT_map (x : α) : ∀ l : List α, insT (k x) (l.map k) = (insB k x l).map k
  | [] => rfl
  | m :: r => by
    simp only [List.map_cons, insT, insB]
    split
    · rw [insT_map x r]; rfl
    · rfl
theorem sortT_map : ∀ l : List α, sortT (l.map k) = (sortB k l).map k
  | [] => rfl
  | x :: r => by simp only [List.map_cons, sortT, sortB, sortT_map r, insT_map]
theorem insB_perm (x : α) : ∀ l : List α, (insB k x l).Perm (x :: l)
  | [] => List.Perm.refl _
  | m :: r => by
    unfold insB
    split
    · exact ((insB_perm x r).cons m).trans (List.Perm.swap _ _ _)
    · exact List.Perm.refl _
theorem sortB_perm : ∀ l : List α, (sortB k l).Perm l
  | [] => List.Perm.refl _
  | x :: r => (insB_perm k x _).trans ((sortB_perm r).cons x)
theorem insB_sorted (x : α) : ∀ l : List α, l.Pairwise (fun a b => HT.lexLt (k b) (k a) = false) → (insB k x l).Pairwise (fun a b => HT.lexLt (k b) (k a) = false)
  | [], _ => by simp [insB]
  | m :: r, h => by
    obtain ⟨h1, h2⟩ := List.pairwise_cons.mp h
    unfold insB
    split
    · rename_i c
      refine List.pairwise_cons.mpr ⟨fun y hy => ?_, insB_sorted x r h2⟩
      rcases List.mem_cons.mp ((insB_perm k x r).mem_iff.mp hy) with rfl | hy
      · exact lex_asym _ _ c
      · exact h1 y hy
    · rename_i c
      have c : HT.lexLt (k m) (k x) = false := by simpa using c
      refine List.pairwise_cons.mpr ⟨fun y hy => ?_, h⟩
      rcases List.mem_cons.mp hy with rfl | hy
      · exact c
      · exact lex_ntr _ _ _ (h1 y hy) c
theorem sortB_sorted : ∀ l : List α, (sortB k l).Pairwise (fun a b => HT.lexLt (k b) (k a) = false)
  | [] => List.Pairwise.nil
  | x :: r => insB_sorted k x _ (sortB_sorted r)
theorem blt_sorted_tt (ks : List (List Int)) (h : ∀ k ∈ ks, k ≠ []) : bltD .sorted [.tuple (ks.map tupI)] = some (.f (.list ((sortT ks).map tupI))) := by
  show sortU _ = _
  cases ks with
  | nil => rfl
  | cons k r =>
    have e : intsOf ((k :: r).map tupI) = none := rfl
    unfold sortU
    rw [e, tupsOf_tupI _ h]; rfl
theorem blt_sorted_tb (xs : List α) (h : ∀ x ∈ xs, k x ≠ []) : bltD .sorted [.tuple (xs.map fun x => tupI (k x))] = some (.f (.list ((sortB k xs).map fun x => tupI (k x)))) := by
  have := blt_sorted_tt (xs.map k) (by simpa using h)
  rw [sortT_map, List.map_map, List.map_map] at this
  exact this
theorem blt_sorted_b (xs : List α) (h : ∀ x ∈ xs, k x ≠ []) : bltD .sorted [.list (xs.map fun x => tupI (k x))] = some (.f (.list ((sortB k xs).map fun x => tupI (k x)))) := by
  have := blt_sorted_t (xs.map k) (by simpa using h)
  rw [sortT_map, List.map_map, List.map_map] at this
  exact this
end
/-- over a list that stands at a place -/
theorem lpC_still {f : D → Store → Option (List D × Store)} {k : Option (Nat × List D)} {S : Store} (hs : still k S) : ∀ {xs : List D} {ys : List D}, (∀ x ∈ xs, ∃ y, f x S = some (y, S)) → lpC none f xs S = some (ys, S) → lpC k f xs S = some (ys, S)
  | [], ys, _, h => by
    rw [lpC, if_pos (show still none S from trivial)] at h
    rw [lpC, if_pos hs]; exact h
  | x :: r, ys, h0, h => by
    obtain ⟨y, e⟩ := h0 x (List.mem_cons_self ..)
    rw [lpC, if_pos (show still none S from trivial), e] at h
    rw [lpC, if_pos hs, e]
    simp only [Option.bind_some] at h ⊢
    cases q : lpC none f r S with
    | none => rw [q] at h; cases h
    | some p =>
      obtain ⟨zs, S'⟩ := p
      rw [q] at h
      simp only [Option.bind_some, Option.some.injEq, Prod.mk.injEq] at h
      obtain ⟨h1, rfl⟩ := h
      rw [lpC_still hs (fun z hz => h0 z (List.mem_cons_of_mem _ hz)) q]
      simp [h1]
theorem lpC_ofmk {α β : Type} {f : D → Store → Option (List D × Store)} {S : Store} {k : Option (Nat × List D)} {e : α → D} {e' : β → D} {g : α → β} {xs : List α} (hs : still k S) (h : ∀ x ∈ xs, f (e x) S = some ([e' (g x)], S)) : lpC k f (xs.map e) S = some ((xs.map g).map e', S) :=
  lpC_still hs (fun y hy => by obtain ⟨x, hx, rfl⟩ := List.mem_map.mp hy; exact ⟨_, h x hx⟩) (lpC_ofm h)
theorem lpC_offk {α β : Type} {f : D → Store → Option (List D × Store)} {S : Store} {k : Option (Nat × List D)} {e : α → D} {e' : β → D} {g : α → β} {p : α → Bool} {xs : List α} (hs : still k S) (h : ∀ x ∈ xs, f (e x) S = some (if p x then [e' (g x)] else [], S)) : lpC k f (xs.map e) S = some (((xs.filter p).map g).map e', S) :=
  lpC_still hs (fun y hy => by obtain ⟨x, hx, rfl⟩ := List.mem_map.mp hy; exact ⟨_, h x hx⟩) (lpC_off h)
theorem still_at {n : Nat} {xs : List D} {S : Store} (h : S[n]? = some (.list xs)) : still (some (n, xs)) S := h
/-- a loop that returns v at the first one with p -/
theorem lpS_findA {α : Type} {f : D → Ev → Store → Option (Ou × Store)} {e : α → D} {I : Nat → Ev → Store → Prop} {p : α → Bool} {v : R} : ∀ {xs : List α} {k : Nat} {σ : Ev} {S : Store}, I k σ S →
    (∀ (i : Nat) (x : α) (σ : Ev) (S : Store) (Q : Ou × Store → Prop), xs[i]? = some x → I (k + i) σ S → (p x = false → ∀ σ' S', I (k + i + 1) σ' S' → Q (.nx σ', S')) → (p x = true → ∀ j σ' S', I j σ' S' → Q (.rt v, S')) → Ok (f (e x) σ S) Q) →
    Ok (lpS none f (xs.map e) σ S) fun o => if xs.any p then o.1 = .rt v ∧ ∃ j σ', I j σ' o.2 else ∃ σ', o.1 = .nx σ' ∧ I (k + xs.length) σ' o.2
  | [], k, σ, S, i, _ => ⟨(.nx σ, S), by simp [lpS], by simpa using i⟩
  | x :: r, k, σ, S, i, h => by
    have h0 := h 0 x σ S (fun o => if p x then o.1 = .rt v ∧ ∃ j σ', I j σ' o.2 else ∃ σ', o.1 = .nx σ' ∧ I (k + 1) σ' o.2) rfl i
      (fun hp σ' S' q => by rw [if_neg (by simp [hp])]; exact ⟨σ', rfl, q⟩) (fun hp j σ' S' q => by rw [if_pos hp]; exact ⟨rfl, j, σ', q⟩)
    obtain ⟨⟨o, S1⟩, e1, q1⟩ := h0
    rw [List.map_cons, lpS, if_pos (show still none _ from trivial), e1, List.any_cons]
    simp only [Option.bind_some]
    by_cases c : p x = true
    · rw [if_pos c] at q1
      obtain ⟨z, q1⟩ := q1
      simp only at z; subst z
      refine ⟨_, rfl, ?_⟩
      simp only [c, Bool.true_or, if_true]
      exact ⟨trivial, q1⟩
    · rw [if_neg c] at q1
      obtain ⟨σ1, z, q1⟩ := q1
      simp only at z; subst z
      have c : p x = false := by simpa using c
      rw [c, Bool.false_or]
      have ih := lpS_findA (f := f) (e := e) (I := I) (p := p) (v := v) (xs := r) (k := k + 1) q1 fun j y σ S Q hj q n1 n2 => by
        have := h (j + 1) y σ S Q (by simpa using hj) (by rw [show k + (j + 1) = k + 1 + j by omega]; exact q)
        rw [show k + (j + 1) + 1 = k + 1 + j + 1 by omega] at this
        exact this n1 n2
      rw [List.length_cons, show k + (r.length + 1) = k + 1 + r.length by omega]
      exact ih
theorem lpS_find {α β : Type} {f : D → Ev → Store → Option (Ou × Store)} {e : α → D} (I : Nat → Ev → Store → Prop) (p : α → Bool) (v : R) {xs : List α} {σ : Ev} {S : Store} {K : Ou × Store → Option β} {Q0 : β → Prop} (i0 : I 0 σ S)
    (h : ∀ (i : Nat) (x : α) (σ : Ev) (S : Store) (Q : Ou × Store → Prop), xs[i]? = some x → I i σ S → (p x = false → ∀ σ' S', I (i + 1) σ' S' → Q (.nx σ', S')) → (p x = true → ∀ j σ' S', I j σ' S' → Q (.rt v, S')) → Ok (f (e x) σ S) Q)
    (fin : xs.any p = false → ∀ σ' S', I xs.length σ' S' → Ok (K (.nx σ', S')) Q0) (ret : xs.any p = true → ∀ j σ' S', I j σ' S' → Ok (K (.rt v, S')) Q0) : Ok ((lpS none f (xs.map e) σ S).bind K) Q0 := by
  refine Ok.bind (lpS_findA (I := I) (p := p) (v := v) (k := 0) i0 fun i x σ S Q hx q n1 n2 => h i x σ S Q hx (by rwa [Nat.zero_add] at q) (by rwa [Nat.zero_add] at n1) n2) ?_
  rintro ⟨o, S'⟩ q
  by_cases c : xs.any p = true
  · rw [if_pos c] at q
    obtain ⟨z, j, σ', q⟩ := q
    simp only at z; subst z
    exact ret c j σ' S' q
  · rw [if_neg c, Nat.zero_add] at q
    obtain ⟨σ', z, q⟩ := q
    simp only at z; subst z
    exact fin (by simpa using c) σ' S' q
@[simp] theorem cm_eqbb (a b : Bool) : cmD .eq (.bool a) (.bool b) = some (a == b) := by
  show eqD _ _ = _
  unfold eqD
  rw [show SeqAt.shaped (.bool a) = true from rfl, show SeqAt.shaped (.bool b) = true from rfl]
  simp [PyData.eqv]
@[simp] theorem cm_nebb (a b : Bool) : cmD .ne (.bool a) (.bool b) = some (!(a == b)) := by
  simp only [cmD, show eqD (.bool a) (.bool b) = some (a == b) from cm_eqbb a b]; rfl
end Ip
namespace Ip
open PySem
theorem iterOf_at {S : Store} {n : Nat} {xs : List D} (h : S[n]? = some (.list xs)) : iterOf S (.l n) = some (xs, some (n, xs)) := by simp only [iterOf, h]
@[simp] theorem mut_ext (xs ys : List D) : mutD .extend (.list xs) [.list ys] = if xs.length + ys.length ≤ LIM then some (.list (xs ++ ys), .none) else none := rfl
@[simp] theorem mut_app (xs : List D) (y : D) : mutD .append (.list xs) [y] = if xs.length < LIM then some (.list (xs ++ [y]), .none) else none := rfl
@[simp] theorem isL_l (xs : List D) : isL (.list xs) = true := rfl
@[simp] theorem get_last2 {α : Type} (S : List α) (x y : α) (T : List α) : (S ++ x :: y :: T)[S.length + 1]? = Option.some y := by
  rw [List.getElem?_append_right (by omega)]; simp
@[simp] theorem get_last3 {α : Type} (S : List α) (x y z : α) (T : List α) : (S ++ x :: y :: z :: T)[S.length + 2]? = Option.some z := by
  rw [List.getElem?_append_right (by omega)]; simp
@[simp] theorem set_lastT {α : Type} (S : List α) (x z : α) (T : List α) : (S ++ x :: T).set S.length z = S ++ z :: T := by
  rw [List.set_append_right _ _ (by omega)]; simp
@[simp] theorem set_last2 {α : Type} (S : List α) (x y z : α) (T : List α) : (S ++ x :: y :: T).set (S.length + 1) z = S ++ x :: z :: T := by
  rw [List.set_append_right _ _ (by omega)]; simp
@[simp] theorem set_last3 {α : Type} (S : List α) (x y w z : α) (T : List α) : (S ++ x :: y :: w :: T).set (S.length + 2) z = S ++ x :: y :: z :: T := by
  rw [List.set_append_right _ _ (by omega)]; simp
end Ip
namespace Ip
open PySem
/-- one statement, then the others -/
theorem exs_k {cf : Cf} {W B : Nat} {s : IS} {r : ISs} {L : List Nat} {σ : Ev} {S : Store} {Q : Ou × Store → Prop} (P : Ev → Store → Prop)
    (h : ∀ Q : Ou × Store → Prop, (∀ σ' S', P σ' S' → Q (.nx σ', S')) → Ok (ex cf W B s L σ S) Q) (hr : ∀ σ' S', P σ' S' → Ok (exs cf W B r L σ' S') Q) : Ok (exs cf W B (.cons s r) L σ S) Q := by
  rw [exs_cons]
  refine Ok.bind (h (fun p => ∃ σ', p.1 = .nx σ' ∧ P σ' p.2) fun σ' S' q => ⟨σ', rfl, q⟩) ?_
  rintro ⟨o, S'⟩ ⟨σ', rfl, q⟩
  exact hr σ' S' q
/-- .. before what comes behind -/
theorem exs_kb {cf : Cf} {W B : Nat} {s : IS} {r : ISs} {L : List Nat} {σ : Ev} {S : Store} {β : Type} {K : Ou × Store → Option β} {Q : β → Prop} (P : Ev → Store → Prop)
    (h : ∀ Q : Ou × Store → Prop, (∀ σ' S', P σ' S' → Q (.nx σ', S')) → Ok (ex cf W B s L σ S) Q) (hr : ∀ σ' S', P σ' S' → Ok ((exs cf W B r L σ' S').bind K) Q) : Ok ((exs cf W B (.cons s r) L σ S).bind K) Q := by
  rw [exs_cons, Option.bind_assoc]
  refine Ok.bind (h (fun p => ∃ σ', p.1 = .nx σ' ∧ P σ' p.2) fun σ' S' q => ⟨σ', rfl, q⟩) ?_
  rintro ⟨o, S'⟩ ⟨σ', rfl, q⟩
  exact hr σ' S' q
end Ip
namespace Ip
open PySem
theorem cutD_take {xs : List D} {v : Int} (h : 0 ≤ v) : cutD xs none (some v) = xs.take v.toNat := by
  have e1 : HT.sIx xs.length xs.length (some v) = min v.toNat xs.length := by
    show (if v < 0 then (v + (xs.length : Int)).toNat else min v.toNat xs.length) = _
    rw [if_neg (by omega)]
  have e2 : HT.sIx xs.length 0 none = 0 := rfl
  unfold cutD
  rw [e1, e2, List.drop_zero, Nat.sub_zero]
  by_cases c : v.toNat ≤ xs.length
  · rw [Nat.min_eq_left c]
  · rw [Nat.min_eq_right (by omega), List.take_length, List.take_of_length_le (by omega)]
theorem cutD_drop {xs : List D} {v : Int} (h : 0 ≤ v) : cutD xs (some v) none = xs.drop v.toNat := by
  have e1 : HT.sIx xs.length 0 (some v) = min v.toNat xs.length := by
    show (if v < 0 then (v + (xs.length : Int)).toNat else min v.toNat xs.length) = _
    rw [if_neg (by omega)]
  have e2 : HT.sIx xs.length xs.length none = xs.length := rfl
  unfold cutD
  rw [e1, e2]
  by_cases c : v.toNat ≤ xs.length
  · rw [Nat.min_eq_left c, List.take_of_length_le (by simp)]
  · rw [Nat.min_eq_right (by omega), Nat.sub_self, List.take_zero, List.drop_of_length_le (by omega)]
theorem slc_take {xs : List D} {v : Int} (h : 0 ≤ v) : slcD (.list xs) none (some v) = some (.f (.list (xs.take v.toNat))) := by rw [← cutD_take h]; rfl
theorem slc_drop {xs : List D} {v : Int} (h : 0 ≤ v) : slcD (.list xs) (some v) none = some (.f (.list (xs.drop v.toNat))) := by rw [← cutD_drop h]; rfl
theorem slc_takeT {xs : List D} {v : Int} (h : 0 ≤ v) : slcD (.tuple xs) none (some v) = some (.d (.tuple (xs.take v.toNat))) := by rw [← cutD_take h]; rfl
theorem slc_dropT {xs : List D} {v : Int} (h : 0 ≤ v) : slcD (.tuple xs) (some v) none = some (.d (.tuple (xs.drop v.toNat))) := by rw [← cutD_drop h]; rfl
theorem le_maxI {x : Int} : ∀ {l : List Int} {a : Int}, x ≤ a → x ≤ maxI a l
  | [], a, h => h
  | y :: l, a, h => by
    unfold maxI
    exact le_maxI (by split <;> omega)
theorem maxI_le {x : Int} : ∀ {l : List Int} {a : Int}, a ≤ x → (∀ y ∈ l, y ≤ x) → maxI a l ≤ x
  | [], a, h, _ => h
  | y :: l, a, h, h2 => by
    unfold maxI
    have := h2 y (List.mem_cons_self ..)
    exact maxI_le (by split <;> omega) fun z hz => h2 z (List.mem_cons_of_mem _ hz)
end Ip
namespace Ip
open PySem
theorem lpS_0 {α : Type} {f : D → Ev → Store → Option (Ou × Store)} {e : α → D} (I : Nat → Ev → Store → Prop) {xs : List α} {σ : Ev} {S : Store} {Q0 : Ou × Store → Prop} (i0 : I 0 σ S)
    (h : ∀ (i : Nat) (x : α) (σ : Ev) (S : Store) (Q : Ou × Store → Prop), xs[i]? = some x → I i σ S → (∀ σ' S', I (i + 1) σ' S' → Q (.nx σ', S')) → Ok (f (e x) σ S) Q)
    (fin : ∀ σ' S', I xs.length σ' S' → Q0 (.nx σ', S')) : Ok (lpS none f (xs.map e) σ S) Q0 := by
  have := lpS_k (f := f) (e := e) (K := some) (Q0 := Q0) I i0 h fun σ' S' q => Ok.some (fin σ' S' q)
  rwa [Option.bind_fun_some] at this
end Ip
namespace Ip
open PySem
theorem sub_last {xs : List D} {d : D} (h : xs.getLast? = some d) : subD (.list xs) (.int (-1)) = some d := by
  rw [List.getLast?_eq_some_iff] at h
  obtain ⟨ys, rfl⟩ := h
  show L2.atI _ _ = _
  unfold L2.atI L2.ixN
  rw [if_neg (by omega), if_pos (by simp <;> omega)]
  simp only [List.length_append, List.length_singleton]
  rw [show ((-1 : Int) + ((ys.length + 1 : Nat) : Int)).toNat = ys.length by omega]
  simp
theorem put_last {xs : List D} {d v : D} (h : xs.getLast? = some d) : putD (.list xs) (.int (-1)) v = some (.list (xs.dropLast ++ [v])) := by
  rw [List.getLast?_eq_some_iff] at h
  obtain ⟨ys, rfl⟩ := h
  have e : L2.ixN (ys ++ [d]).length (-1) = some ys.length := by
    unfold L2.ixN
    rw [if_neg (by omega), if_pos (by simp <;> omega)]
    simp only [List.length_append, List.length_singleton]
    rw [show ((-1 : Int) + ((ys.length + 1 : Nat) : Int)).toNat = ys.length by omega]
  simp only [putD, e, Option.map_some]
  simp
theorem blt_sum_i (ns : List Int) : bltD .sum [.list (ns.map .int)] = some (.d (.int ns.sum)) := by
  show (intsOf _).bind _ = _
  rw [intsOf_i]; rfl
theorem blt_min_of {xs : List D} {n : Int} {ns : List Int} (h : intsOf xs = some (n :: ns)) : bltD .min [.list xs] = some (.d (.int (minI n ns))) := by show (intsOf xs).bind _ = _; rw [h]; rfl
theorem sset_l {b : Bool} {ns : List Int} (h : (uniqI ns).length < 64) (h2 : ns.length ≤ 4000) : ssetD b (.list (ns.map .int)) = some (if b then .d (.int (uniqI ns).length) else .f (.list ((uniqI ns).map .int))) := by
  show (intsOf _).bind _ = _
  rw [intsOf_i]
  simp [ssI, h, h2]
theorem sset_t {b : Bool} {ns : List Int} (h : (uniqI ns).length < 64) (h2 : ns.length ≤ 4000) : ssetD b (.tuple (ns.map .int)) = some (if b then .d (.int (uniqI ns).length) else .f (.list ((uniqI ns).map .int))) := by
  show (intsOf _).bind _ = _
  rw [intsOf_i]
  simp [ssI, h, h2]
theorem zipD_ints : ∀ xs ys : List Int, zipD (xs.map .int) (ys.map .int) = (xs.zip ys).map fun x => .tuple [.int x.1, .int x.2]
  | [], _ => by cases ‹List Int› <;> rfl
  | _ :: _, [] => rfl
  | x :: xs, y :: ys => by simp only [List.map_cons, zipD, List.zip_cons_cons, zipD_ints xs ys]
theorem zipD_map {α β : Type} (e : α → D) (f : β → D) : ∀ (xs : List α) (ys : List β), zipD (xs.map e) (ys.map f) = (xs.zip ys).map fun x => .tuple [e x.1, f x.2]
  | [], _ => by simp [zipD]
  | _ :: _, [] => rfl
  | x :: xs, y :: ys => by simp only [List.map_cons, zipD, List.zip_cons_cons, zipD_map e f xs ys]
theorem rngL_succ (i : Nat) : rngL 0 ((i + 1 : Nat) : Int) = rngL 0 (i : Int) ++ [(i : Int)] := by
  unfold rngL
  rw [show (((i + 1 : Nat) : Int) - 0).toNat = i + 1 by omega, show ((i : Int) - 0).toNat = i by omega, List.range_succ, List.map_append]
  simp
theorem Ok.bindk {α β : Type} {o : Option α} {f : α → Option β} {Q : β → Prop} (P : α → Prop) (h : ∀ Q : α → Prop, (∀ x, P x → Q x) → Ok o Q) (hf : ∀ x, P x → Ok (f x) Q) : Ok (o.bind f) Q := Ok.bind (h P fun _ q => q) hf
end Ip

set_option Elab.async false
set_option linter.all false
set_option maxRecDepth 100000
set_option maxHeartbeats 0
namespace Lw
open PySem Ip
def i_is_whole : Nat := 0
def i_is_between : Nat := 1
def i_is_tuple_of : Nat := 2
def i_are_between : Nat := 3
def i_is_stay : Nat := 4
def i_is_long_stay : Nat := 5
def i_all_words : Nat := 6
def i_is_word : Nat := 7
def i_word_apart : Nat := 8
def i_word_inside : Nat := 9
def i_forward_word : Nat := 10
def i_word_by : Nat := 11
def i_back_word_by : Nat := 12
def i_check_long_stay : Nat := 13
def i_check_word : Nat := 14
def i_word_of : Nat := 15
def i_back_word : Nat := 16
def i__law_well : Nat := 17
def i__law_take : Nat := 18
def i__law_of : Nat := 19
def i__law_same : Nat := 20
def i__law_word : Nat := 21
def i__law_all_words : Nat := 22
def i__law_back : Nat := 23
def i__law_long_stays : Nat := 24
def i__law_pairs : Nat := 25
def i__law_long : Nat := 26
def i__law_marks : Nat := 27
def i__law_is_told : Nat := 28
def i__law_turned : Nat := 29
def i__law_in_time : Nat := 30
def i__law_right : Nat := 31
def i__law_back_told : Nat := 32
def i__law_backs_right : Nat := 33
def i_law : Nat := 34
def F_is_whole : Ip.Fn := ⟨1, [false], 1,
    (.cons (.ret (.and_ (.isi (.var 0) [.int]) (.not_ (.isi (.var 0) [.bool]))))
    .nil)⟩
def F_is_between : Ip.Fn := ⟨3, [false, false, false], 3,
    (.cons (.ret (.and_ (.call i_is_whole [] (.cons (.var 0) .nil)) (.chain .le .le (.var 1) (.var 0) (.var 2))))
    .nil)⟩
def F_is_tuple_of : Ip.Fn := ⟨2, [false, false], 2,
    (.cons (.ret (.and_ (.isi (.var 0) [.tuple]) (.cmp .eq (.blt .len (.cons (.var 0) .nil)) (.var 1))))
    .nil)⟩
def F_are_between : Ip.Fn := ⟨4, [false, false, false, false], 5,
    (.cons (.ret (.and_ (.call i_is_tuple_of [] (.cons (.var 0) (.cons (.var 1) .nil))) (.blt .all (.cons (.comp (.call i_is_between [] (.cons (.var 4) (.cons (.var 2) (.cons (.var 3) .nil)))) [4] (.cons (.nm 4) (.ex (.var 0)) .nil .nil)) .nil))))
    .nil)⟩
def F_is_stay : Ip.Fn := ⟨1, [false], 1,
    (.cons (.ret (.and_ (.call i_are_between [] (.cons (.var 0) (.cons (.cst (.int 2)) (.cons (.cst (.int 0)) (.cons (.cst (.int 9999)) .nil))))) (.cmp .le (.sub (.var 0) (.cst (.int 0))) (.sub (.var 0) (.cst (.int 1))))))
    .nil)⟩
def F_is_long_stay : Ip.Fn := ⟨1, [false], 1,
    (.cons (.ret (.and_ (.call i_is_stay [] (.cons (.var 0) .nil)) (.cmp .lt (.sub (.var 0) (.cst (.int 0))) (.sub (.var 0) (.cst (.int 1))))))
    .nil)⟩
def F_all_words : Ip.Fn := ⟨0, [], 1,
    (.cons (.ret (.tups [true, false, true] (.cons (.cst (.tuple [(.str "before"), (.str "touches"), (.str "overlaps"), (.str "starts"), (.str "during"), (.str "ends")])) (.cons (.cst (.str "equal")) (.cons (.comp (.bin .add (.cst (.str "back ")) (.var 0)) [0] (.cons (.nm 0) (.ex (.cst (.tuple [(.str "before"), (.str "touches"), (.str "overlaps"), (.str "starts"), (.str "during"), (.str "ends")]))) .nil .nil)) .nil)))))
    .nil)⟩
def F_is_word : Ip.Fn := ⟨1, [false], 1,
    (.cons (.ret (.and_ (.isi (.var 0) [.str]) (.cmp .mem (.var 0) (.call i_all_words [] .nil))))
    .nil)⟩
def F_word_apart : Ip.Fn := ⟨2, [false, false], 2,
    (.cons (.ite (.cmp .lt (.sub (.var 0) (.cst (.int 1))) (.sub (.var 1) (.cst (.int 0)))) (.cons (.ret (.lst (.cons (.cst (.str "before")) .nil)))
    .nil) .nil)
    (.cons (.ite (.cmp .eq (.sub (.var 0) (.cst (.int 1))) (.sub (.var 1) (.cst (.int 0)))) (.cons (.ret (.lst (.cons (.cst (.str "touches")) .nil)))
    .nil) .nil)
    (.cons (.ret (.ife (.and_ (.cmp .lt (.sub (.var 0) (.cst (.int 0))) (.sub (.var 1) (.cst (.int 0)))) (.cmp .lt (.sub (.var 0) (.cst (.int 1))) (.sub (.var 1) (.cst (.int 1))))) (.lst (.cons (.cst (.str "overlaps")) .nil)) (.lst .nil)))
    .nil)))⟩
def F_word_inside : Ip.Fn := ⟨2, [false, false], 2,
    (.cons (.ite (.and_ (.cmp .eq (.sub (.var 0) (.cst (.int 0))) (.sub (.var 1) (.cst (.int 0)))) (.cmp .lt (.sub (.var 0) (.cst (.int 1))) (.sub (.var 1) (.cst (.int 1))))) (.cons (.ret (.lst (.cons (.cst (.str "starts")) .nil)))
    .nil) .nil)
    (.cons (.ite (.and_ (.cmp .lt (.sub (.var 1) (.cst (.int 0))) (.sub (.var 0) (.cst (.int 0)))) (.cmp .lt (.sub (.var 0) (.cst (.int 1))) (.sub (.var 1) (.cst (.int 1))))) (.cons (.ret (.lst (.cons (.cst (.str "during")) .nil)))
    .nil) .nil)
    (.cons (.ret (.ife (.and_ (.cmp .lt (.sub (.var 1) (.cst (.int 0))) (.sub (.var 0) (.cst (.int 0)))) (.cmp .eq (.sub (.var 0) (.cst (.int 1))) (.sub (.var 1) (.cst (.int 1))))) (.lst (.cons (.cst (.str "ends")) .nil)) (.lst .nil)))
    .nil)))⟩
def F_forward_word : Ip.Fn := ⟨2, [false, false], 2,
    (.cons (.ret (.bin .add (.call i_word_apart [] (.cons (.var 0) (.cons (.var 1) .nil))) (.call i_word_inside [] (.cons (.var 0) (.cons (.var 1) .nil)))))
    .nil)⟩
def F_word_by : Ip.Fn := ⟨2, [false, false], 3,
    (.cons (.ite (.cmp .eq (.var 0) (.var 1)) (.cons (.ret (.cst (.str "equal")))
    .nil) .nil)
    (.cons (.set 2 false (.call i_forward_word [] (.cons (.var 0) (.cons (.var 1) .nil))))
    (.cons (.ret (.ife (.cmp .ne (.var 2) (.lst .nil)) (.sub (.var 2) (.cst (.int 0))) (.bin .add (.cst (.str "back ")) (.sub (.call i_forward_word [] (.cons (.var 1) (.cons (.var 0) .nil))) (.cst (.int 0))))))
    .nil)))⟩
def F_back_word_by : Ip.Fn := ⟨1, [false], 1,
    (.cons (.ite (.cmp .eq (.var 0) (.cst (.str "equal"))) (.cons (.ret (.var 0))
    .nil) .nil)
    (.cons (.ret (.ife (.stw (.var 0) (.cst (.str "back "))) (.slc (.var 0) (.cons (.blt .len (.cons (.cst (.str "back ")) .nil)) .nil) .nil) (.bin .add (.cst (.str "back ")) (.var 0))))
    .nil))⟩
def F_check_long_stay : Ip.Fn := ⟨1, [false], 1,
    (.cons (.ite (.not_ (.call i_is_long_stay [] (.cons (.var 0) .nil))) (.cons .stuck
    .nil) .nil)
    .nil)⟩
def F_check_word : Ip.Fn := ⟨1, [false], 1,
    (.cons (.ite (.not_ (.call i_is_word [] (.cons (.var 0) .nil))) (.cons .stuck
    .nil) .nil)
    .nil)⟩
def F_word_of : Ip.Fn := ⟨2, [false, false], 2,
    (.cons (.ex (.call i_check_long_stay [] (.cons (.var 0) .nil)))
    (.cons (.ex (.call i_check_long_stay [] (.cons (.var 1) .nil)))
    (.cons (.ret (.call i_word_by [] (.cons (.var 0) (.cons (.var 1) .nil))))
    .nil)))⟩
def F_back_word : Ip.Fn := ⟨1, [false], 1,
    (.cons (.ex (.call i_check_word [] (.cons (.var 0) .nil)))
    (.cons (.ret (.call i_back_word_by [] (.cons (.var 0) .nil)))
    .nil))⟩
def F__law_well : Ip.Fn := ⟨2, [false, false], 5,
    (.cons (.set 2 false (.ife (.cmp .lt (.var 1) (.blt .len (.cons (.var 0) .nil))) (.blt .int (.cons (.sub (.var 0) (.var 1)) .nil)) (.cst (.int 0))))
    (.cons (.set 3 false (.bin .add (.cst (.int 52027)) (.bin .mul (.cst (.int 6971)) (.var 1))))
    (.cons (.for_ (.nm 4) (.ex (.bin .add (.slc (.var 0) .nil (.cons (.cst (.int 8)) .nil)) (.lst (.cons (.var 2) .nil)))) (.cons (.set 3 false (.bin .mod (.blt .int (.cons (.bin .add (.bin .add (.bin .mul (.var 3) (.cst (.int 44497))) (.bin .mod (.blt .int (.cons (.var 4) .nil)) (.cst (.int 2147483587)))) (.cst (.int 29))) .nil)) (.cst (.int 2147483563))))
    .nil))
    (.cons (.ret (.lst (.cons (.ife (.or_ (.cmp .lt (.var 2) (.cst (.int 0))) (.cmp .ge (.var 2) (.bin .pow (.cst (.int 10)) (.cst (.int 18))))) (.blt .abs (.cons (.var 2) .nil)) (.cst (.int 0))) (.cons (.var 3) (.cons (.cst (.int 0)) .nil)))))
    .nil))))⟩
def F__law_take : Ip.Fn := ⟨2, [true, false], 3,
    (.cons (.ite (.cmp .gt (.sub (.var 0) (.cst (.int 0))) (.cst (.int 0))) (.cons (.setp 0 (.cst (.int 0)) 2 (.blt .divmod (.cons (.sub (.var 0) (.cst (.int 0))) (.cons (.var 1) .nil))))
    (.cons (.ret (.var 2))
    .nil)) .nil)
    (.cons (.seti 0 (.cst (.int 2)) (.bin .add (.sub (.var 0) (.cst (.int 2))) (.cst (.int 1))))
    (.cons (.seti 0 (.cst (.int 1)) (.bin .mod (.blt .int (.cons (.bin .add (.bin .add (.bin .mul (.sub (.var 0) (.cst (.int 1))) (.cst (.int 39373))) (.bin .mul (.sub (.var 0) (.cst (.int 2))) (.cst (.int 30323)))) (.cst (.int 11))) .nil)) (.cst (.int 2147483543))))
    (.cons (.ret (.bin .mod (.blt .int (.cons (.bin .fdiv (.sub (.var 0) (.cst (.int 1))) (.cst (.int 128))) .nil)) (.var 1)))
    .nil))))⟩
def F__law_of : Ip.Fn := ⟨2, [true, false], 2,
    (.cons (.ret (.sub (.var 1) (.call i__law_take [] (.cons (.var 0) (.cons (.blt .len (.cons (.var 1) .nil)) .nil)))))
    .nil)⟩
def F__law_same : Ip.Fn := ⟨2, [false, false], 3,
    (.cons (.ite (.or_ (.and_ (.isi (.var 1) [.tuple]) (.not_ (.isi (.var 0) [.tuple]))) (.and_ (.isi (.var 1) [.list]) (.not_ (.isi (.var 0) [.list])))) (.cons (.ret (.cst (.bool false)))
    .nil) .nil)
    (.cons (.ite (.isi (.var 1) [.tuple, .list]) (.cons (.ret (.and_ (.cmp .eq (.blt .len (.cons (.var 0) .nil)) (.blt .len (.cons (.var 1) .nil))) (.blt .all (.cons (.comp (.call i__law_same [] (.cons (.sub (.var 0) (.var 2)) (.cons (.sub (.var 1) (.var 2)) .nil))) [2] (.cons (.nm 2) (.rng (.cons (.blt .len (.cons (.var 1) .nil)) .nil)) .nil .nil)) .nil))))
    .nil) .nil)
    (.cons (.ite (.or_ (.cmp .isn (.var 1) (.cst .none)) (.cmp .isn (.var 0) (.cst .none))) (.cons (.ret (.and_ (.cmp .isn (.var 1) (.cst .none)) (.cmp .isn (.var 0) (.cst .none))))
    .nil) .nil)
    (.cons (.ite (.or_ (.isi (.var 1) [.bool]) (.isi (.var 0) [.bool])) (.cons (.ret (.and_ (.isi (.var 1) [.bool]) (.and_ (.isi (.var 0) [.bool]) (.cmp .eq (.var 1) (.var 0)))))
    .nil) .nil)
    (.cons (.ite (.isi (.var 1) [.int]) (.cons (.ret (.and_ (.isi (.var 0) [.int]) (.cmp .eq (.var 0) (.var 1))))
    .nil) .nil)
    (.cons (.ite (.isi (.var 1) [.str]) (.cons (.ret (.and_ (.isi (.var 0) [.str]) (.cmp .eq (.var 0) (.var 1))))
    .nil) .nil)
    (.cons (.ret (.and_ (.isi (.var 1) [.dict]) (.and_ (.isi (.var 0) [.dict]) (.and_ (.cmp .eq (.blt .len (.cons (.var 0) .nil)) (.blt .len (.cons (.var 1) .nil))) (.cmp .eq (.var 0) (.var 1))))))
    .nil)))))))⟩
def F__law_word : Ip.Fn := ⟨2, [false, false], 6,
    (.cons (.unp (.tup (.cons (.tup (.cons (.nm 2) (.cons (.nm 3) .nil))) (.cons (.tup (.cons (.nm 4) (.cons (.nm 5) .nil))) .nil))) (.tup (.cons (.var 0) (.cons (.var 1) .nil))))
    (.cons (.ite (.or_ (.cmp .lt (.var 3) (.var 4)) (.cmp .lt (.var 5) (.var 2))) (.cons (.ret (.ife (.cmp .lt (.var 3) (.var 4)) (.cst (.str "before")) (.cst (.str "back before"))))
    .nil) .nil)
    (.cons (.ite (.or_ (.cmp .eq (.var 3) (.var 4)) (.cmp .eq (.var 5) (.var 2))) (.cons (.ret (.ife (.cmp .eq (.var 3) (.var 4)) (.cst (.str "touches")) (.cst (.str "back touches"))))
    .nil) .nil)
    (.cons (.ite (.cmp .eq (.var 2) (.var 4)) (.cons (.ret (.ife (.cmp .eq (.var 3) (.var 5)) (.cst (.str "equal")) (.ife (.cmp .lt (.var 3) (.var 5)) (.cst (.str "starts")) (.cst (.str "back starts")))))
    .nil) .nil)
    (.cons (.ite (.cmp .eq (.var 3) (.var 5)) (.cons (.ret (.ife (.cmp .lt (.var 4) (.var 2)) (.cst (.str "ends")) (.cst (.str "back ends"))))
    .nil) .nil)
    (.cons (.ite (.cmp .lt (.var 2) (.var 4)) (.cons (.ret (.ife (.cmp .lt (.var 3) (.var 5)) (.cst (.str "overlaps")) (.cst (.str "back during"))))
    .nil) .nil)
    (.cons (.ret (.ife (.cmp .lt (.var 3) (.var 5)) (.cst (.str "during")) (.cst (.str "back overlaps"))))
    .nil)))))))⟩
def F__law_all_words : Ip.Fn := ⟨0, [], 2,
    (.cons (.set 0 false (.lst (.cons (.cst (.str "before")) (.cons (.cst (.str "touches")) (.cons (.cst (.str "overlaps")) (.cons (.cst (.str "starts")) (.cons (.cst (.str "during")) (.cons (.cst (.str "ends")) .nil))))))))
    (.cons (.ret (.bin .add (.bin .add (.var 0) (.lst (.cons (.cst (.str "equal")) .nil))) (.comp (.bin .add (.cst (.str "back ")) (.var 1)) [1] (.cons (.nm 1) (.ex (.var 0)) .nil .nil))))
    .nil))⟩
def F__law_back : Ip.Fn := ⟨1, [false], 1,
    (.cons (.ret (.ife (.cmp .eq (.var 0) (.cst (.str "equal"))) (.var 0) (.ife (.cmp .eq (.slc (.var 0) .nil (.cons (.cst (.int 5)) .nil)) (.cst (.str "back "))) (.slc (.var 0) (.cons (.cst (.int 5)) .nil) .nil) (.bin .add (.cst (.str "back ")) (.var 0)))))
    .nil)⟩
def F__law_long_stays : Ip.Fn := ⟨1, [false], 4,
    (.cons (.set 1 false (.lst .nil))
    (.cons (.for_ (.nm 2) (.rng (.cons (.var 0) .nil)) (.cons (.set 1 false (.bin .add (.var 1) (.comp (.tup (.cons (.var 2) (.cons (.var 3) .nil))) [3] (.cons (.nm 3) (.rng (.cons (.bin .add (.var 2) (.cst (.int 1))) (.cons (.var 0) .nil))) .nil .nil))))
    .nil))
    (.cons (.ret (.var 1))
    .nil)))⟩
def F__law_pairs : Ip.Fn := ⟨1, [false], 4,
    (.cons (.set 1 false (.lst .nil))
    (.cons (.for_ (.nm 2) (.ex (.var 0)) (.cons (.set 1 false (.bin .add (.var 1) (.comp (.tup (.cons (.var 2) (.cons (.var 3) .nil))) [3] (.cons (.nm 3) (.ex (.var 0)) .nil .nil))))
    .nil))
    (.cons (.ret (.var 1))
    .nil)))⟩
def F__law_long : Ip.Fn := ⟨2, [true, false], 3,
    (.cons (.set 2 false (.call i__law_take [] (.cons (.var 0) (.cons (.var 1) .nil))))
    (.cons (.ret (.tup (.cons (.var 2) (.cons (.bin .add (.bin .add (.var 2) (.cst (.int 1))) (.call i__law_take [] (.cons (.var 0) (.cons (.var 1) .nil)))) .nil))))
    .nil))⟩
def F__law_marks : Ip.Fn := ⟨2, [false, false], 9,
    (.cons (.unp (.tup (.cons (.tup (.cons (.nm 2) (.cons (.nm 3) .nil))) (.cons (.tup (.cons (.nm 4) (.cons (.nm 5) .nil))) .nil))) (.tup (.cons (.var 0) (.cons (.var 1) .nil))))
    (.cons (.set 6 false (.lst (.cons (.tup (.cons (.cst (.str "before")) (.cons (.cmp .lt (.var 3) (.var 4)) .nil))) (.cons (.tup (.cons (.cst (.str "touches")) (.cons (.cmp .eq (.var 3) (.var 4)) .nil))) (.cons (.tup (.cons (.cst (.str "overlaps")) (.cons (.chain3 .lt .lt .lt (.var 2) (.var 4) (.var 3) (.var 5)) .nil))) (.cons (.tup (.cons (.cst (.str "starts")) (.cons (.and_ (.cmp .eq (.var 2) (.var 4)) (.cmp .lt (.var 3) (.var 5))) .nil))) (.cons (.tup (.cons (.cst (.str "during")) (.cons (.and_ (.cmp .lt (.var 4) (.var 2)) (.cmp .lt (.var 3) (.var 5))) .nil))) (.cons (.tup (.cons (.cst (.str "ends")) (.cons (.and_ (.cmp .lt (.var 4) (.var 2)) (.cmp .eq (.var 3) (.var 5))) .nil))) .nil))))))))
    (.cons (.set 6 false (.bin .add (.var 6) (.lst (.cons (.tup (.cons (.cst (.str "equal")) (.cons (.cmp .eq (.var 0) (.var 1)) .nil))) (.cons (.tup (.cons (.cst (.str "back before")) (.cons (.cmp .lt (.var 5) (.var 2)) .nil))) (.cons (.tup (.cons (.cst (.str "back touches")) (.cons (.cmp .eq (.var 5) (.var 2)) .nil))) (.cons (.tup (.cons (.cst (.str "back overlaps")) (.cons (.chain3 .lt .lt .lt (.var 4) (.var 2) (.var 5) (.var 3)) .nil))) (.cons (.tup (.cons (.cst (.str "back starts")) (.cons (.and_ (.cmp .eq (.var 2) (.var 4)) (.cmp .lt (.var 5) (.var 3))) .nil))) .nil))))))))
    (.cons (.set 6 false (.bin .add (.var 6) (.lst (.cons (.tup (.cons (.cst (.str "back during")) (.cons (.and_ (.cmp .lt (.var 2) (.var 4)) (.cmp .lt (.var 5) (.var 3))) .nil))) (.cons (.tup (.cons (.cst (.str "back ends")) (.cons (.and_ (.cmp .lt (.var 2) (.var 4)) (.cmp .eq (.var 3) (.var 5))) .nil))) .nil)))))
    (.cons (.ret (.comp (.var 7) [7, 8] (.cons (.tup (.cons (.nm 7) (.cons (.nm 8) .nil))) (.ex (.var 6)) (.cons (.var 8) .nil) .nil)))
    .nil)))))⟩
def F__law_is_told : Ip.Fn := ⟨3, [true, false, false], 5,
    (.cons (.set 3 false (.call i__law_marks [] (.cons (.var 1) (.cons (.var 2) .nil))))
    (.cons (.ite (.cmp .ne (.var 3) (.lst (.cons (.call i__law_word [] (.cons (.var 1) (.cons (.var 2) .nil))) .nil))) (.cons (.ret (.cst (.bool false)))
    .nil) .nil)
    (.cons (.set 4 false (.ife (.cmp .eq (.call i__law_take [] (.cons (.var 0) (.cons (.cst (.int 2)) .nil))) (.cst (.int 0))) (.call i_word_of [] (.cons (.var 1) (.cons (.var 2) .nil))) (.call i_word_of [1, 0] (.cons (.var 2) (.cons (.var 1) .nil)))))
    (.cons (.ret (.call i__law_same [] (.cons (.var 4) (.cons (.sub (.var 3) (.cst (.int 0))) .nil))))
    .nil))))⟩
def F__law_turned : Ip.Fn := ⟨1, [false], 1,
    (.cons (.ret (.tup (.cons (.bin .sub (.cst (.int 9999)) (.sub (.var 0) (.cst (.int 1)))) (.cons (.bin .sub (.cst (.int 9999)) (.sub (.var 0) (.cst (.int 0)))) .nil))))
    .nil)⟩
def F__law_in_time : Ip.Fn := ⟨1, [false], 2,
    (.cons (.set 1 true (.dsp [("before", "back before"), ("touches", "back touches"), ("overlaps", "back overlaps"), ("starts", "ends"), ("during", "during"), ("ends", "starts"), ("equal", "equal")]))
    (.cons (.set3 1 (.cst (.str "back starts")) (.cst (.str "back ends")) (.cst (.str "back during")) (.tup (.cons (.cst (.str "back ends")) (.cons (.cst (.str "back starts")) (.cons (.cst (.str "back during")) .nil)))))
    (.cons (.set3 1 (.cst (.str "back before")) (.cst (.str "back touches")) (.cst (.str "back overlaps")) (.tup (.cons (.cst (.str "before")) (.cons (.cst (.str "touches")) (.cons (.cst (.str "overlaps")) .nil)))))
    (.cons (.ret (.sub (.var 1) (.var 0)))
    .nil))))⟩
def F__law_right : Ip.Fn := ⟨1, [true], 8,
    (.cons (.for_ (.nm 1) (.rng (.cons (.cst (.int 60)) .nil)) (.cons (.set 2 false (.call i__law_of [] (.cons (.var 0) (.cons (.tup (.cons (.cst (.int 3)) (.cons (.cst (.int 5)) (.cons (.cst (.int 9)) (.cons (.cst (.int 4000)) .nil))))) .nil))))
    (.cons (.par [(3, false), (4, false)] (.cons (.call i__law_long [] (.cons (.var 0) (.cons (.var 2) .nil))) (.cons (.call i__law_long [] (.cons (.var 0) (.cons (.var 2) .nil))) .nil)))
    (.cons (.ite (.not_ (.call i__law_is_told [] (.cons (.var 0) (.cons (.var 3) (.cons (.var 4) .nil))))) (.cons (.ret (.cst (.bool false)))
    .nil) .nil)
    (.cons (.ite (.cmp .lt (.var 1) (.cst (.int 20))) (.cons (.par [(5, false), (6, false)] (.cons (.call i_word_of [] (.cons (.var 3) (.cons (.var 4) .nil))) (.cons (.bin .add (.cst (.int 1)) (.call i__law_take [] (.cons (.var 0) (.cons (.cst (.int 50)) .nil)))) .nil)))
    (.cons (.set 7 false (.call i_word_of [] (.cons (.tup (.cons (.bin .add (.sub (.var 3) (.cst (.int 0))) (.var 6)) (.cons (.bin .add (.sub (.var 3) (.cst (.int 1))) (.var 6)) .nil))) (.cons (.tup (.cons (.bin .add (.sub (.var 4) (.cst (.int 0))) (.var 6)) (.cons (.bin .add (.sub (.var 4) (.cst (.int 1))) (.var 6)) .nil))) .nil))))
    (.cons (.ite (.not_ (.call i__law_same [] (.cons (.lst (.cons (.var 7) (.cons (.call i_word_of [] (.cons (.call i__law_turned [] (.cons (.var 3) .nil)) (.cons (.call i__law_turned [] (.cons (.var 4) .nil)) .nil))) .nil))) (.cons (.lst (.cons (.var 5) (.cons (.call i__law_in_time [] (.cons (.var 5) .nil)) .nil))) .nil)))) (.cons (.ret (.cst (.bool false)))
    .nil) .nil)
    .nil))) .nil)
    .nil)))))
    (.cons (.ret (.cst (.bool true)))
    .nil))⟩
def F__law_back_told : Ip.Fn := ⟨1, [false], 2,
    (.cons (.set 1 false (.lst (.cons (.call i_back_word [] (.cons (.var 0) .nil)) (.cons (.call i_back_word [0] (.cons (.var 0) .nil)) .nil))))
    (.cons (.ret (.and_ (.call i__law_same [] (.cons (.var 1) (.cons (.bin .mul (.lst (.cons (.call i__law_back [] (.cons (.var 0) .nil)) .nil)) (.cst (.int 2))) .nil))) (.and_ (.call i__law_same [] (.cons (.call i_back_word [] (.cons (.sub (.var 1) (.cst (.int 0))) .nil)) (.cons (.var 0) .nil))) (.cmp .eq (.cmp .eq (.sub (.var 1) (.cst (.int 0))) (.var 0)) (.cmp .eq (.var 0) (.cst (.str "equal")))))))
    .nil))⟩
def F__law_backs_right : Ip.Fn := ⟨1, [true], 6,
    (.cons (.for_ (.nm 1) (.rng (.cons (.cst (.int 40)) .nil)) (.cons (.set 2 false (.call i__law_of [] (.cons (.var 0) (.cons (.tup (.cons (.cst (.int 3)) (.cons (.cst (.int 6)) (.cons (.cst (.int 4000)) .nil)))) .nil))))
    (.cons (.par [(3, false), (4, false)] (.cons (.call i__law_long [] (.cons (.var 0) (.cons (.var 2) .nil))) (.cons (.call i__law_long [] (.cons (.var 0) (.cons (.var 2) .nil))) .nil)))
    (.cons (.set 5 false (.call i_word_of [] (.cons (.var 3) (.cons (.var 4) .nil))))
    (.cons (.ite (.not_ (.call i__law_same [] (.cons (.lst (.cons (.var 5) (.cons (.call i_word_of [] (.cons (.var 4) (.cons (.var 3) .nil))) (.cons (.call i_back_word [] (.cons (.var 5) .nil)) .nil)))) (.cons (.lst (.cons (.call i__law_word [] (.cons (.var 3) (.cons (.var 4) .nil))) (.cons (.call i__law_back [] (.cons (.var 5) .nil)) (.cons (.call i__law_word [] (.cons (.var 4) (.cons (.var 3) .nil))) .nil)))) .nil)))) (.cons (.ret (.cst (.bool false)))
    .nil) .nil)
    .nil)))))
    (.cons (.ret (.cst (.bool true)))
    .nil))⟩
def F_law : Ip.Fn := ⟨1, [false], 7,
    (.cons (.set 1 false (.call i__law_all_words [] .nil))
    (.cons (.ite (.or_ (.not_ (.blt .all (.cons (.comp (.call i__law_back_told [] (.cons (.var 2) .nil)) [2] (.cons (.nm 2) (.ex (.var 1)) .nil .nil)) .nil))) (.cmp .ne (.blt .sorted (.cons (.comp (.call i_back_word [] (.cons (.var 2) .nil)) [2] (.cons (.nm 2) (.ex (.var 1)) .nil .nil)) .nil)) (.blt .sorted (.cons (.var 1) .nil)))) (.cons (.ret (.cst (.bool false)))
    .nil) .nil)
    (.cons (.for_ (.nm 3) (.rng (.cons (.blt .max (.cons (.cst (.int 2)) (.cons (.blt .min (.cons (.blt .len (.cons (.var 0) .nil)) (.cons (.cst (.int 3)) .nil))) .nil))) .nil)) (.cons (.set 4 true (.call i__law_well [] (.cons (.var 0) (.cons (.var 3) .nil))))
    (.cons (.ite (.or_ (.not_ (.call i__law_right [] (.cons (.var 4) .nil))) (.not_ (.call i__law_backs_right [] (.cons (.var 4) .nil)))) (.cons (.ret (.cst (.bool false)))
    .nil) .nil)
    .nil)))
    (.cons (.ret (.blt .all (.cons (.comp (.call i__law_is_told [] (.cons (.call i__law_well [] (.cons (.var 0) (.cons (.cst (.int 0)) .nil))) (.cons (.var 5) (.cons (.var 6) .nil)))) [5, 6] (.cons (.tup (.cons (.nm 5) (.cons (.nm 6) .nil))) (.ex (.call i__law_pairs [] (.cons (.call i__law_long_stays [] (.cons (.cst (.int 5)) .nil)) .nil))) .nil .nil)) .nil)))
    .nil))))⟩
def FNS : List Ip.Fn := [F_is_whole, F_is_between, F_is_tuple_of, F_are_between, F_is_stay, F_is_long_stay, F_all_words, F_is_word, F_word_apart, F_word_inside, F_forward_word, F_word_by, F_back_word_by, F_check_long_stay, F_check_word, F_word_of, F_back_word, F__law_well, F__law_take, F__law_of, F__law_same, F__law_word, F__law_all_words, F__law_back, F__law_long_stays, F__law_pairs, F__law_long, F__law_marks, F__law_is_told, F__law_turned, F__law_in_time, F__law_right, F__law_back_told, F__law_backs_right, F_law]
theorem at_is_whole : FNS[i_is_whole]? = some F_is_whole := rfl
theorem at_is_between : FNS[i_is_between]? = some F_is_between := rfl
theorem at_is_tuple_of : FNS[i_is_tuple_of]? = some F_is_tuple_of := rfl
theorem at_are_between : FNS[i_are_between]? = some F_are_between := rfl
theorem at_is_stay : FNS[i_is_stay]? = some F_is_stay := rfl
theorem at_is_long_stay : FNS[i_is_long_stay]? = some F_is_long_stay := rfl
theorem at_all_words : FNS[i_all_words]? = some F_all_words := rfl
theorem at_is_word : FNS[i_is_word]? = some F_is_word := rfl
theorem at_word_apart : FNS[i_word_apart]? = some F_word_apart := rfl
theorem at_word_inside : FNS[i_word_inside]? = some F_word_inside := rfl
theorem at_forward_word : FNS[i_forward_word]? = some F_forward_word := rfl
theorem at_word_by : FNS[i_word_by]? = some F_word_by := rfl
theorem at_back_word_by : FNS[i_back_word_by]? = some F_back_word_by := rfl
theorem at_check_long_stay : FNS[i_check_long_stay]? = some F_check_long_stay := rfl
theorem at_check_word : FNS[i_check_word]? = some F_check_word := rfl
theorem at_word_of : FNS[i_word_of]? = some F_word_of := rfl
theorem at_back_word : FNS[i_back_word]? = some F_back_word := rfl
theorem at__law_well : FNS[i__law_well]? = some F__law_well := rfl
theorem at__law_take : FNS[i__law_take]? = some F__law_take := rfl
theorem at__law_of : FNS[i__law_of]? = some F__law_of := rfl
theorem at__law_same : FNS[i__law_same]? = some F__law_same := rfl
theorem at__law_word : FNS[i__law_word]? = some F__law_word := rfl
theorem at__law_all_words : FNS[i__law_all_words]? = some F__law_all_words := rfl
theorem at__law_back : FNS[i__law_back]? = some F__law_back := rfl
theorem at__law_long_stays : FNS[i__law_long_stays]? = some F__law_long_stays := rfl
theorem at__law_pairs : FNS[i__law_pairs]? = some F__law_pairs := rfl
theorem at__law_long : FNS[i__law_long]? = some F__law_long := rfl
theorem at__law_marks : FNS[i__law_marks]? = some F__law_marks := rfl
theorem at__law_is_told : FNS[i__law_is_told]? = some F__law_is_told := rfl
theorem at__law_turned : FNS[i__law_turned]? = some F__law_turned := rfl
theorem at__law_in_time : FNS[i__law_in_time]? = some F__law_in_time := rfl
theorem at__law_right : FNS[i__law_right]? = some F__law_right := rfl
theorem at__law_back_told : FNS[i__law_back_told]? = some F__law_back_told := rfl
theorem at__law_backs_right : FNS[i__law_backs_right]? = some F__law_backs_right := rfl
theorem at_law : FNS[i_law]? = some F_law := rfl
abbrev lv : Nat := 40
abbrev wf : Nat := 100000

def pD (p : Int × Int) : D := .tuple [.int p.1, .int p.2]
def stD (st : List (Int × Int)) : D := .tuple (st.map pD)
@[simp] theorem asg_pD (i j : Nat) (p : Int × Int) (σ : Ev) : asg (.tup (.cons (.nm i) (.cons (.nm j) .nil))) (pD p) σ = some ((σ.set i (some (.d (.int p.1)))).set j (some (.d (.int p.2)))) := rfl
structure OkSt (st : List (Int × Int)) : Prop where
  l1 : 1 ≤ st.length
  l9 : st.length ≤ 9
  ok : ∀ p ∈ st, 0 ≤ p.1 ∧ p.1 ≤ p.2 ∧ p.2 ≤ 9999
theorem st_get {st : List (Int × Int)} {i : Int} (h0 : 0 ≤ i) (h1 : i < st.length) : ∃ p, st[i.toNat]? = some p ∧ p ∈ st ∧ subD (.tuple (st.map pD)) (.int i) = some (pD p) := by
  have hi : i.toNat < st.length := by omega
  refine ⟨st[i.toNat], List.getElem?_eq_getElem hi, List.getElem_mem hi, sub_t h0 ?_⟩
  rw [List.getElem?_map, List.getElem?_eq_getElem hi]; rfl

/-! orders: lists of pairs of persons -/
def k2 (p : Int × Int) : List Int := [p.1, p.2]
def lt2 (p q : Int × Int) : Prop := p.1 < q.1 ∨ (p.1 = q.1 ∧ p.2 < q.2)
theorem lt2_irrefl {p : Int × Int} : ¬ lt2 p p := by unfold lt2; omega
theorem lt2_trans {p q r : Int × Int} (h : lt2 p q) (g : lt2 q r) : lt2 p r := by unfold lt2 at *; omega
theorem lex_k2 (p q : Int × Int) : HT.lexLt (k2 p) (k2 q) = true ↔ lt2 p q := by
  unfold k2 lt2
  rw [HT.lexLt_cons, HT.lexLt_cons]
  by_cases e : p.1 = q.1
  · rw [if_pos e]
    by_cases e2 : p.2 = q.2
    · rw [if_pos e2]; simp [HT.lexLt, e2, e]
    · rw [if_neg e2]; simp [e]
  · rw [if_neg e]; simp [e]
theorem lex_k2f (p q : Int × Int) : HT.lexLt (k2 p) (k2 q) = false ↔ ¬ lt2 p q := by rw [← lex_k2]; simp
theorem asc_uniq : ∀ {l m : List (Int × Int)}, l.Pairwise lt2 → m.Pairwise lt2 → (∀ p, p ∈ l ↔ p ∈ m) → l = m
  | [], [], _, _, _ => rfl
  | [], q :: m, _, _, h => by have := (h q).mpr (List.mem_cons_self ..); cases this
  | p :: l, [], _, _, h => by have := (h p).mp (List.mem_cons_self ..); cases this
  | p :: l, q :: m, h1, h2, h => by
    obtain ⟨a1, a2⟩ := List.pairwise_cons.mp h1
    obtain ⟨b1, b2⟩ := List.pairwise_cons.mp h2
    have e : p = q := by
      have x1 := (h p).mp (List.mem_cons_self ..)
      have x2 := (h q).mpr (List.mem_cons_self ..)
      rcases List.mem_cons.mp x1 with x1 | x1
      · exact x1
      · rcases List.mem_cons.mp x2 with x2 | x2
        · exact x2.symm
        · exact absurd (lt2_trans (b1 p x1) (a1 q x2)) lt2_irrefl
    subst e
    rw [asc_uniq a2 b2 fun r => ?_]
    constructor
    · intro hr
      rcases List.mem_cons.mp ((h r).mp (List.mem_cons_of_mem _ hr)) with e | hr'
      · subst e; exact absurd (a1 r hr) lt2_irrefl
      · exact hr'
    · intro hr
      rcases List.mem_cons.mp ((h r).mpr (List.mem_cons_of_mem _ hr)) with e | hr'
      · subst e; exact absurd (b1 r hr) lt2_irrefl
      · exact hr'
theorem asc_nodup {l : List (Int × Int)} (h : l.Pairwise lt2) : l.Nodup := by
  unfold List.Nodup
  exact h.imp fun {a b} h e => by subst e; exact lt2_irrefl h
/-- sorted: ascending, if no pair is there twice -/
theorem sort_asc {l : List (Int × Int)} (h : l.Nodup) : (sortB k2 l).Pairwise lt2 := by
  have h1 := sortB_sorted k2 l
  have h2 : (sortB k2 l).Nodup := (sortB_perm k2 l).nodup_iff.mpr h
  unfold List.Nodup at h2
  refine (h1.and h2).imp ?_
  rintro a b ⟨c, d⟩
  rw [lex_k2f] at c
  have : ¬ (a.1 = b.1 ∧ a.2 = b.2) := fun z => d (Prod.ext z.1 z.2)
  unfold lt2 at *
  omega
theorem sort_mem {l : List (Int × Int)} {p : Int × Int} : p ∈ sortB k2 l ↔ p ∈ l := (sortB_perm k2 l).mem_iff
theorem sort_self {l : List (Int × Int)} (h : l.Pairwise lt2) : sortB k2 l = l := asc_uniq (sort_asc (asc_nodup h)) h fun _ => sort_mem
/-- no more than n unlike numbers below n -/
theorem nodup_len : ∀ (n : Nat) (l : List Nat), l.Nodup → (∀ x ∈ l, x < n) → l.length ≤ n
  | 0, l, _, h => by
    cases l with
    | nil => simp
    | cons x r => have := h x (List.mem_cons_self ..); omega
  | n + 1, l, hn, h => by
    by_cases c : n ∈ l
    · have hp := List.perm_cons_erase c
      have h2 : (n :: l.erase n).Nodup := hp.nodup_iff.mp hn
      obtain ⟨h3, h4⟩ := List.nodup_cons.mp h2
      have := nodup_len n (l.erase n) h4 fun x hx => by
        have h5 := h x (List.mem_of_mem_erase hx)
        have : x ≠ n := fun z => h3 (z ▸ hx)
        omega
      have e := hp.length_eq
      rw [List.length_cons] at e
      omega
    · have := nodup_len n l hn fun x hx => by
        have := h x hx
        have : x ≠ n := fun z => c (z ▸ hx)
        omega
      omega
theorem nodup_map_inj {α β : Type} {f : α → β} : ∀ {l : List α}, l.Nodup → (∀ a ∈ l, ∀ b ∈ l, f a = f b → a = b) → (l.map f).Nodup
  | [], _, _ => by simp
  | a :: l, h, hi => by
    obtain ⟨h1, h2⟩ := List.nodup_cons.mp h
    rw [List.map_cons, List.nodup_cons]
    refine ⟨fun z => ?_, nodup_map_inj h2 fun a ha b hb => hi a (List.mem_cons_of_mem _ ha) b (List.mem_cons_of_mem _ hb)⟩
    obtain ⟨b, hb, e⟩ := List.mem_map.mp z
    exact h1 (hi b (List.mem_cons_of_mem _ hb) a (List.mem_cons_self ..) e ▸ hb)
theorem pairs_len {l : List (Int × Int)} (hn : l.Nodup) (hb : ∀ p ∈ l, 0 ≤ p.1 ∧ p.1 < 9 ∧ 0 ≤ p.2 ∧ p.2 < 9) : l.length ≤ 81 := by
  have h := nodup_len 81 (l.map fun p => (p.1 * 9 + p.2).toNat) (nodup_map_inj hn fun a ha b hb' e => by
    have := hb a ha; have := hb b hb'
    exact Prod.ext (by omega) (by omega)) fun x hx => by
      obtain ⟨p, hp, rfl⟩ := List.mem_map.mp hx
      have := hb p hp
      omega
  rwa [List.length_map] at h
structure IsOrd (m : Int) (l : List (Int × Int)) : Prop where
  m1 : 1 ≤ m
  m9 : m ≤ 9
  bd : ∀ p ∈ l, 0 ≤ p.1 ∧ p.1 < m ∧ 0 ≤ p.2 ∧ p.2 < m
  ir : ∀ p ∈ l, p.1 ≠ p.2
  as : l.Pairwise lt2
  tr : ∀ a b c, (a, b) ∈ l → (b, c) ∈ l → (a, c) ∈ l
def flip2 (p : Int × Int) : Int × Int := (p.2, p.1)
theorem flip_mem {l : List (Int × Int)} {a b : Int} : (a, b) ∈ l.map flip2 ↔ (b, a) ∈ l := by
  rw [List.mem_map]
  constructor
  · rintro ⟨⟨x, y⟩, h, e⟩
    cases e; exact h
  · intro h; exact ⟨(b, a), h, rfl⟩
theorem IsOrd.anti {m : Int} {l : List (Int × Int)} (o : IsOrd m l) {a b : Int} (h : (a, b) ∈ l) : (b, a) ∉ l := fun g => o.ir _ (o.tr a b a h g) rfl
theorem IsOrd.len {m : Int} {l : List (Int × Int)} (o : IsOrd m l) : l.length ≤ 40 := by
  have hn := asc_nodup o.as
  have hf : (l.map flip2).Nodup := nodup_map_inj hn fun a _ b _ e => by
    have e1 := congrArg Prod.fst e; have e2 := congrArg Prod.snd e
    exact Prod.ext e2 e1
  have h : (l ++ l.map flip2).Nodup := by
    rw [List.nodup_append]
    refine ⟨hn, hf, fun p hp q hq e => ?_⟩
    subst e
    obtain ⟨a, b⟩ := p
    exact o.anti hp (flip_mem.mp hq)
  have h2 := pairs_len h fun p hp => by
    have m9 := o.m9
    rcases List.mem_append.mp hp with hp | hp
    · have := o.bd p hp; omega
    · obtain ⟨a, b⟩ := p
      have := o.bd _ (flip_mem.mp hp)
      simp only at this ⊢
      omega
  rw [List.length_append, List.length_map] at h2
  omega
theorem IsOrd.turned {m : Int} {l : List (Int × Int)} (o : IsOrd m l) : IsOrd m (sortB k2 (l.map flip2)) := by
  have hn := asc_nodup o.as
  have hf : (l.map flip2).Nodup := nodup_map_inj hn fun a _ b _ e => by
    have e1 := congrArg Prod.fst e; have e2 := congrArg Prod.snd e
    exact Prod.ext e2 e1
  have mem : ∀ a b, (a, b) ∈ sortB k2 (l.map flip2) ↔ (b, a) ∈ l := fun a b => by rw [sort_mem, flip_mem]
  refine ⟨o.m1, o.m9, fun p hp => ?_, fun p hp => ?_, sort_asc hf, fun a b c h g => ?_⟩
  · obtain ⟨a, b⟩ := p
    have := o.bd _ ((mem a b).mp hp)
    simp only at this ⊢; omega
  · obtain ⟨a, b⟩ := p
    have := o.ir _ ((mem a b).mp hp)
    simp only at this ⊢; omega
  · rw [mem] at h g ⊢
    exact o.tr c b a g h
theorem turned_back {m : Int} {l : List (Int × Int)} (o : IsOrd m l) : sortB k2 ((sortB k2 (l.map flip2)).map flip2) = l := by
  have o2 := o.turned
  refine asc_uniq o2.turned.as o.as fun p => ?_
  obtain ⟨a, b⟩ := p
  rw [sort_mem, flip_mem, sort_mem, flip_mem]
/-! closed: step by step -/
def insP (p : Int × Int) (ks : List (Int × Int)) : List (Int × Int) := if p ∈ ks then ks else ks ++ [p]
theorem insP_mem {p q : Int × Int} {ks : List (Int × Int)} : q ∈ insP p ks ↔ q ∈ ks ∨ q = p := by
  unfold insP
  split
  · rename_i h
    exact ⟨.inl, fun z => z.elim id fun e => e ▸ h⟩
  · simp
theorem insP_nodup {p : Int × Int} {ks : List (Int × Int)} (h : ks.Nodup) : (insP p ks).Nodup := by
  unfold insP
  split
  · exact h
  · rename_i c
    rw [List.nodup_append]
    refine ⟨h, by simp, fun a ha b hb e => ?_⟩
    simp only [List.mem_singleton] at hb
    subst hb e; exact c ha
theorem insP_len (p : Int × Int) (ks : List (Int × Int)) : (insP p ks).length ≤ ks.length + 1 := by
  unfold insP; split <;> simp
def uq (l : List (Int × Int)) : List (Int × Int) := l.foldl (fun ks p => insP p ks) []
theorem uq_gen : ∀ (l ks : List (Int × Int)), ks.Nodup → (l.foldl (fun ks p => insP p ks) ks).Nodup ∧ (∀ q, q ∈ l.foldl (fun ks p => insP p ks) ks ↔ q ∈ ks ∨ q ∈ l) ∧ (l.foldl (fun ks p => insP p ks) ks).length ≤ ks.length + l.length
  | [], ks, h => ⟨h, fun q => by simp, by simp⟩
  | p :: l, ks, h => by
    obtain ⟨h1, h2, h3⟩ := uq_gen l (insP p ks) (insP_nodup h)
    refine ⟨h1, fun q => ?_, ?_⟩
    · rw [List.foldl_cons, h2, insP_mem, List.mem_cons, or_assoc]
    · have := insP_len p ks
      rw [List.foldl_cons, List.length_cons]; omega
theorem uq_nodup (l : List (Int × Int)) : (uq l).Nodup := (uq_gen l [] (by simp)).1
theorem uq_mem {l : List (Int × Int)} {q : Int × Int} : q ∈ uq l ↔ q ∈ l := by rw [uq, (uq_gen l [] (by simp)).2.1]; simp
theorem uq_len (l : List (Int × Int)) : (uq l).length ≤ l.length := by have := (uq_gen l [] (by simp)).2.2; simpa [uq] using this
def stepP (k : Int) (ks : List (Int × Int)) (p : Int × Int) : List (Int × Int) := if (p.1, k) ∈ ks ∧ (k, p.2) ∈ ks then insP p ks else ks
theorem stepP_mem {k : Int} {ks : List (Int × Int)} {p q : Int × Int} : q ∈ stepP k ks p ↔ q ∈ ks ∨ (q = p ∧ (p.1, k) ∈ ks ∧ (k, p.2) ∈ ks) := by
  unfold stepP
  split
  · rename_i c; rw [insP_mem]; simp [c]
  · rename_i c; simp [c]
theorem stepP_nodup {k : Int} {ks : List (Int × Int)} {p : Int × Int} (h : ks.Nodup) : (stepP k ks p).Nodup := by
  unfold stepP
  split
  · exact insP_nodup h
  · exact h
/-- what a pass by k does -/
theorem pass_spec (k : Int) : ∀ (L ks : List (Int × Int)), (∀ p ∈ ks, p ∈ L.foldl (stepP k) ks) ∧ (∀ p ∈ L.foldl (stepP k) ks, p ∈ ks ∨ (p ∈ L ∧ (p.1, k) ∈ ks ∧ (k, p.2) ∈ ks)) ∧
    (∀ p ∈ L, (p.1, k) ∈ ks → (k, p.2) ∈ ks → p ∈ L.foldl (stepP k) ks) ∧ (ks.Nodup → (L.foldl (stepP k) ks).Nodup)
  | [], ks => ⟨fun p h => h, fun p h => .inl h, fun p h => (by cases h), fun h => h⟩
  | q :: L, ks => by
    obtain ⟨h1, h2, h3, h4⟩ := pass_spec k L (stepP k ks q)
    have up : ∀ p ∈ ks, p ∈ stepP k ks q := fun p hp => stepP_mem.mpr (.inl hp)
    have dn1 : ∀ a, (a, k) ∈ stepP k ks q → (a, k) ∈ ks := fun a h => by
      rcases stepP_mem.mp h with h | ⟨e, h, _⟩
      · exact h
      · subst e; exact h
    have dn2 : ∀ a, (k, a) ∈ stepP k ks q → (k, a) ∈ ks := fun a h => by
      rcases stepP_mem.mp h with h | ⟨e, _, h⟩
      · exact h
      · subst e; exact h
    refine ⟨fun p hp => h1 p (up p hp), fun p hp => ?_, fun p hp g1 g2 => ?_, fun h => h4 (stepP_nodup h)⟩
    · rcases h2 p hp with h | ⟨ha, hb, hc⟩
      · rcases stepP_mem.mp h with h | ⟨rfl, hb, hc⟩
        · exact .inl h
        · exact .inr ⟨List.mem_cons_self .., hb, hc⟩
      · exact .inr ⟨List.mem_cons_of_mem _ ha, dn1 _ hb, dn2 _ hc⟩
    · rcases List.mem_cons.mp hp with rfl | hp
      · exact h1 _ (stepP_mem.mpr (.inr ⟨rfl, g1, g2⟩))
      · exact h3 p hp (up _ g1) (up _ g2)
def gridL (m : Int) : List (Int × Int) := (rngL 0 m).flatMap fun a => (rngL 0 m).map fun b => (a, b)
theorem grid_mem {m : Int} {p : Int × Int} : p ∈ gridL m ↔ 0 ≤ p.1 ∧ p.1 < m ∧ 0 ≤ p.2 ∧ p.2 < m := by
  unfold gridL
  rw [List.mem_flatMap]
  constructor
  · rintro ⟨a, ha, h⟩
    obtain ⟨b, hb, rfl⟩ := List.mem_map.mp h
    have := rngL_mem.mp ha; have := rngL_mem.mp hb
    simp only; omega
  · intro h
    exact ⟨p.1, rngL_mem.mpr ⟨h.1, h.2.1⟩, List.mem_map.mpr ⟨p.2, rngL_mem.mpr ⟨h.2.2.1, h.2.2.2⟩, rfl⟩⟩
def clo (m : Int) (ks : List (Int × Int)) : List (Int × Int) := (rngL 0 m).foldl (fun ks k => (gridL m).foldl (stepP k) ks) ks
def InR (m : Int) (ks : List (Int × Int)) : Prop := ∀ p ∈ ks, 0 ≤ p.1 ∧ p.1 < m ∧ 0 ≤ p.2 ∧ p.2 < m
theorem pass_in {m k : Int} {ks : List (Int × Int)} (h : InR m ks) : InR m ((gridL m).foldl (stepP k) ks) := fun p hp => by
  rcases (pass_spec k (gridL m) ks).2.1 p hp with h1 | ⟨h1, _⟩
  · exact h p h1
  · exact grid_mem.mp h1
/-- a rule that passes keep -/
theorem clo_keep {m : Int} {P : List (Int × Int) → Prop} (hp : ∀ k ks, 0 ≤ k → k < m → P ks → P ((gridL m).foldl (stepP k) ks)) : ∀ {ks : List (Int × Int)}, P ks → P (clo m ks) := by
  intro ks h
  unfold clo
  have : ∀ (l : List Int) ks, (∀ k ∈ l, 0 ≤ k ∧ k < m) → P ks → P (l.foldl (fun ks k => (gridL m).foldl (stepP k) ks) ks) := by
    intro l
    induction l with
    | nil => intro ks _ h; exact h
    | cons k l ih => intro ks hl h; exact ih _ (fun z hz => hl z (List.mem_cons_of_mem _ hz)) (hp k ks (hl k (List.mem_cons_self ..)).1 (hl k (List.mem_cons_self ..)).2 h)
  exact this _ _ (fun k hk => rngL_mem.mp hk) h
theorem clo_in {m : Int} {ks : List (Int × Int)} (h : InR m ks) : InR m (clo m ks) := clo_keep (P := InR m) (fun _ _ _ _ => pass_in) h
theorem clo_nodup {m : Int} {ks : List (Int × Int)} (h : ks.Nodup) : (clo m ks).Nodup := clo_keep (P := List.Nodup) (fun k ks _ _ h => (pass_spec k (gridL m) ks).2.2.2 h) h
theorem clo_sub {m : Int} {ks : List (Int × Int)} : ∀ p ∈ ks, p ∈ clo m ks := clo_keep (P := fun js => ∀ p ∈ ks, p ∈ js) (fun k js _ _ h p hp => (pass_spec k (gridL m) js).1 p (h p hp)) fun _ h => h
/-- upward pairs stay upward -/
theorem clo_up {m : Int} {ks : List (Int × Int)} (h : ∀ p ∈ ks, p.1 < p.2) : ∀ p ∈ clo m ks, p.1 < p.2 := clo_keep (P := fun js => ∀ p ∈ js, p.1 < p.2) (fun k js _ _ h p hp => by
  rcases (pass_spec k (gridL m) js).2.1 p hp with h1 | ⟨_, h1, h2⟩
  · exact h p h1
  · have := h _ h1; have := h _ h2; simp only at *; omega) h
/-- what is closed stays as it is -/
theorem clo_self {m : Int} {ks : List (Int × Int)} (h : ∀ a b c, (a, b) ∈ ks → (b, c) ∈ ks → (a, c) ∈ ks) : clo m ks = ks := by
  refine clo_keep (P := fun js => js = ks) (fun k js _ _ e => ?_) rfl
  subst e
  have : ∀ L : List (Int × Int), L.foldl (stepP k) js = js := by
    intro L
    induction L with
    | nil => rfl
    | cons p L ih =>
      rw [List.foldl_cons]
      have : stepP k js p = js := by
        unfold stepP
        split
        · rename_i c
          unfold insP
          rw [if_pos (h p.1 k p.2 c.1 c.2)]
        · rfl
      rw [this]; exact ih
  exact this _
/-- Warshall -/
theorem clo_trans {m : Int} {ks : List (Int × Int)} (hr : InR m ks) : ∀ a b c, (a, b) ∈ clo m ks → (b, c) ∈ clo m ks → (a, c) ∈ clo m ks := by
  have key : ∀ (n : Nat), (n : Int) ≤ m → ∀ js, js = (rngL 0 (n : Int)).foldl (fun ks k => (gridL m).foldl (stepP k) ks) ks → InR m js ∧ ∀ b, b < (n : Int) → ∀ a c, (a, b) ∈ js → (b, c) ∈ js → (a, c) ∈ js := by
    intro n
    induction n with
    | zero =>
      rintro _ js rfl
      refine ⟨hr, fun b hb a c h _ => ?_⟩
      have := hr _ h
      simp only at this; omega
    | succ n ih =>
      rintro hn js rfl
      have hn : (n : Int) + 1 ≤ m := by omega
      rw [rngL_succ, List.foldl_append, List.foldl_cons, List.foldl_nil]
      obtain ⟨i1, i2⟩ := ih (by omega) _ rfl
      generalize (rngL 0 (n : Int)).foldl (fun ks k => (gridL m).foldl (stepP k) ks) ks = j0 at i1 i2
      obtain ⟨s1, s2, s3, _⟩ := pass_spec (n : Int) (gridL m) j0
      refine ⟨pass_in i1, fun b hb a c h1 h2 => ?_⟩
      have r1 := pass_in i1 _ h1
      have r2 := pass_in i1 _ h2
      have g : (a, c) ∈ gridL m := grid_mem.mpr ⟨r1.1, r1.2.1, r2.2.2.1, r2.2.2.2⟩
      rcases s2 _ h1 with h1 | ⟨_, x1, x2⟩ <;> rcases s2 _ h2 with h2 | ⟨_, y1, y2⟩
      · by_cases e : b = (n : Int)
        · subst e; exact s3 _ g h1 h2
        · exact s1 _ (i2 b (by omega) a c h1 h2)
      · by_cases e : b = (n : Int)
        · subst e; exact s3 _ g h1 y2
        · exact s3 _ g (i2 b (by omega) a (n : Int) h1 y1) y2
      · by_cases e : b = (n : Int)
        · subst e; exact s3 _ g x1 h2
        · exact s3 _ g x1 (i2 b (by omega) (n : Int) c x2 h2)
      · exact s3 _ g x1 y2
  intro a b c h1 h2
  by_cases hm : 0 ≤ m
  · have e : ((m.toNat : Nat) : Int) = m := by omega
    obtain ⟨_, i2⟩ := key m.toNat (by omega) (clo m ks) (by rw [e]; rfl)
    have := clo_in hr _ h1
    simp only at this
    exact i2 b (by omega) a c h1 h2
  · have := clo_in hr _ h1
    simp only at this
    omega
/-- upward pairs, closed: an order -/
theorem clo_ord {m : Int} {l : List (Int × Int)} (m1 : 1 ≤ m) (m9 : m ≤ 9) (hr : InR m l) (hu : ∀ p ∈ l, p.1 < p.2) : IsOrd m (sortB k2 (clo m (uq l))) := by
  have hr' : InR m (uq l) := fun p hp => hr p (uq_mem.mp hp)
  refine ⟨m1, m9, fun p hp => clo_in hr' p (sort_mem.mp hp), fun p hp => ?_, sort_asc (clo_nodup (uq_nodup l)), fun a b c h g => ?_⟩
  · have := clo_up (m := m) (fun p hp => hu p (uq_mem.mp hp)) p (sort_mem.mp hp)
    omega
  · rw [sort_mem] at *
    exact clo_trans hr' a b c h g
/-- an order's pairs, in any order, more than once -/
theorem clo_ord_self {m : Int} {l l' : List (Int × Int)} (o : IsOrd m l) (h : ∀ p, p ∈ l' ↔ p ∈ l) : sortB k2 (clo m (uq l')) = l := by
  have mem : ∀ p, p ∈ uq l' ↔ p ∈ l := fun p => by rw [uq_mem, h]
  rw [clo_self fun a b c => by rw [mem, mem, mem]; exact o.tr a b c]
  exact asc_uniq (sort_asc (uq_nodup l')) o.as fun p => by rw [sort_mem, mem]
/-- with other numbers -/
theorem ren_ord {m : Int} {l : List (Int × Int)} (o : IsOrd m l) {f : Int → Int} (hf : ∀ a, 0 ≤ a → a < m → 0 ≤ f a ∧ f a < m) (hi : ∀ a b, 0 ≤ a → a < m → 0 ≤ b → b < m → f a = f b → a = b) : IsOrd m (sortB k2 (l.map fun p => (f p.1, f p.2))) := by
  have hn : (l.map fun p => (f p.1, f p.2)).Nodup := nodup_map_inj (asc_nodup o.as) fun a ha b hb e => by
    have := o.bd a ha; have := o.bd b hb
    have e1 := congrArg Prod.fst e; have e2 := congrArg Prod.snd e
    exact Prod.ext (hi _ _ (by omega) (by omega) (by omega) (by omega) e1) (hi _ _ (by omega) (by omega) (by omega) (by omega) e2)
  have mem : ∀ {x y}, (x, y) ∈ sortB k2 (l.map fun p => (f p.1, f p.2)) → ∃ a b, (a, b) ∈ l ∧ f a = x ∧ f b = y := fun {x y} h => by
    obtain ⟨⟨a, b⟩, hp, e⟩ := List.mem_map.mp (sort_mem.mp h)
    cases e
    exact ⟨a, b, hp, rfl, rfl⟩
  refine ⟨o.m1, o.m9, ?_, ?_, sort_asc hn, ?_⟩
  · rintro ⟨x, y⟩ hp
    obtain ⟨a, b, h, rfl, rfl⟩ := mem hp
    have := o.bd _ h
    have h1 := hf a this.1 this.2.1
    have h2 := hf b this.2.2.1 this.2.2.2
    exact ⟨h1.1, h1.2, h2.1, h2.2⟩
  · rintro ⟨x, y⟩ hp
    obtain ⟨a, b, h, rfl, rfl⟩ := mem hp
    have hb := o.bd _ h
    have := o.ir _ h
    exact fun e => this (hi a b hb.1 hb.2.1 hb.2.2.1 hb.2.2.2 e)
  · intro x y z h g
    obtain ⟨a, b, h1, rfl, rfl⟩ := mem h
    obtain ⟨b', c, h2, e, rfl⟩ := mem g
    have h3 := o.bd _ h1
    have h4 := o.bd _ h2
    simp only at h3 h4
    obtain rfl := hi b b' h3.2.2.1 h3.2.2.2 h4.1 h4.2.1 e.symm
    exact sort_mem.mpr (List.mem_map.mpr ⟨(a, c), o.tr a b c h1 h2, rfl⟩)
/-! what stays show -/
def showL (st : List (Int × Int)) : List (Int × Int) := (gridL st.length).filter fun p => decide ((st[p.1.toNat]?.getD (0, 0)).2 < (st[p.2.toNat]?.getD (0, 0)).1)
theorem grid_asc (m : Int) : (gridL m).Pairwise lt2 := by
  unfold gridL
  rw [List.pairwise_flatMap]
  have hs : ∀ m : Int, (rngL 0 m).Pairwise (· < ·) := fun m => by
    unfold rngL
    rw [List.pairwise_map]
    exact List.Pairwise.imp (R := (· < ·)) (fun {a b} h => by omega) List.pairwise_lt_range
  refine ⟨fun a _ => ?_, (hs m).imp fun {a b} h p hp q hq => ?_⟩
  · rw [List.pairwise_map]
    exact (hs m).imp fun {x y} h => .inr ⟨rfl, h⟩
  · obtain ⟨x, _, rfl⟩ := List.mem_map.mp hp
    obtain ⟨y, _, rfl⟩ := List.mem_map.mp hq
    exact .inl h
theorem show_mem {st : List (Int × Int)} {a b : Int} : (a, b) ∈ showL st ↔ ∃ p q, 0 ≤ a ∧ 0 ≤ b ∧ st[a.toNat]? = some p ∧ st[b.toNat]? = some q ∧ p.2 < q.1 := by
  unfold showL
  rw [List.mem_filter, grid_mem]
  simp only [decide_eq_true_eq]
  constructor
  · rintro ⟨⟨h1, h2, h3, h4⟩, h5⟩
    have ha : a.toNat < st.length := by omega
    have hb : b.toNat < st.length := by omega
    rw [List.getElem?_eq_getElem ha, List.getElem?_eq_getElem hb] at h5
    exact ⟨_, _, h1, h3, List.getElem?_eq_getElem ha, List.getElem?_eq_getElem hb, h5⟩
  · rintro ⟨p, q, h1, h2, e1, e2, h⟩
    have ha := (List.getElem?_eq_some_iff.mp e1).1
    have hb := (List.getElem?_eq_some_iff.mp e2).1
    rw [e1, e2]
    exact ⟨⟨h1, by omega, h2, by omega⟩, h⟩
theorem show_ord {st : List (Int × Int)} (h1 : 1 ≤ st.length) (h9 : st.length ≤ 9) (ok : ∀ p ∈ st, p.1 ≤ p.2) : IsOrd st.length (showL st) := by
  refine ⟨by omega, by omega, fun p hp => grid_mem.mp (List.mem_filter.mp hp).1, ?_, List.Pairwise.filter _ (grid_asc _), ?_⟩
  · rintro ⟨a, b⟩ hp e
    simp only at e; subst e
    obtain ⟨p, q, _, _, e1, e2, h⟩ := show_mem.mp hp
    rw [e1] at e2; cases e2
    have := ok p (List.mem_of_getElem? e1)
    omega
  · intro a b c h g
    obtain ⟨p, q, ha, hb, e1, e2, h⟩ := show_mem.mp h
    obtain ⟨q', r, _, hc, e3, e4, g⟩ := show_mem.mp g
    rw [e2] at e3; cases e3
    have := ok q (List.mem_of_getElem? e2)
    exact show_mem.mpr ⟨p, r, ha, hc, e1, e4, by omega⟩

theorem is_whole_i (v : Int) : Pf FNS wf 1 i_is_whole [.d (.int v)] (.d (.bool true)) := by
  refine Pf.of at_is_whole rfl rfl fun n hn S => ?_
  simp [F_is_whole]
theorem is_between_i (v lo hi : Int) : Pf FNS wf 2 i_is_between [.d (.int v), .d (.int lo), .d (.int hi)] (.d (.bool (decide (lo ≤ v) && decide (v ≤ hi)))) := by
  refine Pf.of at_is_between rfl rfl fun n hn S => ?_
  simp [F_is_between, is_whole_i v n hn S]
  by_cases c : lo ≤ v <;> simp [c]
theorem is_tuple_of_t (xs : List D) (m : Int) : Pf FNS wf 1 i_is_tuple_of [.d (.tuple xs), .d (.int m)] (.d (.bool (decide ((xs.length : Int) = m)))) := by
  refine Pf.of at_is_tuple_of rfl rfl fun n hn S => ?_
  simp [F_is_tuple_of]

/-! things of any kind -/
def wholeB : D → Bool
  | .int _ => true
  | _ => false
def betB (lo hi : Int) : D → Bool
  | .int v => decide (lo ≤ v) && decide (v ≤ hi)
  | _ => false
theorem is_whole_a (x : D) : Pf FNS wf 1 i_is_whole [.d x] (.d (.bool (wholeB x))) := by
  refine Pf.of at_is_whole rfl rfl fun n hn S => ?_
  cases x <;> simp [F_is_whole, wholeB, isTy, isTyO, tyOf] <;> rfl
theorem bet_whole {lo hi : Int} {x : D} (h : betB lo hi x = true) : wholeB x = true := by
  cases x <;> simp_all [betB, wholeB]
theorem is_between_a (x : D) (lo hi : Int) : Pf FNS wf 2 i_is_between [.d x, .d (.int lo), .d (.int hi)] (.d (.bool (betB lo hi x))) := by
  refine Pf.of at_is_between rfl rfl fun n hn S => ?_
  have e := is_whole_a x n hn S
  cases x with
  | int v =>
    simp only [wholeB] at e
    simp [F_is_between, e, betB]
    by_cases c : lo ≤ v <;> simp [c]
  | _ =>
    simp only [wholeB] at e
    simp [F_is_between, e, betB]
def tupB (k : Int) : D → Bool
  | .tuple xs => decide ((xs.length : Int) = k)
  | _ => false
theorem is_tuple_of_a (x : D) (k : Int) : Pf FNS wf 1 i_is_tuple_of [.d x, .d (.int k)] (.d (.bool (tupB k x))) := by
  refine Pf.of at_is_tuple_of rfl rfl fun n hn S => ?_
  cases x <;> simp [F_is_tuple_of, tupB, isTy, isTyO, tyOf] <;> rfl
/-- a loop that returns at the first one that tells what -/
theorem lpS_someA {α : Type} {f : D → Ev → Store → Option (Ou × Store)} {e : α → D} {I : Nat → Ev → Store → Prop} {J : Store → Prop} {p : α → Option R} : ∀ {xs : List α} {k : Nat} {σ : Ev} {S : Store}, I k σ S →
    (∀ (i : Nat) (x : α) (σ : Ev) (S : Store) (Q : Ou × Store → Prop), xs[i]? = some x → I (k + i) σ S → (p x = none → ∀ σ' S', I (k + i + 1) σ' S' → Q (.nx σ', S')) → (∀ r, p x = some r → ∀ S', J S' → Q (.rt r, S')) → Ok (f (e x) σ S) Q) →
    Ok (lpS none f (xs.map e) σ S) fun o => match xs.findSome? p with
      | some r => o.1 = .rt r ∧ J o.2
      | none => ∃ σ', o.1 = .nx σ' ∧ I (k + xs.length) σ' o.2
  | [], k, σ, S, i, _ => ⟨(.nx σ, S), by simp [lpS], by simpa using i⟩
  | x :: r, k, σ, S, i, h => by
    have h0 := h 0 x σ S (fun o => match p x with
      | some r => o.1 = .rt r ∧ J o.2
      | none => ∃ σ', o.1 = .nx σ' ∧ I (k + 1) σ' o.2) rfl i (fun hp σ' S' q => by rw [hp]; exact ⟨σ', rfl, q⟩) (fun r hp S' q => by rw [hp]; exact ⟨rfl, q⟩)
    obtain ⟨⟨o, S1⟩, e1, q1⟩ := h0
    rw [List.map_cons, lpS, if_pos (show still none _ from trivial), e1, List.findSome?_cons]
    simp only [Option.bind_some]
    cases c : p x with
    | some v =>
      rw [c] at q1
      obtain ⟨z, q1⟩ := q1
      simp only at z; subst z
      exact ⟨_, rfl, rfl, q1⟩
    | none =>
      rw [c] at q1
      obtain ⟨σ1, z, q1⟩ := q1
      simp only at z; subst z
      have ih := lpS_someA (f := f) (e := e) (I := I) (J := J) (p := p) (xs := r) (k := k + 1) q1 fun j y σ S Q hj q n1 n2 => by
        have := h (j + 1) y σ S Q (by simpa using hj) (by rw [show k + (j + 1) = k + 1 + j by omega]; exact q)
        rw [show k + (j + 1) + 1 = k + 1 + j + 1 by omega] at this
        exact this n1 n2
      rw [List.length_cons, show k + (r.length + 1) = k + 1 + r.length by omega]
      exact ih
theorem lpS_some {α β : Type} {f : D → Ev → Store → Option (Ou × Store)} {e : α → D} (I : Nat → Ev → Store → Prop) (J : Store → Prop) (p : α → Option R) {xs : List α} {σ : Ev} {S : Store} {K : Ou × Store → Option β} {Q0 : β → Prop} (i0 : I 0 σ S)
    (h : ∀ (i : Nat) (x : α) (σ : Ev) (S : Store) (Q : Ou × Store → Prop), xs[i]? = some x → I i σ S → (p x = none → ∀ σ' S', I (i + 1) σ' S' → Q (.nx σ', S')) → (∀ r, p x = some r → ∀ S', J S' → Q (.rt r, S')) → Ok (f (e x) σ S) Q)
    (fin : xs.findSome? p = none → ∀ σ' S', I xs.length σ' S' → Ok (K (.nx σ', S')) Q0) (ret : ∀ r, xs.findSome? p = some r → ∀ S', J S' → Ok (K (.rt r, S')) Q0) : Ok ((lpS none f (xs.map e) σ S).bind K) Q0 := by
  refine Ok.bind (lpS_someA (I := I) (J := J) (p := p) (k := 0) i0 fun i x σ S Q hx q n1 n2 => h i x σ S Q hx (by rwa [Nat.zero_add] at q) (by rwa [Nat.zero_add] at n1) n2) ?_
  rintro ⟨o, S'⟩ q
  cases c : xs.findSome? p with
  | some r =>
    rw [c] at q
    obtain ⟨z, q⟩ := q
    simp only at z; subst z
    exact ret r c S' q
  | none =>
    rw [c, Nat.zero_add] at q
    obtain ⟨σ', z, q⟩ := q
    simp only at z; subst z
    exact fin c σ' S' q

theorem are_between_i {ns : List Int} {m lo hi : Int} (hm : (ns.length : Int) = m) (hl : ns.length ≤ LIM) (hb : ∀ v ∈ ns, lo ≤ v ∧ v ≤ hi) :
    Pf FNS wf 3 i_are_between [.d (.tuple (ns.map .int)), .d (.int m), .d (.int lo), .d (.int hi)] (.d (.bool true)) := by
  refine Pf.of at_are_between rfl rfl fun n hn S => ?_
  have e := fun v : Int => is_between_i v lo hi n (by omega)
  simp [-List.map_map, F_are_between, is_tuple_of_t _ m n (by omega), hm, ev_comp]
  rw [lpC_ofm (e' := PyData.bool) (g := fun v => decide (lo ≤ v) && decide (v ≤ hi)) (fun v hv => by simp [e])]
  simp [-List.map_map, hl]
  intro v hv; exact hb v hv
theorem is_stay_ok {p : Int × Int} (hp : 0 ≤ p.1 ∧ p.1 ≤ p.2 ∧ p.2 ≤ 9999) : Pf FNS wf 4 i_is_stay [.d (pD p)] (.d (.bool true)) := by
  refine Pf.of at_is_stay rfl rfl fun n hn S => ?_
  have e := are_between_i (ns := [p.1, p.2]) (m := 2) (lo := 0) (hi := 9999) rfl (by simp [LIM_eq]) (by simp; omega) n hn S
  simp only [List.map_cons, List.map_nil] at e
  simp [F_is_stay, pD, e, hp.2.1]
/-! the thirteen words -/
inductive Wd | bef | tou | ove | sta | dur | fin | equ | bbef | btou | bove | bsta | bdur | bfin
  deriving DecidableEq
def Wd.s : Wd → Str
  | .bef => "before" | .tou => "touches" | .ove => "overlaps" | .sta => "starts" | .dur => "during" | .fin => "ends" | .equ => "equal"
  | .bbef => "back before" | .btou => "back touches" | .bove => "back overlaps" | .bsta => "back starts" | .bdur => "back during" | .bfin => "back ends"
def Wd.back : Wd → Wd
  | .bef => .bbef | .tou => .btou | .ove => .bove | .sta => .bsta | .dur => .bdur | .fin => .bfin | .equ => .equ
  | .bbef => .bef | .btou => .tou | .bove => .ove | .bsta => .sta | .bdur => .dur | .bfin => .fin
def Wd.turn : Wd → Wd
  | .bef => .bbef | .tou => .btou | .ove => .bove | .sta => .fin | .dur => .dur | .fin => .sta | .equ => .equ
  | .bbef => .bef | .btou => .tou | .bove => .ove | .bsta => .bfin | .bdur => .bdur | .bfin => .bsta
def wdsL : List Wd := [.bef, .tou, .ove, .sta, .dur, .fin, .equ, .bbef, .btou, .bove, .bsta, .bdur, .bfin]
def wD (w : Wd) : D := .str w.s
theorem wd_in (w : Wd) : w ∈ wdsL := by cases w <;> decide
theorem all_wd {P : Wd → Prop} (h : ∀ w ∈ wdsL, P w) (w : Wd) : P w := h w (wd_in w)
theorem s_inj {a b : Wd} (h : a.s = b.s) : a = b := by
  have : ∀ a ∈ wdsL, ∀ b ∈ wdsL, a.s = b.s → a = b := by decide +kernel
  exact this a (wd_in a) b (wd_in b) h
theorem strOk_w (w : Wd) : PyData.strOk w.s = true := by
  have : ∀ a ∈ wdsL, PyData.strOk a.s = true := by decide +kernel
  exact this w (wd_in w)
theorem shp_w (w : Wd) : SeqAt.shaped (wD w) = true := by simp [wD, SeqAt.shaped, PyData.canLay0, PyData.depth, strOk_w]
theorem eqv_w (a b : Wd) : PyData.eqv (wD a) (wD b) = decide (a = b) := by
  by_cases c : a = b
  · subst c; simp [wD, PyData.eqv]
  · have : a.s ≠ b.s := fun z => c (s_inj z)
    simp only [wD, PyData.eqv, c, decide_false]
    exact beq_eq_false_iff_ne.mpr this
theorem eq_w (a b : Wd) : cmD .eq (wD a) (wD b) = some (decide (a = b)) := by
  show eqD _ _ = _
  unfold eqD
  rw [shp_w, shp_w, eqv_w]
  rfl
theorem eq_ws (a : Wd) (z : Str) (b : Wd) (h : b.s = z) : cmD .eq (wD a) (.str z) = some (decide (a = b)) := by subst h; exact eq_w a b
theorem any_w (w : Wd) : ∀ l : List Wd, ((l.map wD).any fun z => PyData.eqv z (wD w)) = decide (w ∈ l)
  | [] => by simp
  | x :: l => by
    rw [List.map_cons, List.any_cons, any_w w l, eqv_w]
    by_cases c : x = w
    · simp [c]
    · have : w ≠ x := fun z => c z.symm
      simp [c, this]
theorem lay_w : ∀ l : List Wd, PyData.canLayAll0 (l.map wD) = true ∧ PyData.depthAll (l.map wD) ≤ 1
  | [] => by simp [PyData.canLayAll0, PyData.depthAll]
  | x :: l => by
    obtain ⟨h1, h2⟩ := lay_w l
    simp [PyData.canLayAll0, PyData.canLay0, PyData.depthAll, PyData.depth, wD, strOk_w]
    exact ⟨h1, h2⟩
theorem shp_wt (l : List Wd) : SeqAt.shaped (.tuple (l.map wD)) = true := by
  obtain ⟨h1, h2⟩ := lay_w l
  simp [SeqAt.shaped, PyData.canLay0, PyData.depth, h1]; omega
theorem shp_wl (l : List Wd) : SeqAt.shaped (.list (l.map wD)) = true := by
  obtain ⟨h1, h2⟩ := lay_w l
  simp [SeqAt.shaped, PyData.canLay0, PyData.depth, h1]; omega
theorem mem_w (w : Wd) (l : List Wd) : cmD .mem (wD w) (.tuple (l.map wD)) = some (decide (w ∈ l)) := by
  simp only [cmD]
  simp only [memD, shp_w, shp_wt, Bool.and_self, if_true, any_w]
theorem eqva_w : ∀ a b : List Wd, PyData.eqvAll (a.map wD) (b.map wD) = decide (a = b)
  | [], [] => by simp [PyData.eqvAll]
  | [], _ :: _ => by simp [PyData.eqvAll]
  | _ :: _, [] => by simp [PyData.eqvAll]
  | x :: a, y :: b => by
    rw [List.map_cons, List.map_cons, PyData.eqvAll, eqv_w, eqva_w a b]
    by_cases c : x = y <;> simp [c]
theorem ne_wl (a b : List Wd) : cmD .ne (.list (a.map wD)) (.list (b.map wD)) = some (!decide (a = b)) := by
  have h : eqD (.list (a.map wD)) (.list (b.map wD)) = some (decide (a = b)) := by
    unfold eqD
    rw [shp_wl, shp_wl]
    simp only [Bool.and_self, if_true, PyData.eqv, eqva_w]
  simp only [cmD, h]; rfl
/-! two stays lie in one of thirteen ways -/
def sg (x y : Int) : Int := if x < y then -1 else if x = y then 0 else 1
theorem sg_lt (x y : Int) : (x < y) = (sg x y = -1) := by unfold sg; split <;> (try split) <;> simp <;> omega
theorem sg_eq (x y : Int) : (x = y) = (sg x y = 0) := by unfold sg; split <;> (try split) <;> simp <;> omega
theorem sg_gt (x y : Int) : (y < x) = (sg x y = 1) := by unfold sg; split <;> (try split) <;> simp <;> omega
theorem sg_neg (x y : Int) : sg y x = - sg x y := by unfold sg; split <;> split <;> (try split) <;> (try split) <;> omega
def Wd.sgs : Wd → Int × Int × Int × Int
  | .bef => (-1, 1, -1, -1) | .tou => (0, 1, -1, -1) | .ove => (1, 1, -1, -1) | .sta => (1, 1, 0, -1) | .dur => (1, 1, 1, -1) | .fin => (1, 1, 1, 0) | .equ => (1, 1, 0, 0)
  | .bbef => (1, -1, 1, 1) | .btou => (1, 0, 1, 1) | .bove => (1, 1, 1, 1) | .bsta => (1, 1, 0, 1) | .bdur => (1, 1, -1, 1) | .bfin => (1, 1, -1, 0)
def IsW (w : Wd) (p q : Int × Int) : Prop := (sg p.2 q.1, sg q.2 p.1, sg p.1 q.1, sg p.2 q.2) = w.sgs
theorem isw_ex {p q : Int × Int} (h1 : p.1 < p.2) (h2 : q.1 < q.2) : ∃ w, IsW w p q := by
  unfold IsW
  have t : ∀ x y : Int, (x < y ∧ sg x y = -1) ∨ (x = y ∧ sg x y = 0) ∨ (y < x ∧ sg x y = 1) := fun x y => by unfold sg; repeat' split <;> omega
  have key : (sg p.2 q.1, sg q.2 p.1, sg p.1 q.1, sg p.2 q.2) ∈ wdsL.map Wd.sgs := by
    rcases t p.2 q.1 with ⟨a1, b1⟩ | ⟨a1, b1⟩ | ⟨a1, b1⟩ <;>
    rcases t q.2 p.1 with ⟨a2, b2⟩ | ⟨a2, b2⟩ | ⟨a2, b2⟩ <;>
    rcases t p.1 q.1 with ⟨a3, b3⟩ | ⟨a3, b3⟩ | ⟨a3, b3⟩ <;>
    rcases t p.2 q.2 with ⟨a4, b4⟩ | ⟨a4, b4⟩ | ⟨a4, b4⟩ <;>
    rw [b1, b2, b3, b4] <;> first | decide | (exfalso; clear b1 b2 b3 b4 t; omega)
  obtain ⟨w, _, e⟩ := List.mem_map.mp key
  exact ⟨w, e.symm⟩
theorem IsW.parts {w : Wd} {p q : Int × Int} (h : IsW w p q) : sg p.2 q.1 = w.sgs.1 ∧ sg q.2 p.1 = w.sgs.2.1 ∧ sg p.1 q.1 = w.sgs.2.2.1 ∧ sg p.2 q.2 = w.sgs.2.2.2 := by
  unfold IsW at h
  rw [← h]
  exact ⟨rfl, rfl, rfl, rfl⟩
theorem IsW.swap {w : Wd} {p q : Int × Int} (h : IsW w p q) : IsW w.back q p := by
  obtain ⟨h1, h2, h3, h4⟩ := h.parts
  unfold IsW
  rw [h1, h2, sg_neg p.1 q.1, sg_neg p.2 q.2, h3, h4]
  cases w <;> rfl
def turnP (p : Int × Int) : Int × Int := (9999 - p.2, 9999 - p.1)
theorem sg_turn (x y : Int) : sg (9999 - x) (9999 - y) = sg y x := by unfold sg; split <;> split <;> (try split) <;> (try split) <;> omega
theorem IsW.turn {w : Wd} {p q : Int × Int} (h : IsW w p q) : IsW w.turn (turnP p) (turnP q) := by
  obtain ⟨h1, h2, h3, h4⟩ := h.parts
  unfold IsW turnP
  simp only [sg_turn]
  rw [h1, h2, sg_neg p.2 q.2, sg_neg p.1 q.1, h3, h4]
  cases w <;> rfl
theorem IsW.move {w : Wd} {p q : Int × Int} (h : IsW w p q) (k : Int) : IsW w (p.1 + k, p.2 + k) (q.1 + k, q.2 + k) := by
  have key : ∀ x y : Int, sg (x + k) (y + k) = sg x y := fun x y => by unfold sg; split <;> split <;> (try split) <;> (try split) <;> omega
  unfold IsW at h ⊢
  simp only [key]
  exact h
theorem back_back (w : Wd) : w.back.back = w := by cases w <;> rfl
/-! the words in sorted order -/
theorem sort_strs (zs : List Str) : sortG (zs.map .str) = (zs.mergeSort fun a b => decide (a.cps.toList ≤ b.cps.toList)).map .str := by
  unfold sortG
  have e := PySem.W.dataLe_str (β := Str) id
  have e2 := List.map_mergeSort (r := PySem.W.dataLe false fun b : Str => PyData.str b) (s := PySem.W.dataLe false id) (f := PyData.str) (l := zs) fun a _ b _ => rfl
  rw [← e2]
  congr 2
theorem str_ext {a b : Str} (h : a.cps.toList = b.cps.toList) : a = b := by
  cases a; cases b
  simp only [Str.mk.injEq]
  exact Array.toList_inj.mp h
theorem sort_perm {a b : List Str} (h : a.Perm b) : sortG (a.map .str) = sortG (b.map .str) := by
  rw [sort_strs, sort_strs]
  congr 1
  have tr : ∀ x y z : Str, decide (x.cps.toList ≤ y.cps.toList) = true → decide (y.cps.toList ≤ z.cps.toList) = true → decide (x.cps.toList ≤ z.cps.toList) = true := fun x y z h1 h2 => by
    simp only [decide_eq_true_eq] at *
    exact List.le_trans h1 h2
  have to : ∀ x y : Str, (decide (x.cps.toList ≤ y.cps.toList) || decide (y.cps.toList ≤ x.cps.toList)) = true := fun x y => by
    simp only [Bool.or_eq_true, decide_eq_true_eq]
    exact List.le_total _ _
  refine List.Perm.eq_of_pairwise (le := fun x y : Str => decide (x.cps.toList ≤ y.cps.toList) = true) (fun x y _ _ h1 h2 => ?_) (List.pairwise_mergeSort tr to a) (List.pairwise_mergeSort tr to b) (((List.mergeSort_perm _ _).trans h).trans (List.mergeSort_perm _ _).symm)
  simp only [decide_eq_true_eq] at h1 h2
  exact str_ext (List.le_antisymm h1 h2)
theorem sort_w (l : List Wd) (h : l ≠ []) : bltD .sorted [.list (l.map wD)] = some (.f (.list (sortG (l.map wD)))) := by
  cases l with
  | nil => exact absurd rfl h
  | cons w l =>
    refine blt_sorted_g rfl rfl ?_
    unfold goodS
    rw [shp_wl]
    simp only [Bool.true_and, Bool.and_eq_true, List.all_eq_true, Bool.or_eq_true]
    refine ⟨?_, .inr ?_⟩
    · intro x hx y hy
      obtain ⟨a, _, rfl⟩ := List.mem_map.mp hx
      obtain ⟨b, _, rfl⟩ := List.mem_map.mp hy
      simp [wD, PySem.W.alike]
    · intro x hx
      obtain ⟨a, _, rfl⟩ := List.mem_map.mp hx
      rfl

/-! what is done with words -/
def Wd.isB : Wd → Bool
  | .bbef | .btou | .bove | .bsta | .bdur | .bfin => true
  | _ => false
theorem sw_w (w : Wd) : Txt.startswith w.s "back " = w.isB := by
  have : ∀ w ∈ wdsL, Txt.startswith w.s "back " = w.isB := by decide +kernel
  exact this w (wd_in w)
theorem wd_small (w : Wd) : w.s.length ≤ LIM := by
  have : ∀ w ∈ wdsL, w.s.length ≤ LIM := by decide +kernel
  exact this w (wd_in w)
theorem cut5_w (w : Wd) (h : w.isB = true) : L2.cutS w.s (some 5) none = w.back.s := by
  have : ∀ w ∈ wdsL, w.isB = true → L2.cutS w.s (some 5) none = w.back.s := by decide +kernel
  exact this w (wd_in w) h
theorem slc5_w (w : Wd) (h : w.isB = true) : slcD (wD w) (some 5) none = some (.d (wD w.back)) := by
  simp only [slcD, wD]
  rw [if_pos (wd_small w), cut5_w w h]
theorem slc0_w (w : Wd) : slcD (wD w) none (some 5) = some (.d (.str (L2.cutS w.s none (some 5)))) := by
  simp only [slcD, wD]
  rw [if_pos (wd_small w)]
theorem cut0_w (w : Wd) : cmD .eq (.str (L2.cutS w.s none (some 5))) (.str "back ") = some w.isB := by
  have h : ∀ w ∈ wdsL, PyData.strOk (L2.cutS w.s none (some 5)) = true := by decide +kernel
  have e : ∀ w ∈ wdsL, (L2.cutS w.s none (some 5) == ("back " : Str)) = w.isB := by decide +kernel
  show eqD _ _ = _
  unfold eqD
  rw [show SeqAt.shaped (.str (L2.cutS w.s none (some 5))) = true by simp [SeqAt.shaped, PyData.canLay0, PyData.depth, h w (wd_in w)], show SeqAt.shaped (.str ("back " : Str)) = true by decide +kernel]
  simp only [Bool.and_self, if_true, PyData.eqv]
  rw [e w (wd_in w)]
theorem add_w (w : Wd) (h : w.isB = false) (h2 : w ≠ .equ) : opD .add (.str "back ") (wD w) = some (.d (wD w.back)) := by
  have e : ∀ w ∈ wdsL, w.isB = false → w ≠ .equ → ("back " : Str) ++ w.s = w.back.s := by decide +kernel
  have e2 : ∀ w ∈ wdsL, ("back " : Str).length + w.s.length ≤ LIM := by decide +kernel
  show (if ("back " : Str).length + w.s.length ≤ LIM then some (R.d (.str (("back " : Str) ++ w.s))) else none) = _
  rw [if_pos (e2 w (wd_in w)), e w (wd_in w) h h2]; rfl
theorem len_b : bltD .len [.str "back "] = some (.d (.int 5)) := by
  show (if ("back " : Str).length ≤ LIM then some (R.d (.int (("back " : Str).length : Nat))) else none) = _
  rw [if_pos (by decide +kernel), show ("back " : Str).length = 5 by decide +kernel]
  rfl
theorem back_word_by_ok (w : Wd) : Pf FNS wf 1 i_back_word_by [.d (wD w)] (.d (wD w.back)) := by
  refine Pf.of at_back_word_by rfl rfl fun n hn S => ?_
  have e := eq_ws w "equal" .equ rfl
  by_cases c : w = .equ
  · subst c; simp [F_back_word_by, e]; rfl
  have e2 := sw_w w
  cases c2 : w.isB
  · have e3 := add_w w c2 c
    rw [c2] at e2
    simp [F_back_word_by, e, c]
    simp [wD, e2] at e3 ⊢
    simp [e3]
  · have e3 := slc5_w w c2
    rw [c2] at e2
    simp [F_back_word_by, e, c, len_b]
    simp [wD, e2] at e3 ⊢
    simp [e3]
theorem law_back_ok (w : Wd) : Pf FNS wf 1 i__law_back [.d (wD w)] (.d (wD w.back)) := by
  refine Pf.of at__law_back rfl rfl fun n hn S => ?_
  have e := eq_ws w "equal" .equ rfl
  by_cases c : w = .equ
  · subst c; simp [F__law_back, e]; rfl
  have e1 := slc0_w w
  have e2 := cut0_w w
  cases c2 : w.isB
  · have e3 := add_w w c2 c
    rw [c2] at e2
    simp [F__law_back, e, c, e1, e2, e3]
  · have e3 := slc5_w w c2
    rw [c2] at e2
    simp [F__law_back, e, c, e1, e2, e3]
def fwdL : List Wd := [.bef, .tou, .ove, .sta, .dur, .fin]
theorem all_words_ok : Pf FNS wf 1 i_all_words [] (.d (.tuple (wdsL.map wD))) := by
  refine Pf.of at_all_words rfl rfl fun n hn S => ?_
  have hL : LIM = 16777216 := rfl
  simp [F_all_words, ev_comp]
  rw [show [PyData.str "before", PyData.str "touches", PyData.str "overlaps", PyData.str "starts", PyData.str "during", PyData.str "ends"] = fwdL.map wD from rfl]
  rw [lpC_ofm (e := wD) (e' := wD) (g := Wd.back) (fun w hw => by
    have : w.isB = false ∧ w ≠ .equ := by
      simp only [fwdL, List.mem_cons, List.not_mem_nil, or_false] at hw
      rcases hw with rfl | rfl | rfl | rfl | rfl | rfl <;> decide
    simp [add_w w this.1 this.2])]
  simp [splice, fwdL, wdsL, wD, Wd.s, Wd.back]
theorem law_all_words_ok : Pf FNS wf 1 i__law_all_words [] (.f (.list (wdsL.map wD))) := by
  refine Pf.of at__law_all_words rfl rfl fun n hn S => ?_
  have hL : LIM = 16777216 := rfl
  simp [F__law_all_words, ev_comp]
  rw [show [PyData.str "before", PyData.str "touches", PyData.str "overlaps", PyData.str "starts", PyData.str "during", PyData.str "ends"] = fwdL.map wD from rfl]
  rw [lpC_ofm (e := wD) (e' := wD) (g := Wd.back) (fun w hw => by
    have : w.isB = false ∧ w ≠ .equ := by
      simp only [fwdL, List.mem_cons, List.not_mem_nil, or_false] at hw
      rcases hw with rfl | rfl | rfl | rfl | rfl | rfl <;> decide
    simp [add_w w this.1 this.2])]
  simp [fwdL, wdsL, wD, Wd.s, Wd.back]
theorem is_word_ok (w : Wd) : Pf FNS wf 2 i_is_word [.d (wD w)] (.d (.bool true)) := by
  refine Pf.of at_is_word rfl rfl fun n hn S => ?_
  have e := all_words_ok n (by omega) S
  have e2 := mem_w w wdsL
  have : w ∈ wdsL := wd_in w
  simp only [this, decide_true] at e2
  simp only [wD] at e2
  simp [F_is_word, e, wD, e2]
theorem check_word_ok (w : Wd) : Pf FNS wf 3 i_check_word [.d (wD w)] (.d .none) := by
  refine Pf.of at_check_word rfl rfl fun n hn S => ?_
  have e := is_word_ok w n (by omega) S
  simp [F_check_word, e]
theorem back_word_ok (w : Wd) : Pf FNS wf 4 i_back_word [.d (wD w)] (.d (wD w.back)) := by
  refine Pf.of at_back_word rfl rfl fun n hn S => ?_
  have e := check_word_ok w n (by omega) S
  have e2 := back_word_by_ok w n (by omega) S
  simp [F_back_word, e, e2]

/-! what two stays are to each other -/
theorem sg_iff (x y : Int) : ((x < y) = (sg x y = -1)) ∧ ((x = y) = (sg x y = 0)) ∧ ((y < x) = (sg x y = 1)) := ⟨sg_lt x y, sg_eq x y, sg_gt x y⟩
theorem shp_p (p : Int × Int) : SeqAt.shaped (pD p) = true := by simp [pD, SeqAt.shaped, PyData.canLay0, PyData.canLayAll0, PyData.depth, PyData.depthAll]
theorem eq_pp (p q : Int × Int) : cmD .eq (pD p) (pD q) = some (decide (p.1 = q.1) && decide (p.2 = q.2)) := by
  show eqD _ _ = _
  unfold eqD
  rw [shp_p, shp_p]
  simp only [Bool.and_self, if_true, pD, PyData.eqv, PyData.eqvAll]
  simp only [Bool.and_true]
  rfl
def fwA : Wd → List Wd
  | .bef => [.bef] | .tou => [.tou] | .ove => [.ove] | _ => []
def fwI : Wd → List Wd
  | .sta => [.sta] | .dur => [.dur] | .fin => [.fin] | _ => []
section
variable {w : Wd} {p q : Int × Int}
theorem IsW.rw12 (h : IsW w p q) :
    ((p.2 < q.1) = (w.sgs.1 = -1)) ∧ ((p.2 = q.1) = (w.sgs.1 = 0)) ∧ ((q.1 < p.2) = (w.sgs.1 = 1)) ∧
    ((q.2 < p.1) = (w.sgs.2.1 = -1)) ∧ ((q.2 = p.1) = (w.sgs.2.1 = 0)) ∧ ((p.1 < q.2) = (w.sgs.2.1 = 1)) ∧
    ((p.1 < q.1) = (w.sgs.2.2.1 = -1)) ∧ ((p.1 = q.1) = (w.sgs.2.2.1 = 0)) ∧ ((q.1 < p.1) = (w.sgs.2.2.1 = 1)) ∧
    ((p.2 < q.2) = (w.sgs.2.2.2 = -1)) ∧ ((p.2 = q.2) = (w.sgs.2.2.2 = 0)) ∧ ((q.2 < p.2) = (w.sgs.2.2.2 = 1)) := by
  obtain ⟨h1, h2, h3, h4⟩ := h.parts
  rw [← h1, ← h2, ← h3, ← h4]
  exact ⟨sg_lt .., sg_eq .., sg_gt .., sg_lt .., sg_eq .., sg_gt .., sg_lt .., sg_eq .., sg_gt .., sg_lt .., sg_eq .., sg_gt ..⟩
theorem word_apart_ok (h : IsW w p q) : Pf FNS wf 1 i_word_apart [.d (pD p), .d (pD q)] (.f (.list ((fwA w).map wD))) := by
  refine Pf.of at_word_apart rfl rfl fun n hn S => ?_
  obtain ⟨a1, a2, a3, a4, a5, a6, a7, a8, a9, a10, a11, a12⟩ := h.rw12
  cases w <;> simp only [Wd.sgs] at a1 a2 a3 a4 a5 a6 a7 a8 a9 a10 a11 a12 <;>
    simp [F_word_apart, pD, fwA, a1, a2, a7, a10] <;> rfl
theorem word_inside_ok (h : IsW w p q) : Pf FNS wf 1 i_word_inside [.d (pD p), .d (pD q)] (.f (.list ((fwI w).map wD))) := by
  refine Pf.of at_word_inside rfl rfl fun n hn S => ?_
  obtain ⟨a1, a2, a3, a4, a5, a6, a7, a8, a9, a10, a11, a12⟩ := h.rw12
  cases w <;> simp only [Wd.sgs] at a1 a2 a3 a4 a5 a6 a7 a8 a9 a10 a11 a12 <;>
    simp [F_word_inside, pD, fwI, a8, a9, a10, a11] <;> rfl
def fwW (w : Wd) : List Wd := fwA w ++ fwI w
theorem forward_ok (h : IsW w p q) : Pf FNS wf 2 i_forward_word [.d (pD p), .d (pD q)] (.f (.list ((fwW w).map wD))) := by
  refine Pf.of at_forward_word rfl rfl fun n hn S => ?_
  have e1 := word_apart_ok h n hn
  have e2 := word_inside_ok h n hn
  have hl : (fwA w).length + (fwI w).length ≤ LIM := by have hL : LIM = 16777216 := rfl; cases w <;> simp [fwA, fwI] <;> omega
  simp [F_forward_word, e1, e2, hl, fwW]
theorem word_by_ok (h : IsW w p q) : Pf FNS wf 3 i_word_by [.d (pD p), .d (pD q)] (.d (wD w)) := by
  refine Pf.of at_word_by rfl rfl fun n hn S => ?_
  obtain ⟨a1, a2, a3, a4, a5, a6, a7, a8, a9, a10, a11, a12⟩ := h.rw12
  have e1 := forward_ok h n hn
  have e2 := forward_ok h.swap n hn
  have e3 := eq_pp p q
  rw [show decide (p.1 = q.1) = decide (w.sgs.2.2.1 = 0) by simp only [a8], show decide (p.2 = q.2) = decide (w.sgs.2.2.2 = 0) by simp only [a11]] at e3
  by_cases c : w = .equ
  · subst c
    simp [Wd.sgs] at e3
    simp [F_word_by, e3]
    rfl
  have e3 : cmD .eq (pD p) (pD q) = some false := by rw [e3]; cases w <;> first | exact absurd rfl c | rfl
  have e4 := ne_wl (fwW w) []
  cases c2 : w.isB
  · have e5 : subD (.list ((fwW w).map wD)) (.int 0) = some (wD w) := by cases w <;> first | exact absurd rfl c | exact absurd c2 (by decide) | exact sub_l0 _ _
    have e6 : decide (fwW w = []) = false := by cases w <;> first | exact absurd rfl c | exact absurd c2 (by decide) | rfl
    rw [e6] at e4
    simp only [List.map_nil] at e4
    simp [F_word_by, e3, e1, e4, e5]
  · have e5 : subD (.list ((fwW w.back).map wD)) (.int 0) = some (wD w.back) := by cases w <;> first | exact absurd c2 (by decide) | exact sub_l0 _ _
    have e6 : decide (fwW w = []) = true := by cases w <;> first | exact absurd c2 (by decide) | rfl
    have e7 := add_w w.back (by cases w <;> first | exact absurd c2 (by decide) | rfl) (by cases w <;> first | exact absurd c2 (by decide) | decide)
    rw [back_back] at e7
    rw [e6] at e4
    simp only [List.map_nil] at e4
    simp [F_word_by, e3, e1, e4, e2, e5, e7]
theorem law_word_ok (h : IsW w p q) : Pf FNS wf 1 i__law_word [.d (pD p), .d (pD q)] (.d (wD w)) := by
  refine Pf.of at__law_word rfl rfl fun n hn S => ?_
  obtain ⟨a1, a2, a3, a4, a5, a6, a7, a8, a9, a10, a11, a12⟩ := h.rw12
  cases w <;> simp only [Wd.sgs] at a1 a2 a3 a4 a5 a6 a7 a8 a9 a10 a11 a12 <;>
    simp [F__law_word, pD, a1, a2, a4, a5, a7, a8, a9, a10, a11, a12] <;> rfl
theorem law_marks_ok (h : IsW w p q) : Pf FNS wf 1 i__law_marks [.d (pD p), .d (pD q)] (.f (.list [wD w])) := by
  refine Pf.of at__law_marks rfl rfl fun n hn S => ?_
  have e3 := eq_pp p q
  obtain ⟨a1, a2, a3, a4, a5, a6, a7, a8, a9, a10, a11, a12⟩ := h.rw12
  simp only [pD] at e3
  cases w <;> simp only [Wd.sgs] at a1 a2 a3 a4 a5 a6 a7 a8 a9 a10 a11 a12 <;>
    simp [F__law_marks, pD, e3, ev_comp, lpC, a1, a2, a3, a4, a5, a6, a7, a8, a9, a10, a11, a12] <;> rfl
end

theorem blt_dm (i j : Int) (h : 0 < j) (h2 : j < 1073741824) : bltD .divmod [.int i, .int j] = some (.d (.tuple [.int (i / j), .int (i % j)])) := by
  show (if 0 < j && j < 1073741824 then _ else _) = _
  rw [if_pos (by simp [h, h2])]
theorem take_ok : Below FNS wf 1 i__law_take := by
  rintro S p m ⟨x, hp, a, b, c, ha, rfl⟩ hm hm2
  refine Wf.of at__law_take rfl rfl fun n hn => ?_
  have hm0 : m ≠ 0 := by omega
  simp [F__law_take, hp, Option.bind_assoc]
  by_cases c0 : 0 < a
  · simp [c0, blt_dm a m hm hm2, putD, L2.ixN, hp, Option.bind_assoc]
    exact Ok.some ⟨a % m, rfl, Int.emod_nonneg _ hm0, Int.emod_lt_of_pos _ hm, _, ⟨_, _, _, Int.ediv_nonneg ha (by omega), rfl⟩, rfl⟩
  · simp [c0, hm0, putD, L2.ixN, hp, cmulB_r, cmulB_l, cmulB_fm, cdivB, get_set _ hp]
    exact Ok.some ⟨_, rfl, (fm_lt _ hm).1, (fm_lt _ hm).2, _, ⟨_, _, _, ha, rfl⟩, rfl⟩
theorem of_ok {S : Store} {p : Nat} (hp : Pool S p) {xs : List D} (h1 : 0 < xs.length) (h2 : xs.length < 1073741824) :
    Wf FNS wf 2 i__law_of [.l p, .d (.tuple xs)] S fun r S' => ∃ x, r = .d x ∧ x ∈ xs ∧ ∃ y, PoolD y ∧ S' = S.set p y := by
  refine Wf.of at__law_of rfl rfl fun n hn => ?_
  simp [F__law_of, Option.bind_assoc]
  refine Ok.bind (take_ok S p xs.length hp (by omega) (by omega) n (by omega)) ?_
  rintro ⟨r, S'⟩ ⟨v, rfl, v0, v1, y, hy, rfl⟩
  have hi : xs[v.toNat]? = some (xs[v.toNat]'(by omega)) := List.getElem?_eq_getElem _
  simp [sub_t v0 hi]
  exact Ok.some ⟨_, rfl, List.getElem_mem _, y, hy, rfl⟩
theorem well_ok (ns : List Int) (lap : Nat) (hn : ns.length ≤ 63) (hl : lap < 1000) (S : Store) : Wf FNS wf 1 i__law_well [.s ns, .d (.int lap)] S fun r S' => S' = S ∧ ∃ x, PoolD x ∧ r = .f x := by
  refine Wf.of at__law_well rfl rfl fun n _ => ?_
  simp [F__law_well, -exs_cons]
  rw [exs_cons, Option.bind_assoc]
  refine Ok.bind (P := fun p => ∃ c : Int, p = (.nx [some (.s ns), some (.d (.int lap)), some (.d (.int c)), none, none], S)) ?_ ?_
  · by_cases c : (lap : Int) < ns.length
    · have hi : ns[lap]? = some ns[lap] := List.getElem?_eq_getElem (by omega)
      simp [c]
      rw [sub_l (d := .int ns[lap]) (by omega) (by simp [hi])]
      exact Ok.some ⟨_, rfl⟩
    · simp [c, cmulB_l]
      exact Ok.some ⟨_, rfl⟩
  · rintro _ ⟨c, rfl⟩
    obtain ⟨ys, hy⟩ : ∃ ys : List Int, cutD (ns.map .int) none (some 8) = ys.map .int := ⟨_, cutD_map ..⟩
    have hy1 : ys.length + 1 ≤ LIM := by
      have : (cutD (ns.map .int) none (some 8)).length ≤ 63 := by
        unfold cutD
        rw [List.length_take, List.length_drop, List.length_map]
        omega
      rw [hy, List.length_map] at this
      have hL : LIM = 16777216 := rfl
      omega
    simp [cmulB_l, Option.bind_assoc, ex_for, slcD, hy, hy1]
    rw [show (ys.map PyData.int ++ [PyData.int c]) = (ys ++ [c]).map .int by simp]
    refine Ok.bind (lpS_ok (I := fun i σ S' => S' = S ∧ ∃ a z, σ = [some (.s ns), some (.d (.int lap)), some (.d (.int c)), some (.d (.int a)), z]) ⟨rfl, _, _, rfl⟩ ?_) ?_
    · rintro i x σ S' hx ⟨rfl, a, z, rfl⟩
      simp [cmulB_r]
      exact Ok.some ⟨_, rfl, rfl, _, _, rfl⟩
    · rintro ⟨o, S'⟩ ⟨σ', rfl, rfl, a, z, rfl⟩
      simp [cmulB_r, cmulB_l, cmulB_fl, cpowB, Option.bind_assoc]
      by_cases c1 : c < 0
      · simp [c1, LIM_eq]
        exact Ok.some ⟨rfl, _, ⟨_, _, _, show 0 ≤ -c by omega, rfl⟩, rfl⟩
      · by_cases c2 : 1000000000000000000 ≤ c
        · simp [c1, c2, LIM_eq]
          exact Ok.some ⟨rfl, _, ⟨_, _, _, show 0 ≤ c by omega, rfl⟩, rfl⟩
        · simp [c1, c2, LIM_eq]
          exact Ok.some ⟨rfl, _, ⟨_, _, _, Int.le_refl 0, rfl⟩, rfl⟩

theorem same_w (w : Wd) : Pf FNS wf 1 i__law_same [.d (wD w), .d (wD w)] (.d (.bool true)) := by
  refine Pf.of at__law_same rfl rfl fun n hn S => ?_
  have e := eq_w w w
  simp only [wD, decide_true] at e
  simp [F__law_same, wD, e]
theorem same_wl (l : List Wd) (hl : l.length ≤ 9) {ra rb : R} (ha : ra = .f (.list (l.map wD)) ∨ ra = .d (.list (l.map wD))) (hb : rb = .f (.list (l.map wD)) ∨ rb = .d (.list (l.map wD))) : Pf FNS wf 2 i__law_same [ra, rb] (.d (.bool true)) := by
  have hL : LIM = 16777216 := rfl
  have key : ∀ n, 1 ≤ n → ∀ S, ev (run FNS wf n) (.comp (.call i__law_same [] (.cons (.sub (.var 0) (.var 2)) (.cons (.sub (.var 1) (.var 2)) .nil))) [2] (.cons (.nm 2) (.rng (.cons (.blt .len (.cons (.var 1) .nil)) .nil)) .nil .nil)) [some (.d (.list (l.map wD))), some (.d (.list (l.map wD))), none] S = some (.f (.list (l.map fun _ => .bool true)), S) := fun n hn S => by
    have hr : inR (l.length : Int) = true := inR_r (by omega)
    simp [ev_comp, hr, rngD_L]
    rw [lpC_ofm (e' := PyData.bool) (g := fun _ => true) (fun v hv => by
      have hv := rngL_mem.mp hv
      have hi : l[v.toNat]? = some (l[v.toNat]'(by omega)) := List.getElem?_eq_getElem _
      have e : subD (.list (l.map wD)) (.int v) = some (wD (l[v.toNat]'(by omega))) := sub_l hv.1 (by rw [List.getElem?_map, hi]; rfl)
      simp [e, same_w _ n hn S])]
    have : (rngL 0 (l.length : Int)).length ≤ LIM := by rw [rngL_length]; omega
    have h2 : ((rngL 0 (l.length : Int)).map fun _ => PyData.bool true) = l.map fun _ => PyData.bool true := by
      rw [List.map_const', List.map_const', rngL_length]; congr 1
    simp [this, h2]
    exact ⟨by omega, h2⟩
  have bo : boolsOf (l.map fun _ => PyData.bool true) = some (l.map fun _ => true) := boolsOf_map (fun _ => true) l
  refine Pf.of at__law_same (by rcases ha with rfl | rfl <;> rcases hb with rfl | rfl <;> rfl) rfl (fun n hn S => ?_) (by rcases ha with rfl | rfl <;> rcases hb with rfl | rfl <;> rfl)
  have key := key n hn
  rcases ha with rfl | rfl <;> rcases hb with rfl | rfl <;> simp [F__law_same, key, blt_all_of bo]
def Lg (p : Int × Int) : Prop := 0 ≤ p.1 ∧ p.1 < p.2 ∧ p.2 ≤ 9999
theorem is_long_ok {p : Int × Int} (h : Lg p) : Pf FNS wf 5 i_is_long_stay [.d (pD p)] (.d (.bool true)) := by
  refine Pf.of at_is_long_stay rfl rfl fun n hn S => ?_
  obtain ⟨h1, h2, h3⟩ := h
  have e := is_stay_ok (p := p) ⟨h1, by omega, h3⟩ n (by omega) S
  simp only [pD] at e
  simp [F_is_long_stay, pD, e, h2]
theorem check_long_ok {p : Int × Int} (h : Lg p) : Pf FNS wf 6 i_check_long_stay [.d (pD p)] (.d .none) := by
  refine Pf.of at_check_long_stay rfl rfl fun n hn S => ?_
  have e := is_long_ok h n (by omega) S
  simp [F_check_long_stay, e]
theorem word_of_ok {w : Wd} {p q : Int × Int} (hp : Lg p) (hq : Lg q) (h : IsW w p q) : Pf FNS wf 7 i_word_of [.d (pD p), .d (pD q)] (.d (wD w)) := by
  refine Pf.of at_word_of rfl rfl fun n hn S => ?_
  have e1 := check_long_ok hp n (by omega) S
  have e2 := check_long_ok hq n (by omega) S
  have e3 := word_by_ok h n (by omega) S
  simp [F_word_of, e1, e2, e3]
theorem long_ok {S : Store} {p : Nat} (hp : Pool S p) {wide : Int} (h1 : 1 ≤ wide) (h2 : wide ≤ 4000) :
    Wf FNS wf 2 i__law_long [.l p, .d (.int wide)] S fun r S' => ∃ q, r = .d (pD q) ∧ (0 ≤ q.1 ∧ q.1 < q.2 ∧ q.2 ≤ 8000) ∧ ∃ y, PoolD y ∧ S' = S.set p y := by
  refine Wf.of at__law_long rfl rfl fun n hn => ?_
  simp [F__law_long, Option.bind_assoc]
  refine Ok.bind (take_ok S p wide hp (by omega) (by omega) n (by omega)) ?_
  rintro ⟨r, S'⟩ ⟨v, rfl, v0, v1, y, hy, rfl⟩
  simp [Option.bind_assoc]
  refine Ok.bind (take_ok (S.set p y) p wide (hp.set hy) (by omega) (by omega) n (by omega)) ?_
  rintro ⟨r, S'⟩ ⟨v2, rfl, v20, v21, y2, hy2, rfl⟩
  simp
  exact Ok.some ⟨v, v + 1 + v2, rfl, ⟨by omega, by omega, by omega⟩, y2, hy2, rfl⟩
theorem is_told_ok {S : Store} {k : Nat} (hk : Pool S k) {p q : Int × Int} (hp : Lg p) (hq : Lg q) :
    Wf FNS wf 8 i__law_is_told [.l k, .d (pD p), .d (pD q)] S fun r S' => r = .d (.bool true) ∧ ∃ y, PoolD y ∧ S' = S.set k y := by
  refine Wf.of at__law_is_told rfl rfl fun n hn => ?_
  obtain ⟨w, hw⟩ := isw_ex (p := p) (q := q) hp.2.1 hq.2.1
  have e1 := law_marks_ok hw n (by omega)
  have e2 := law_word_ok hw n (by omega)
  have e3 := ne_wl [w] [w]
  have e4 := same_w w n (by omega)
  have e5 := word_of_ok hp hq hw n (by omega)
  simp only [List.map_cons, List.map_nil, decide_true, Bool.not_true] at e3
  simp [F__law_is_told, e1, e2, e3, Option.bind_assoc]
  refine Ok.bind (take_ok S k 2 hk (by omega) (by omega) n (by omega)) ?_
  rintro ⟨r, S'⟩ ⟨v, rfl, v0, v1, y, hy, rfl⟩
  by_cases c : v = 0 <;> simp [c, e4, e5] <;> exact Ok.some ⟨rfl, y, hy, rfl⟩
theorem turned_ok (p : Int × Int) : Pf FNS wf 1 i__law_turned [.d (pD p)] (.d (pD (turnP p))) := by
  refine Pf.of at__law_turned rfl rfl fun n hn S => ?_
  simp [F__law_turned, pD, turnP]
/-! the dict of words turned in time -/
def wE (l : List (Wd × Wd)) : List (D × D) := l.map fun p => (wD p.1, wD p.2)
theorem look_w (w : Wd) : ∀ l : List (Wd × Wd), lookS w.s (wE l) = (l.find? fun p => decide (p.1 = w)).map fun p => wD p.2
  | [] => rfl
  | p :: l => by
    show (if skey (wD p.1) = some w.s then some (wD p.2) else lookS w.s (wE l)) = _
    by_cases c : p.1 = w
    · subst c; simp [wD, skey]
    · have : p.1.s ≠ w.s := fun z => c (s_inj z)
      rw [if_neg (by simp [wD, skey, this]), look_w w l, List.find?_cons, show decide (p.1 = w) = false by simp [c]]
theorem put_w {l : List (Wd × Wd)} {w v : Wd} (hl : l.length < 20) (h0 : l ≠ []) (h : (l.find? fun p => decide (p.1 = w)) = none) : putD (.dict (wE l)) (wD w) (wD v) = some (.dict (wE (l ++ [(w, v)]))) := by
  have hL : LIM = 16777216 := rfl
  have h1 : lookS w.s (wE l) = none := by rw [look_w, h]; rfl
  have h2 : dpI (wE l) (wD v) (wD w) = some (wE (l ++ [(w, v)])) := by
    show (if (wE l).length < LIM then some (putS w.s (wD v) (wE l)) else none) = _
    rw [if_pos (by unfold wE; rw [List.length_map]; omega)]
    unfold putS
    rw [h1]
    simp [wE, wD]
  cases l with
  | nil => exact absurd rfl h0
  | cons p l =>
    show (dictPut (wE (p :: l)) (wD w) (wD v)).map PyData.dict = _
    show (dpI (wE (p :: l)) (wD v) (wD w)).map PyData.dict = _
    rw [h2]; rfl
theorem get_w {l : List (Wd × Wd)} {w v : Wd} (h : (l.find? fun p => decide (p.1 = w)) = some (w, v)) : subD (.dict (wE l)) (wD w) = some (wD v) := by
  cases l with
  | nil => cases h
  | cons p l =>
    show (dgI (wE (p :: l)) (wD w)).bind id = _
    show (some (lookS w.s (wE (p :: l)))).bind id = _
    rw [look_w, h]; rfl
def turnL : List (Wd × Wd) := [(.bef, .bbef), (.tou, .btou), (.ove, .bove), (.sta, .fin), (.dur, .dur), (.fin, .sta), (.equ, .equ)]
theorem in_time_ok (w : Wd) : Pf FNS wf 1 i__law_in_time [.d (wD w)] (.d (wD w.turn)) := by
  refine Pf.of at__law_in_time rfl rfl fun n hn S => ?_
  have e0 : (["before", "touches", "overlaps", "starts", "during", "ends", "equal"] : List Str).Nodup := by
    have : ([.bef, .tou, .ove, .sta, .dur, .fin, .equ] : List Wd).Nodup := by decide
    have h3 : (([.bef, .tou, .ove, .sta, .dur, .fin, .equ] : List Wd).map Wd.s).Nodup := List.pairwise_map.mpr (this.imp fun {a b} (h : a ≠ b) (z : a.s = b.s) => h (s_inj z))
    exact h3
  have ed : ∀ (cf : Cf) (σ : Ev) (S : Store), ev cf (.dsp [("before", "back before"), ("touches", "back touches"), ("overlaps", "back overlaps"), ("starts", "ends"), ("during", "during"), ("ends", "starts"), ("equal", "equal")]) σ S = some (.f (.dict (wE turnL)), S) := fun cf σ S => by
    rw [ev_dsp, if_pos ⟨by decide, by decide, e0⟩]; rfl
  have e1 := put_w (l := turnL) (w := .bsta) (v := .bfin) (by decide) (by decide) (by decide)
  have e2 := put_w (l := turnL ++ [(.bsta, .bfin)]) (w := .bfin) (v := .bsta) (by decide) (by decide) (by decide)
  have e3 := put_w (l := turnL ++ [(.bsta, .bfin)] ++ [(.bfin, .bsta)]) (w := .bdur) (v := .bdur) (by decide) (by decide) (by decide)
  have e4 := put_w (l := turnL ++ [(.bsta, .bfin)] ++ [(.bfin, .bsta)] ++ [(.bdur, .bdur)]) (w := .bbef) (v := .bef) (by decide) (by decide) (by decide)
  have e5 := put_w (l := turnL ++ [(.bsta, .bfin)] ++ [(.bfin, .bsta)] ++ [(.bdur, .bdur)] ++ [(.bbef, .bef)]) (w := .btou) (v := .tou) (by decide) (by decide) (by decide)
  have e6 := put_w (l := turnL ++ [(.bsta, .bfin)] ++ [(.bfin, .bsta)] ++ [(.bdur, .bdur)] ++ [(.bbef, .bef)] ++ [(.btou, .tou)]) (w := .bove) (v := .ove) (by decide) (by decide) (by decide)
  have e7 := get_w (l := turnL ++ [(.bsta, .bfin)] ++ [(.bfin, .bsta)] ++ [(.bdur, .bdur)] ++ [(.bbef, .bef)] ++ [(.btou, .tou)] ++ [(.bove, .ove)]) (w := w) (v := w.turn) (by cases w <;> decide)
  simp only [wD, Wd.s] at e1 e2 e3 e4 e5 e6
  generalize wE (turnL ++ [(.bsta, .bfin)] ++ [(.bfin, .bsta)] ++ [(.bdur, .bdur)] ++ [(.bbef, .bef)] ++ [(.btou, .tou)] ++ [(.bove, .ove)]) = T6 at *
  generalize wE (turnL ++ [(.bsta, .bfin)] ++ [(.bfin, .bsta)] ++ [(.bdur, .bdur)] ++ [(.bbef, .bef)] ++ [(.btou, .tou)]) = T5 at *
  generalize wE (turnL ++ [(.bsta, .bfin)] ++ [(.bfin, .bsta)] ++ [(.bdur, .bdur)] ++ [(.bbef, .bef)]) = T4 at *
  generalize wE (turnL ++ [(.bsta, .bfin)] ++ [(.bfin, .bsta)] ++ [(.bdur, .bdur)]) = T3 at *
  generalize wE (turnL ++ [(.bsta, .bfin)] ++ [(.bfin, .bsta)]) = T2 at *
  generalize wE (turnL ++ [(.bsta, .bfin)]) = T1 at *
  generalize wE (turnL) = T0 at *
  simp [F__law_in_time, -ev_dsp, ed, Option.bind_assoc]
  simp [e1, e2, e3, e4, e5, e6, e7]

theorem back_told_ok (w : Wd) : Pf FNS wf 5 i__law_back_told [.d (wD w)] (.d (.bool true)) := by
  refine Pf.of at__law_back_told rfl rfl fun n hn S => ?_
  have hL : LIM = 16777216 := rfl
  have e1 := back_word_ok w n (by omega) S
  have e2 := back_word_ok w.back n (by omega) S
  rw [back_back] at e2
  have e3 := law_back_ok w n (by omega) S
  have e4 := same_wl [w.back, w.back] (by simp) (.inr rfl) (.inl rfl) n (by omega) S
  have e5 := same_w w n (by omega) S
  have e6 := eq_w w.back w
  have e7 := eq_ws w "equal" .equ rfl
  have e8 : decide (w.back = w) = decide (w = .equ) := by cases w <;> decide
  have e9 : opD .mul (.list [wD w.back]) (.int 2) = some (.f (.list [wD w.back, wD w.back])) := by
    show (if (decide ((2 : Int).natAbs ≤ LIM) && decide ([wD w.back].length * (2 : Int).toNat ≤ LIM)) = true then some (R.f (.list (List.replicate (2 : Int).toNat [wD w.back]).flatten)) else none) = _
    rw [if_pos (by simp [hL])]
    rfl
  rw [e8] at e6
  simp only [List.map_cons, List.map_nil] at e4
  simp [F__law_back_told, e1, e2, e3, e4, e5, e6, e7, e9]
theorem right_ok {S : Store} {k : Nat} (hk : Pool S k) : Wf FNS wf 9 i__law_right [.l k] S fun r S' => r = .d (.bool true) ∧ ∃ y, PoolD y ∧ S' = S.set k y := by
  refine Wf.ofk at__law_right rfl rfl fun n Q hn hQ => ?_
  simp [F__law_right, -exs_cons]
  rw [exs_cons, ex_for]
  simp [Option.bind_assoc, rngD_L, inR_r (show -(2 ^ 62) < (60 : Int) ∧ (60 : Int) < 2 ^ 62 by omega), -exs_cons]
  obtain ⟨x0, hx0, px0⟩ := hk
  refine lpS_k (fun i σ S' => ∃ (y : D) (a1 a2 a3 a4 a5 a6 a7 : Option R), σ = [some (.l k), a1, a2, a3, a4, a5, a6, a7] ∧ S' = S.set k y ∧ PoolD y) ?_ ?_ ?_
  · exact ⟨x0, _, _, _, _, _, _, _, rfl, (set_self hx0).symm, px0⟩
  · rintro i turn σ S' Q1 hi ⟨y, a1, a2, a3, a4, a5, a6, a7, rfl, rfl, py⟩ hQ1
    have pl : ∀ (y : D), PoolD y → Pool (S.set k y) k := fun y h => ⟨y, get_set y hx0, h⟩
    have hlap := rngL_at hi
    simp only [asg_nm, Option.bind_some, List.set]
    refine exs_k (fun σ S' => ∃ y wide, PoolD y ∧ 1 ≤ wide ∧ wide ≤ 4000 ∧ σ = [some (.l k), some (.d (.int turn)), some (.d (.int wide)), a3, a4, a5, a6, a7] ∧ S' = S.set k y) (fun Q hQ => ?_) ?_
    · simp [Option.bind_assoc]
      refine (of_ok (pl y py) (xs := [.int 3, .int 5, .int 9, .int 4000]) (by simp) (by simp)).k (by omega) ?_
      rintro r S1 ⟨w0, rfl, hw0, y1, py1, rfl⟩
      obtain ⟨v, rfl, hv⟩ : ∃ v : Int, w0 = .int v ∧ 1 ≤ v ∧ v ≤ 4000 := by
        simp only [List.mem_cons, List.not_mem_nil, or_false] at hw0
        rcases hw0 with rfl | rfl | rfl | rfl <;> exact ⟨_, rfl, by omega, by omega⟩
      simp
      exact Ok.some (hQ _ _ ⟨y1, v, py1, hv.1, hv.2, rfl, by simp⟩)
    rintro σ S' ⟨y, wide, py, w1, w2, rfl, rfl⟩
    refine exs_k (fun σ S' => ∃ y p q, PoolD y ∧ (0 ≤ p.1 ∧ p.1 < p.2 ∧ p.2 ≤ 8000) ∧ (0 ≤ q.1 ∧ q.1 < q.2 ∧ q.2 ≤ 8000) ∧ σ = [some (.l k), some (.d (.int turn)), some (.d (.int wide)), some (.d (pD p)), some (.d (pD q)), a5, a6, a7] ∧ S' = S.set k y) (fun Q hQ => ?_) ?_
    · simp [Option.bind_assoc]
      refine (long_ok (pl y py) w1 w2).k (by omega) ?_
      rintro r S1 ⟨p, rfl, hp, y1, py1, rfl⟩
      simp [Option.bind_assoc]
      refine (long_ok (pl y1 py1) w1 w2).k (by omega) ?_
      rintro r S1 ⟨q, rfl, hq, y2, py2, rfl⟩
      simp
      exact Ok.some (hQ _ _ ⟨y2, p, q, py2, hp, hq, rfl, by simp⟩)
    rintro σ S' ⟨y, p, q, py, hp, hq, rfl, rfl⟩
    have lp : Lg p := ⟨hp.1, hp.2.1, by omega⟩
    have lq : Lg q := ⟨hq.1, hq.2.1, by omega⟩
    refine exs_k (fun σ S' => ∃ y, PoolD y ∧ σ = [some (.l k), some (.d (.int turn)), some (.d (.int wide)), some (.d (pD p)), some (.d (pD q)), a5, a6, a7] ∧ S' = S.set k y) (fun Q hQ => ?_) ?_
    · simp [Option.bind_assoc]
      refine (is_told_ok (pl y py) lp lq).k (by omega) ?_
      rintro r S1 ⟨rfl, y1, py1, rfl⟩
      simp
      exact Ok.some (hQ _ _ ⟨y1, py1, rfl, by simp⟩)
    rintro σ S' ⟨y, py, rfl, rfl⟩
    by_cases c : turn < 20
    · obtain ⟨w, hw⟩ := isw_ex (p := p) (q := q) hp.2.1 hq.2.1
      have e1 := word_of_ok lp lq hw n (by omega)
      simp [c, e1, Option.bind_assoc]
      refine (take_ok _ _ 50 (pl y py) (by omega) (by omega)).k (by omega) ?_
      rintro r1 S1 ⟨v, rfl, v0, v1, y1, py1, rfl⟩
      have hb : ∀ p : Int × Int, subD (pD p) (.int 0) = some (.int p.1) ∧ subD (pD p) (.int 1) = some (.int p.2) := fun p => ⟨sub_t0 _ _, sub_t1 _ _ _⟩
      have e2 := word_of_ok (p := (p.1 + (1 + v), p.2 + (1 + v))) (q := (q.1 + (1 + v), q.2 + (1 + v))) ⟨by show 0 ≤ p.1 + (1 + v); omega, by show p.1 + (1 + v) < p.2 + (1 + v); omega, by show p.2 + (1 + v) ≤ 9999; omega⟩ ⟨by show 0 ≤ q.1 + (1 + v); omega, by show q.1 + (1 + v) < q.2 + (1 + v); omega, by show q.2 + (1 + v) ≤ 9999; omega⟩ (hw.move (1 + v)) n (by omega)
      have e3 := turned_ok p n (by omega)
      have e4 := turned_ok q n (by omega)
      have e5 := word_of_ok (p := turnP p) (q := turnP q) ⟨by show 0 ≤ 9999 - p.2; omega, by show 9999 - p.2 < 9999 - p.1; omega, by show 9999 - p.1 ≤ 9999; omega⟩ ⟨by show 0 ≤ 9999 - q.2; omega, by show 9999 - q.2 < 9999 - q.1; omega, by show 9999 - q.1 ≤ 9999; omega⟩ hw.turn n (by omega)
      have e6 := in_time_ok w n (by omega)
      have e7 := same_wl [w, w.turn] (by simp) (.inl rfl) (.inl rfl) n (by omega)
      simp only [List.map_cons, List.map_nil] at e7
      rw [show pD (p.1 + (1 + v), p.2 + (1 + v)) = .tuple [.int (p.1 + (1 + v)), .int (p.2 + (1 + v))] from rfl, show pD (q.1 + (1 + v), q.2 + (1 + v)) = .tuple [.int (q.1 + (1 + v)), .int (q.2 + (1 + v))] from rfl] at e2
      simp [hb, e2, e3, e4, e5, e6, e7]
      exact Ok.some (hQ1 _ _ ⟨y1, _, _, _, _, _, _, _, rfl, by simp, py1⟩)
    · simp [c]
      exact Ok.some (hQ1 _ _ ⟨y, _, _, _, _, _, _, _, rfl, rfl, py⟩)
  · rintro σ' S' ⟨y, a1, a2, a3, a4, a5, a6, a7, rfl, rfl, py⟩
    simp
    exact Ok.some (hQ _ _ ⟨rfl, y, py, rfl⟩)
theorem backs_ok {S : Store} {k : Nat} (hk : Pool S k) : Wf FNS wf 9 i__law_backs_right [.l k] S fun r S' => r = .d (.bool true) ∧ ∃ y, PoolD y ∧ S' = S.set k y := by
  refine Wf.ofk at__law_backs_right rfl rfl fun n Q hn hQ => ?_
  simp [F__law_backs_right, -exs_cons]
  rw [exs_cons, ex_for]
  simp [Option.bind_assoc, rngD_L, inR_r (show -(2 ^ 62) < (40 : Int) ∧ (40 : Int) < 2 ^ 62 by omega), -exs_cons]
  obtain ⟨x0, hx0, px0⟩ := hk
  refine lpS_k (fun i σ S' => ∃ (y : D) (a1 a2 a3 a4 a5 : Option R), σ = [some (.l k), a1, a2, a3, a4, a5] ∧ S' = S.set k y ∧ PoolD y) ?_ ?_ ?_
  · exact ⟨x0, _, _, _, _, _, rfl, (set_self hx0).symm, px0⟩
  · rintro i turn σ S' Q1 hi ⟨y, a1, a2, a3, a4, a5, rfl, rfl, py⟩ hQ1
    have pl : ∀ (y : D), PoolD y → Pool (S.set k y) k := fun y h => ⟨y, get_set y hx0, h⟩
    simp only [asg_nm, Option.bind_some, List.set]
    refine exs_k (fun σ S' => ∃ y wide, PoolD y ∧ 1 ≤ wide ∧ wide ≤ 4000 ∧ σ = [some (.l k), some (.d (.int turn)), some (.d (.int wide)), a3, a4, a5] ∧ S' = S.set k y) (fun Q hQ => ?_) ?_
    · simp [Option.bind_assoc]
      refine (of_ok (pl y py) (xs := [.int 3, .int 6, .int 4000]) (by simp) (by simp)).k (by omega) ?_
      rintro r S1 ⟨w0, rfl, hw0, y1, py1, rfl⟩
      obtain ⟨v, rfl, hv⟩ : ∃ v : Int, w0 = .int v ∧ 1 ≤ v ∧ v ≤ 4000 := by
        simp only [List.mem_cons, List.not_mem_nil, or_false] at hw0
        rcases hw0 with rfl | rfl | rfl <;> exact ⟨_, rfl, by omega, by omega⟩
      simp
      exact Ok.some (hQ _ _ ⟨y1, v, py1, hv.1, hv.2, rfl, by simp⟩)
    rintro σ S' ⟨y, wide, py, w1, w2, rfl, rfl⟩
    refine exs_k (fun σ S' => ∃ y p q, PoolD y ∧ (0 ≤ p.1 ∧ p.1 < p.2 ∧ p.2 ≤ 8000) ∧ (0 ≤ q.1 ∧ q.1 < q.2 ∧ q.2 ≤ 8000) ∧ σ = [some (.l k), some (.d (.int turn)), some (.d (.int wide)), some (.d (pD p)), some (.d (pD q)), a5] ∧ S' = S.set k y) (fun Q hQ => ?_) ?_
    · simp [Option.bind_assoc]
      refine (long_ok (pl y py) w1 w2).k (by omega) ?_
      rintro r S1 ⟨p, rfl, hp, y1, py1, rfl⟩
      simp [Option.bind_assoc]
      refine (long_ok (pl y1 py1) w1 w2).k (by omega) ?_
      rintro r S1 ⟨q, rfl, hq, y2, py2, rfl⟩
      simp
      exact Ok.some (hQ _ _ ⟨y2, p, q, py2, hp, hq, rfl, by simp⟩)
    rintro σ S' ⟨y, p, q, py, hp, hq, rfl, rfl⟩
    have lp : Lg p := ⟨hp.1, hp.2.1, by omega⟩
    have lq : Lg q := ⟨hq.1, hq.2.1, by omega⟩
    obtain ⟨w, hw⟩ := isw_ex (p := p) (q := q) hp.2.1 hq.2.1
    have e1 := word_of_ok lp lq hw n (by omega)
    have e2 := word_of_ok lq lp hw.swap n (by omega)
    have e3 := back_word_ok w n (by omega)
    have e4 := law_word_ok hw n (by omega)
    have e5 := law_word_ok hw.swap n (by omega)
    have e6 := law_back_ok w n (by omega)
    have e7 := same_wl [w, w.back, w.back] (by simp) (.inl rfl) (.inl rfl) n (by omega)
    simp only [List.map_cons, List.map_nil] at e7
    simp [e1, e2, e3, e4, e5, e6, e7]
    exact Ok.some (hQ1 _ _ ⟨y, _, _, _, _, _, rfl, rfl, py⟩)
  · rintro σ' S' ⟨y, a1, a2, a3, a4, a5, rfl, rfl, py⟩
    simp
    exact Ok.some (hQ _ _ ⟨rfl, y, py, rfl⟩)

theorem is_told_f {S : Store} {x : D} (hx : PoolD x) {p q : Int × Int} (hp : Lg p) (hq : Lg q) :
    Pf FNS wf 8 i__law_is_told [.f x, .d (pD p), .d (pD q)] (.d (.bool true)) := by
  refine Pf.of at__law_is_told rfl rfl fun n hn S => Ok.eq ?_
  obtain ⟨w, hw⟩ := isw_ex (p := p) (q := q) hp.2.1 hq.2.1
  have e1 := law_marks_ok hw n (by omega)
  have e2 := law_word_ok hw n (by omega)
  have e3 := ne_wl [w] [w]
  have e4 := same_w w n (by omega)
  have e5 := word_of_ok hp hq hw n (by omega)
  have hk : Pool (S ++ [x]) S.length := ⟨x, by simp, hx⟩
  simp only [List.map_cons, List.map_nil, decide_true, Bool.not_true] at e3
  simp [F__law_is_told, e1, e2, e3, Option.bind_assoc]
  refine Ok.bind (take_ok (S ++ [x]) S.length 2 hk (by omega) (by omega) n (by omega)) ?_
  rintro ⟨r, S'⟩ ⟨v, rfl, v0, v1, y, hy, rfl⟩
  by_cases c : v = 0 <;> simp [c, e4, e5] <;> exact Ok.some rfl
def PP (x : (Int × Int) × (Int × Int)) : D := .tuple [pD x.1, pD x.2]
theorem long_stays_ok (S : Store) : Wf FNS wf 1 i__law_long_stays [.d (.int 5)] S fun r S' => S' = S ∧ ∃ l : List (Int × Int), r = .d (.list (l.map pD)) ∧ l.length ≤ 25 ∧ ∀ p ∈ l, Lg p := by
  refine Wf.ofk at__law_long_stays rfl rfl fun n Q hn hQ => ?_
  have hL : LIM = 16777216 := rfl
  simp [F__law_long_stays, ex_for, rngD_L, inR_r (show -(2 ^ 62) < (5 : Int) ∧ (5 : Int) < 2 ^ 62 by omega), Option.bind_assoc]
  refine lpS_k (fun i σ S' => ∃ (l : List (Int × Int)) (a b : Option R), σ = [some (.d (.int 5)), some (.d (.list (l.map pD))), a, b] ∧ S' = S ∧ l.length ≤ i * 5 ∧ ∀ p ∈ l, Lg p) ?_ ?_ ?_
  · exact ⟨[], _, _, rfl, rfl, by simp, by simp⟩
  · rintro i x σ S' Q1 hi ⟨l, a, b, rfl, rfl, hl, hg⟩ hQ1
    have hx := rngL_at hi
    have hr : inR (x + 1) = true := inR_r (by omega)
    have hr5 : inR (5 : Int) = true := inR_r (by omega)
    simp [ev_comp, hr, hr5, rngD_L]
    rw [lpC_ofm (e := PyData.int) (e' := pD) (g := fun y => (x, y)) (fun y _ => by simp [pD])]
    have h1 : (rngL (x + 1) 5).length ≤ 5 := by rw [rngL_length]; omega
    have h2 : (rngL (x + 1) 5).length ≤ LIM := by omega
    have h3 : l.length + (rngL (x + 1) 5).length ≤ LIM := by omega
    simp only [List.length_map, h2, h3, if_true, Option.bind_some, op_catL, rdn_d, rdn_f, setv_ff, List.set, exs_nil, ← List.map_append]
    refine Ok.some (hQ1 _ _ ⟨_, _, _, rfl, rfl, by rw [List.length_append, List.length_map]; omega, fun p hp => ?_⟩)
    rcases List.mem_append.mp hp with hp | hp
    · exact hg p hp
    · obtain ⟨y, hy, rfl⟩ := List.mem_map.mp hp
      have := rngL_mem.mp hy
      exact ⟨by show 0 ≤ x; omega, by show x < y; omega, by show y ≤ 9999; omega⟩
  · rintro σ' S' ⟨l, a, b, rfl, rfl, hl, hg⟩
    simp at hl
    simp
    exact Ok.some (hQ _ _ ⟨rfl, l, rfl, hl, hg⟩)
theorem pairs_ok (S : Store) {l : List (Int × Int)} (hl : l.length ≤ 25) (hg : ∀ p ∈ l, Lg p) : Wf FNS wf 1 i__law_pairs [.d (.list (l.map pD))] S fun r S' => S' = S ∧ ∃ m : List ((Int × Int) × (Int × Int)), r = .d (.list (m.map PP)) ∧ m.length ≤ 625 ∧ ∀ p ∈ m, Lg p.1 ∧ Lg p.2 := by
  refine Wf.ofk at__law_pairs rfl rfl fun n Q hn hQ => ?_
  have hL : LIM = 16777216 := rfl
  simp [F__law_pairs, ex_for, Option.bind_assoc]
  refine lpS_k (fun i σ S' => ∃ (m : List ((Int × Int) × (Int × Int))) (a b : Option R), σ = [some (.d (.list (l.map pD))), some (.d (.list (m.map PP))), a, b] ∧ S' = S ∧ m.length ≤ i * 25 ∧ ∀ p ∈ m, Lg p.1 ∧ Lg p.2) ?_ ?_ ?_
  · exact ⟨[], _, _, rfl, rfl, by simp, by simp⟩
  · rintro i x σ S' Q1 hi ⟨m, a, b, rfl, rfl, hm, hg2⟩ hQ1
    have hx := List.mem_of_getElem? hi
    have hi2 := (List.getElem?_eq_some_iff.mp hi).1
    simp [ev_comp]
    rw [lpC_ofm (e := pD) (e' := PP) (g := fun y => (x, y)) (fun y _ => by simp [PP])]
    have h1 : l.length ≤ LIM := by omega
    have h3 : m.length + l.length ≤ LIM := by
      have : i * 25 ≤ 25 * 25 := Nat.mul_le_mul_right _ (by omega)
      omega
    simp only [List.length_map, h1, h3, if_true, Option.bind_some, op_catL, rdn_d, rdn_f, setv_ff, List.set, exs_nil, ← List.map_append]
    refine Ok.some (hQ1 _ _ ⟨_, _, _, rfl, rfl, by rw [List.length_append, List.length_map, Nat.succ_mul]; omega, fun p hp => ?_⟩)
    rcases List.mem_append.mp hp with hp | hp
    · exact hg2 p hp
    · obtain ⟨y, hy, rfl⟩ := List.mem_map.mp hp
      exact ⟨hg x hx, hg y hy⟩
  · rintro σ' S' ⟨m, a, b, rfl, rfl, hm, hg2⟩
    simp
    have : l.length * 25 ≤ 25 * 25 := Nat.mul_le_mul_right _ hl
    exact Ok.some (hQ _ _ ⟨rfl, m, rfl, by omega, hg2⟩)
theorem of_words : ∀ m : List Str, (∀ x ∈ m, ∃ w : Wd, x = w.s) → ∃ l : List Wd, m = l.map Wd.s
  | [], _ => ⟨[], rfl⟩
  | x :: m, h => by
    obtain ⟨w, rfl⟩ := h x (List.mem_cons_self ..)
    obtain ⟨l, rfl⟩ := of_words m fun y hy => h y (List.mem_cons_of_mem _ hy)
    exact ⟨w :: l, rfl⟩
theorem map_wD (l : List Wd) : l.map wD = (l.map Wd.s).map .str := by rw [List.map_map]; rfl
theorem sort_backs : ∃ l : List Wd, sortG (wdsL.map wD) = l.map wD ∧ sortG ((wdsL.map Wd.back).map wD) = l.map wD := by
  have hp : ((wdsL.map Wd.back).map Wd.s).Perm (wdsL.map Wd.s) := (show (wdsL.map Wd.back).Perm wdsL by decide).map _
  have e := sort_perm hp
  rw [← map_wD, ← map_wD] at e
  obtain ⟨l, hl⟩ := of_words ((wdsL.map Wd.s).mergeSort fun a b => decide (a.cps.toList ≤ b.cps.toList)) fun x hx => by
    obtain ⟨w, _, rfl⟩ := List.mem_map.mp ((List.mergeSort_perm _ _).mem_iff.mp hx)
    exact ⟨w, rfl⟩
  have e2 : sortG (wdsL.map wD) = l.map wD := by rw [map_wD, sort_strs, hl, map_wD]
  exact ⟨l, e2, e.trans e2⟩
theorem law_ok70 (ns : List Int) (hn : ns.length ≤ 63) (S : Store) : Wf FNS wf 10 i_law [.s ns] S fun r S' => r = .d (.bool true) := by
  refine Wf.ofk at_law rfl rfl fun n Q hn' hQ => ?_
  have hL : LIM = 16777216 := rfl
  have e1 := law_all_words_ok n (by omega)
  have e2 := fun w => back_told_ok w n (by omega)
  have e3 := fun w => back_word_ok w n (by omega)
  obtain ⟨sl, hs1, hs2⟩ := sort_backs
  have b1 := sort_w wdsL (by decide)
  have b2 := sort_w (wdsL.map Wd.back) (by decide)
  have b3 := ne_wl sl sl
  rw [hs1] at b1
  rw [hs2] at b2
  simp only [decide_true, Bool.not_true] at b3
  have hl13 : wdsL.length ≤ LIM := by decide
  have bo : boolsOf (wdsL.map fun _ => PyData.bool true) = some (wdsL.map fun _ => true) := boolsOf_map (fun _ => true) wdsL
  have wk : ∀ S, ∃ x1, PoolD x1 ∧ Ip.run FNS wf n i__law_well [.s ns, .d (.int 0)] S = some (.f x1, S) := fun S => by
    obtain ⟨⟨r1, S4⟩, h4, h5, x1, px1, h6⟩ := well_ok ns 0 hn (by omega) S n (by omega)
    simp only at h5 h6
    subst h5; subst h6
    exact ⟨x1, px1, h4⟩
  simp [F_law, -exs_cons]
  refine exs_kb (fun σ S' => σ = [some (.s ns), some (.d (.list (wdsL.map wD))), none, none, none, none, none] ∧ S' = S) (fun Q hQ => ?_) ?_
  · simp [e1]
    exact Ok.some (hQ _ _ ⟨rfl, rfl⟩)
  rintro σ S ⟨rfl, rfl⟩
  generalize hW : wdsL = W0 at *
  refine exs_kb (fun σ S' => σ = [some (.s ns), some (.d (.list (W0.map wD))), none, none, none, none, none] ∧ S' = S) (fun Q hQ => ?_) ?_
  · simp [ev_comp, -List.map_map]
    rw [lpC_ofm (e := wD) (e' := PyData.bool) (g := fun _ => true) (fun w _ => by simp [e2])]
    simp [hl13, -List.map_map]
    rw [lpC_ofm (e := wD) (e' := wD) (g := Wd.back) (fun w _ => by simp [e3])]
    simp [hl13, b1, b2, b3, -List.map_map]
    exact Ok.some (hQ _ _ ⟨rfl, rfl⟩)
  rintro σ S ⟨rfl, rfl⟩
  rw [exs_cons, ex_for]
  simp [Option.bind_assoc, rngD_L, -List.map_map, -exs_cons]
  generalize ht : (if (if 3 < (ns.length : Int) then 3 else (ns.length : Int)) > 2 then (if 3 < (ns.length : Int) then 3 else (ns.length : Int)) else 2) = top
  have t1 : 2 ≤ top ∧ top ≤ 3 := by rw [← ht]; split <;> split <;> omega
  have t2 : inR top = true := inR_r (by omega)
  simp [t2, Option.bind_assoc, -List.map_map, -exs_cons]
  refine lpS_k (fun i σ S' => ∃ (a o : Option R), σ = [some (.s ns), some (.d (.list (W0.map wD))), none, a, o, none, none] ∧ ((o = none ∧ S' = S) ∨ (o = some (.l S.length) ∧ ∃ y, PoolD y ∧ S' = S ++ [y]))) ?_ ?_ ?_
  · exact ⟨_, _, rfl, .inl ⟨rfl, rfl⟩⟩
  · rintro i lap σ S' Q1 hi ⟨a, o, rfl, hS⟩ hQ1
    have hlap := rngL_at hi
    obtain ⟨k, rfl⟩ : ∃ k : Nat, lap = k := ⟨lap.toNat, by omega⟩
    simp only [asg_nm, Option.bind_some, List.set]
    refine exs_k (fun σ S' => ∃ y, PoolD y ∧ σ = [some (.s ns), some (.d (.list (W0.map wD))), none, some (.d (.int k)), some (.l S.length), none, none] ∧ S' = S ++ [y]) (fun Q hQ => ?_) ?_
    · simp [Option.bind_assoc]
      refine (well_ok ns k hn (by omega) _).k (by omega) ?_
      rintro r S1 ⟨rfl, x, px, rfl⟩
      rcases hS with ⟨rfl, rfl⟩ | ⟨rfl, y, py, rfl⟩
      · simp
        exact Ok.some (hQ _ _ ⟨x, px, rfl, rfl⟩)
      · simp [setv]
        exact Ok.some (hQ _ _ ⟨x, px, rfl, rfl⟩)
    rintro σ S' ⟨y, py, rfl, rfl⟩
    have pl : ∀ (y : D), PoolD y → Pool (S ++ [y]) S.length := fun y h => ⟨y, by simp, h⟩
    simp [Option.bind_assoc]
    refine (right_ok (pl y py)).k (by omega) ?_
    rintro r S1 ⟨rfl, y1, py1, rfl⟩
    simp [Option.bind_assoc]
    refine (backs_ok (pl y1 py1)).k (by omega) ?_
    rintro r S1 ⟨rfl, y2, py2, rfl⟩
    simp
    exact Ok.some (hQ1 _ _ ⟨_, _, rfl, .inr ⟨rfl, y2, py2, rfl⟩⟩)
  · rintro σ' S' ⟨a, o, rfl, hS⟩
    simp [ev_comp, Option.bind_assoc]
    refine (long_stays_ok S').k (by omega) ?_
    rintro r S1 ⟨rfl, l, rfl, hl, hg⟩
    simp [Option.bind_assoc]
    refine (pairs_ok S1 hl hg).k (by omega) ?_
    rintro r S2 ⟨rfl, m, rfl, hm, hg2⟩
    have hm2 : m.length ≤ LIM := by omega
    have bo : boolsOf (m.map fun _ => PyData.bool true) = some (m.map fun _ => true) := boolsOf_map (fun _ => true) m
    simp
    rw [lpC_ofm (e := PP) (e' := PyData.bool) (g := fun _ => true) (fun x hx => by
      obtain ⟨x1, px1, h4⟩ := wk S2
      have h5 := is_told_f (S := S) px1 (hg2 x hx).1 (hg2 x hx).2 n (by omega)
      simp [PP, h4, h5])]
    have bo2 : bltD .all [.list (m.map (PyData.bool ∘ fun _ => true))] = some (.d (.bool true)) := by
      rw [show m.map (PyData.bool ∘ fun _ => true) = m.map fun _ => PyData.bool true from rfl, blt_all_of bo]
      simp
    simp [hm2, bo2]
    exact Ok.some (hQ _ _ rfl)
theorem pure_fns (ns : List Int) (hn : ns.length ≤ 63) : ∃ S', Ip.run FNS wf lv i_law [.s ns] [] = some (.d (.bool true), S') := by
  obtain ⟨⟨r, S'⟩, e, q⟩ := law_ok70 ns hn [] lv (by decide)
  have q : r = .d (.bool true) := q
  subst q
  exact ⟨S', e⟩

end Lw
namespace Lw
open PySem PySem.Spec PyProof.Rows L2
def top (i : Nat) : Stmt := PySem.Challenge.pw_stayrows_k70_whole_words_of_stays.main.body.getD i (.Pass ⟨0, 0, 0, 0⟩)
def mk (a n : Str) (i : Nat) : He.DefD := ⟨(a, none), n, n, defArgs (top i), defBody (top i), defScope (top i), [], []⟩
def ds : List Ip.Df := [⟨"is_whole", mk "is_whole" "is_whole" 5, ["value"], ["value"], [false], []⟩,
  ⟨"is_between", mk "is_between" "is_between" 6, ["value", "low", "high"], ["value", "low", "high"], [false, false, false], []⟩,
  ⟨"is_tuple_of", mk "is_tuple_of" "is_tuple_of" 7, ["value", "many"], ["value", "many"], [false, false], []⟩,
  ⟨"are_between", mk "are_between" "are_between" 8, ["value", "many", "low", "high"], ["value", "many", "low", "high", "each"], [false, false, false, false], []⟩,
  ⟨"is_stay", mk "is_stay" "is_stay" 13, ["value"], ["value"], [false], []⟩,
  ⟨"is_long_stay", mk "is_long_stay" "is_long_stay" 24, ["value"], ["value"], [false], []⟩,
  ⟨"all_words", mk "all_words" "all_words" 25, [], ["word"], [], []⟩,
  ⟨"is_word", mk "is_word" "is_word" 26, ["value"], ["value"], [false], []⟩,
  ⟨"word_apart", mk "word_apart" "word_apart" 27, ["stay", "other"], ["stay", "other"], [false, false], []⟩,
  ⟨"word_inside", mk "word_inside" "word_inside" 28, ["stay", "other"], ["stay", "other"], [false, false], []⟩,
  ⟨"forward_word", mk "forward_word" "forward_word" 29, ["stay", "other"], ["stay", "other"], [false, false], []⟩,
  ⟨"word_by", mk "word_by" "word_by" 30, ["stay", "other"], ["stay", "other", "found"], [false, false], []⟩,
  ⟨"back_word_by", mk "back_word_by" "back_word_by" 31, ["word"], ["word"], [false], []⟩,
  ⟨"check_long_stay", mk "check_long_stay" "check_long_stay" 33, ["value"], ["value"], [false], []⟩,
  ⟨"check_word", mk "check_word" "check_word" 34, ["value"], ["value"], [false], []⟩,
  ⟨"word_of", mk "word_of" "word_of" 35, ["stay", "second_stay"], ["stay", "second_stay"], [false, false], []⟩,
  ⟨"back_word", mk "back_word" "back_word" 36, ["word"], ["word"], [false], []⟩,
  ⟨"_law_well", mk "_law_well" "_law_well" 38, ["script", "lap"], ["script", "lap", "own", "stir", "each"], [false, false], []⟩,
  ⟨"_law_take", mk "_law_take" "_law_take" 39, ["well", "many"], ["well", "many", "digit"], [true, false], [0]⟩,
  ⟨"_law_of", mk "_law_of" "_law_of" 40, ["well", "things"], ["well", "things"], [true, false], [0]⟩,
  ⟨"_law_same", mk "_law_same" "_law_same" 41, ["told", "due"], ["told", "due", "at"], [false, false], []⟩,
  ⟨"_law_word", mk "_law_word" "_law_word" 42, ["one", "two"], ["one", "two", "b", "e", "c", "d"], [false, false], []⟩,
  ⟨"_law_all_words", mk "_law_all_words" "_law_all_words" 43, [], ["some", "word"], [], []⟩,
  ⟨"_law_back", mk "_law_back" "_law_back" 44, ["word"], ["word"], [false], []⟩,
  ⟨"_law_long_stays", mk "_law_long_stays" "_law_long_stays" 45, ["wide"], ["wide", "found", "begin", "end"], [false], []⟩,
  ⟨"_law_pairs", mk "_law_pairs" "_law_pairs" 46, ["stays"], ["stays", "found", "one", "two"], [false], []⟩,
  ⟨"_law_long", mk "_law_long" "_law_long" 47, ["well", "wide"], ["well", "wide", "one"], [true, false], [0]⟩,
  ⟨"_law_marks", mk "_law_marks" "_law_marks" 48, ["one", "two"], ["one", "two", "b", "e", "c", "d", "rows", "word", "is_so"], [false, false], []⟩,
  ⟨"_law_is_told", mk "_law_is_told" "_law_is_told" 49, ["well", "one", "two"], ["well", "one", "two", "due", "told"], [true, false, false], [0]⟩,
  ⟨"_law_turned", mk "_law_turned" "_law_turned" 50, ["stay"], ["stay"], [false], []⟩,
  ⟨"_law_in_time", mk "_law_in_time" "_law_in_time" 51, ["word"], ["word", "told"], [false], [1]⟩,
  ⟨"_law_right", mk "_law_right" "_law_right" 52, ["well"], ["well", "turn", "wide", "one", "two", "word", "step", "moved"], [true], [0]⟩,
  ⟨"_law_back_told", mk "_law_back_told" "_law_back_told" 53, ["word"], ["word", "told"], [false], []⟩,
  ⟨"_law_backs_right", mk "_law_backs_right" "_law_backs_right" 54, ["well"], ["well", "turn", "wide", "one", "two", "word"], [true], [0]⟩,
  ⟨"law", mk "law" "law" 55, ["script"], ["script", "words", "word", "lap", "well", "one", "two"], [false], [4]⟩]
def cs : List (Str × PyData) := [("MOST_MOMENT", .int 9999), ("BEGIN", .int 0), ("END", .int 1), ("BEFORE", .str "before"), ("TOUCHES", .str "touches"), ("OVERLAPS", .str "overlaps"), ("STARTS", .str "starts"), ("DURING", .str "during"), ("ENDS", .str "ends"), ("EQUAL", .str "equal"), ("BACK", .str "back "), ("FORWARD_WORDS", .tuple [.str "before", .str "touches", .str "overlaps", .str "starts", .str "during", .str "ends"])]
def fr : List Str := ["abs", "all", "bool", "dict", "divmod", "int", "isinstance", "len", "list", "max", "min", "range", "sorted", "str", "tuple"]
abbrev R : PySem.W.OpenRow := PySem.W.OpenLaw.row PySem.Challenge.rw_stayrows_k70_whole_words_of_stays
def fn : List He.DefD := ds.map (·.d)
def fas : List He.Fa := Ip.faOf ds cs fr
abbrev hk : PySem.W.Hook := Ip.hookI 4 fas fn cs
def ob (s : PySem.W.SharedT) : He.AlD × Bool := Ip.obI 4 fas fn cs (HandSHeadRun.getT s)
theorem ob_eq (s : PySem.W.SharedT) : ob s = hk.obs s.abs := Ip.obI_eq (HandSHeadRun.getT_eq s)
def loose : List Str := (["is_whole", "is_between", "is_tuple_of", "are_between", "is_stay", "is_long_stay", "all_words", "is_word", "word_apart", "word_inside", "forward_word", "word_by", "back_word_by", "check_long_stay", "check_word", "word_of", "back_word", "_law_well", "_law_take", "_law_of", "_law_same", "_law_word", "_law_all_words", "_law_back", "_law_long_stays", "_law_pairs", "_law_long", "_law_marks", "_law_is_told", "_law_turned"] : List Str) ++ (["_law_in_time", "_law_right", "_law_back_told", "_law_backs_right", "StayError", "InvalidStay", "InvalidWord", "MOST_MOMENT", "BEGIN", "END", "BEFORE", "TOUCHES", "OVERLAPS", "STARTS", "DURING", "ENDS", "EQUAL", "BACK", "FORWARD_WORDS"] : List Str)
theorem runs (w : World) : HandSHeadRun.RunEq R (PySem.W.view R.prog [55]) hk ob 4000 loose w := by
  intro os
  kernel_rfl
theorem oks : ds.all (fun D => D.ok && D.at) = true := by decide +kernel
theorem okc : cs.all (fun c => Ip.csOk c.2) = true := by decide +kernel
theorem fns_eq : Ip.fnsOf ds cs fr 60 60 = FNS := by kernel_rfl
theorem pure_law (ns : List Int) (hn : ns.length ≤ 63) : ∃ S', Ip.run (Ip.fnsOf ds cs fr 60 60) wf lv 34 [.s ns] [] = some (.d (.bool true), S') := by
  rw [fns_eq]
  exact pure_fns ns hn
end Lw
open PySem PySem.W PySem.Calls PyProof.Rows
set_option maxRecDepth 100000 in
set_option maxHeartbeats 0 in
theorem PySem.Challenge.cw_stayrows_k70_whole_words_of_stays_holds : PySem.Challenge.rw_stayrows_k70_whole_words_of_stays.Holds := by
  w_on; o_law
  refine HandSHeadRun.head_any (r := OpenLaw.row PySem.Challenge.rw_stayrows_k70_whole_words_of_stays) (q := view (OpenLaw.row PySem.Challenge.rw_stayrows_k70_whole_words_of_stays).prog [55]) (H := Lw.hk) (ob := Lw.ob) (M := 4000) (loose := Lw.loose) (d := HandSHeadRun.topDef (OpenLaw.row PySem.Challenge.rw_stayrows_k70_whole_words_of_stays).prog 55) (kwd := []) Lw.ob_eq
    (by kernel_rfl) (fun s => by kernel_rfl) Lw.runs (by kernel_rfl) (by kernel_rfl) (by kernel_rfl) (by rfl) (by first | assumption | decide +kernel) (by decide +kernel) ⟨rfl, rfl, rfl, rfl, rfl, by decide +kernel⟩ ?hw ?hc
  case hw => w_witness2
  case hc =>
    refine L2.walk_ofE (l := PySem.Challenge.rw_stayrows_k70_whole_words_of_stays) (n := 63) (k := Lw.lv) (x := "script") (CX := L2.CX0) rfl (by decide) (by kernel_rfl) ⟨rfl, by decide, by decide⟩ ?F (fun _ _ _ _ z => z)
    intro w mg fa h Y G hmg0
    obtain ⟨K, KX, c, ct⟩ := Y
    have hmg : mg ("law" : PySem.Str) = some (.ref fa) := by
      have e : (HandSHeadRun.topDef (OpenLaw.row PySem.Challenge.rw_stayrows_k70_whole_words_of_stays).prog 55).name = ("law" : PySem.Str) := by kernel_rfl
      rw [← e]
      exact hmg0
    obtain ⟨fd, sp, hb, hs, hF⟩ := Ip.law_facts (P := (PySem.Challenge.rw_stayrows_k70_whole_words_of_stays).prog) (w := w) (lv := Lw.lv) (iL := 34) (DL := Lw.ds[34]) Lw.oks Lw.okc rfl rfl rfl Lw.pure_law KX G hmg c ct
    exact ⟨K, fd, sp, KX, hb, hs, hF⟩
