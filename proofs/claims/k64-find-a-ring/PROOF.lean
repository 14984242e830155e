import PyProof.Rows.All
import KE.LtData
import PyProof.P3Statements
import PyProof.EqLayable
import PySem.Syntax
import PySem.Eval
import HandS.ForMost
import HandS.Deep
import HandS.Wide
import HandS.TupMul
import HandS.TupAny
import HandS.Flow
import HandS.Conv
import HandS.IsInst
import HandS.Zip
import HandS.More
import KE.KDictKeyed
import KE.KDictCopyH
import KE.KDictWalk
import KE.KDictPairs
import KE.KDictDisplayH
import KE.DataCmp
import KE.SortCalls
import KE.DataMinMax
import HandS.TupLen
import KE.KTupSum
import HandS.SetFor
import KE.SortData
import HandS.SortInts
import HandS.Style
import HandS.Defaults
import HandS.HeadEnd
import HandS.HeadHook2
import HandS.HeadHook4
import HandS.Head0
import HandS.Head1
import HandS.Head2
import HandS.HeadHook1
import PySem.Challenge.RW_neveratrest_k64_whole_ways_to_find_a_rin
set_option Elab.async false
section
set_option autoImplicit false
namespace Nv
open PySem

abbrev D := PyData

/-- what a name holds: nothing; a value that nobody changes; an own list or dict; one that is walked just now -/
inductive Slot where
  | un | im (d : D) | ow (d : D) | lk (d : D)
abbrev Sg := List Slot
/-- what an expression gives: a value that nobody changes; a new list or dict that nobody else has; what a slot holds -/
inductive R where
  | im (d : D) | tm (d : D) | sl (i : Nat)

def Slot.val : Slot → Option D
  | .un => none | .im d => some d | .ow d => some d | .lk d => some d
def sget (st : Sg) (i : Nat) : Slot := st.getD i .un
def dr (st : Sg) : R → Option D
  | .im d => some d | .tm d => some d | .sl i => (sget st i).val
def fz (st : Sg) : R → Option (D × Sg)
  | .im d => some (d, st)
  | .tm d => some (d, st)
  | .sl i => match sget st i with
    | .un => none
    | .im d => some (d, st)
    | .ow d => some (d, st.set i (.im d))
    | .lk d => some (d, st.set i (.im d))

inductive Bop where | add | sub | mul | fdiv | mod | pow | shl
inductive Cop where | eq | ne | lt | le | gt | ge | inn | nin | is | isnt
inductive Ty where | tuple | list | dict | int | bool | str
inductive Blt where
  | len | tuple | list | int | abs | sum | max | min | max2 | min2 | max3 | min3 | all | any | sorted | sset | lset | dict
  | rlist1 | rlist2 | rtup1 | rtup2 | str
inductive Mth where | get1 | get2 | index
inductive Mut where | append | extend | pop0 | pop1 | remove
inductive T where | nm (i : Nat) | pr (is : List Nat)

mutual
/-- expressions -/
inductive E where
  | var (i : Nat)
  | cst (d : D)
  | bin (o : Bop) (a b : E)
  | neg (a : E)
  | cmp (o : Cop) (a b : E)
  | chn (o1 o2 : Cop) (a b c : E)
  | and2 (a b : E) | or2 (a b : E) | not1 (a : E)
  | ife (c : B) (a b : E)
  | tup (es : L) | lst (es : L) | dct (kvs : L)
  | idx (a i : E)
  | slc (a : E) (lo hi : O)
  | rev (a : E)
  | call (f : Nat) (args : A)
  | blt (b : Blt) (args : L)
  | isi (a : E) (t : Ty)
  | mth (m : Mth) (a : E) (args : L)
  | mut (m : Mut) (i : Nat) (args : L)
  | lc (elt : E) (t : T) (it : I) (c : B)
  | lc2 (elt : E) (t : T) (it : I) (c : B) (t2 : T) (it2 : I) (c2 : B)
/-- tests -/
inductive B where
  | yes | and2 (a b : B) | or2 (a b : B) | not1 (a : B) | of (e : E)
/-- what is walked -/
inductive I where
  | rng1 (a : E) | rng2 (a b : E) | rng3 (a b c : E) | zip (a b : E) | enum (a : E) | of (e : E)
/-- a slice's bound -/
inductive O where
  | no | so (e : E)
/-- several -/
inductive L where
  | nl | cs (h : E) (t : L)
/-- a call's arguments -/
inductive A where
  | nl | io (i : Nat) (t : A) | cs (h : E) (t : A)
end

inductive S where
  | pss
  | seq (a b : S)
  | asg (t : T) (e : E)
  | par (is : List Nat) (es : L)
  | sub (i : Nat) (k e : E)
  | aug (i : Nat) (o : Bop) (e : E)
  | augs (i : Nat) (k : E) (o : Bop) (e : E)
  | exp (e : E)
  | iff (c : B) (a b : S)
  | whl (c : B) (b : S)
  | for_ (t : T) (it : I) (b : S)
  | ret (e : E) | retN
  | brk

def b2i (b : Bool) : Int := if b then 1 else 0
def lim : Nat := 16777216
def intOf : D → Option Int
  | .int i => some i
  | .bool b => some (b2i b)
  | _ => none
def small64 (i : Int) : Bool := decide (i.natAbs < 18446744073709551616)
/-- a value and whether it is new and changeable -/
def binD : Bop → D → D → Option R
  | .add, .int i, .int j => some (.im (.int (i + j)))
  | .add, .bool i, .bool j => some (.im (.int (b2i i + b2i j)))
  | .add, .int i, .bool j => some (.im (.int (i + b2i j)))
  | .add, .tuple xs, .tuple ys => if xs.length + ys.length ≤ lim then some (.im (.tuple (xs ++ ys))) else none
  | .add, .list xs, .list ys => if xs.length + ys.length ≤ lim then some (.tm (.list (xs ++ ys))) else none
  | .add, .str x, .str y => if x.cps.size + y.cps.size ≤ lim then some (.im (.str ⟨x.cps ++ y.cps⟩)) else none
  | .sub, .int i, .int j => some (.im (.int (i - j)))
  | .mul, .int i, .int j => if small64 i || small64 j then some (.im (.int (i * j))) else none
  | .mul, .tuple xs, .int n => if -1000 ≤ n ∧ n ≤ 1000 ∧ xs.length ≤ 1000 then some (.im (.tuple (List.replicate n.toNat xs).flatten)) else none
  | .mul, .list xs, .int n => if -1000 ≤ n ∧ n ≤ 16777216 ∧ xs.length * n.toNat ≤ lim then some (.tm (.list (List.replicate n.toNat xs).flatten)) else none
  | .fdiv, .int i, .int j => if j ≠ 0 ∧ j.natAbs < 1073741824 then some (.im (.int (i.fdiv j))) else none
  | .mod, .int i, .int j => if j ≠ 0 then some (.im (.int (i.fmod j))) else none
  | .pow, .int i, .int j => if 0 ≤ j ∧ j ≤ 1000000 ∧ i.natAbs < 18446744073709551616 then some (.im (.int (i ^ j.toNat))) else none
  | .shl, .int i, .int j => if 0 ≤ j ∧ j ≤ 1000000 ∧ i.natAbs < 18446744073709551616 then some (.im (.int (i * 2 ^ j.toNat))) else none
  | _, _, _ => none
def eqD (a b : D) : Option Bool :=
  match a, b with
  | .int i, .int j => some (i == j)
  | .bool i, .bool j => some (i == j)
  | .list xs, .list [] => some xs.isEmpty
  | .list [], .list ys => some ys.isEmpty
  | .tuple xs, .tuple [] => some xs.isEmpty
  | .tuple [], .tuple ys => some ys.isEmpty
  | a, b => if SeqAt.shaped a && SeqAt.shaped b then some (PyData.eqv a b) else none
def ltD (a b : D) : Option Bool :=
  match a, b with
  | .int i, .int j => some (decide (i < j))
  | .none, _ => none
  | a, b => if W.alike a b && SeqAt.shaped a && SeqAt.shaped b then some (W.dataLt a b) else none
def dget (kvs : List (D × D)) (k : D) : Option D := (kvs.find? fun p => PyData.eqv p.1 k).map (·.2)
def dput : List (D × D) → D → D → List (D × D)
  | [], k, v => [(k, v)]
  | p :: r, k, v => if PyData.eqv p.1 k then (p.1, v) :: r else p :: dput r k v
def isTup : D → Bool
  | .tuple _ => true
  | _ => false
mutual
/-- a key's part, so deep -/
def keyOk : Nat → D → Bool
  | _, .none => true
  | _, .int _ => true
  | _, .str _ => true
  | n, .tuple xs => match n with
    | 0 => false
    | n + 1 => keyOkAll n xs
  | _, _ => false
def keyOkAll : Nat → List D → Bool
  | _, [] => true
  | n, x :: r => keyOk n x && keyOkAll n r
end
def isFlat : D → Bool
  | .int _ => true
  | .str _ => true
  | _ => false
/-- a key that this dict takes: all numbers and texts, or all tuples -/
def keyFits (kvs : List (D × D)) (k : D) : Bool :=
  (isFlat k || (isTup k && keyOk 8 k)) && match kvs with
    | [] => true
    | p :: _ => isTup p.1 == isTup k
def inD (x : D) : D → Option Bool
  | .list xs => if SeqAt.shaped x && SeqAt.shaped (.list xs) then some (xs.any fun z => PyData.eqv z x) else none
  | .tuple xs => if SeqAt.shaped x && SeqAt.shaped (.tuple xs) then some (xs.any fun z => PyData.eqv z x) else none
  | .dict kvs => if keyFits kvs x then some (dget kvs x).isSome else none
  | _ => none
def cmpD : Cop → D → D → Option Bool
  | .eq, a, b => eqD a b
  | .ne, a, b => (eqD a b).map not
  | .lt, a, b => ltD a b
  | .gt, a, b => ltD b a
  | .le, a, b => (ltD b a).map not
  | .ge, a, b => (ltD a b).map not
  | .inn, a, b => inD a b
  | .nin, a, b => (inD a b).map not
  | .is, a, .none => some (match a with | .none => true | _ => false)
  | .isnt, a, .none => some (match a with | .none => false | _ => true)
  | _, _, _ => none
def tru : D → Option Bool
  | .none => some false
  | .bool b => some b
  | .int i => some (i != 0)
  | .str x => if x.cps.size ≤ lim then some (x.cps.size != 0) else none
  | .list xs => some (!xs.isEmpty)
  | .tuple xs => some (!xs.isEmpty)
  | _ => none
/-- a place, from the end if below 0 -/
def place (n : Nat) (i : Int) : Option Nat :=
  if 0 ≤ i then (if i < n then some i.toNat else none) else (if 0 ≤ i + n then some (i + n).toNat else none)
def idxD : D → D → Option D
  | .list xs, .int i => (place xs.length i).bind fun k => xs[k]?
  | .tuple xs, .int i => (place xs.length i).bind fun k => xs[k]?
  | .dict kvs, k => if keyFits kvs k then dget kvs k else none
  | .str x, .int i => if x.cps.size ≤ lim then (place x.cps.size i).bind fun k => x.cps[k]?.map fun c => .str ⟨#[c]⟩ else none
  | _, _ => none
/-- a slice's bound -/
def bnd (n : Nat) (dflt : Nat) : Option D → Option Nat
  | none => some dflt
  | some (.int i) => some (if 0 ≤ i then min i.toNat n else (i + n).toNat)
  | some _ => none
def cut {α : Type} (xs : List α) (lo hi : Nat) : List α := (xs.drop lo).take (hi - lo)
def slcD (d : D) (lo hi : Option D) : Option R :=
  match d with
  | .list xs => (bnd xs.length 0 lo).bind fun a => (bnd xs.length xs.length hi).bind fun b => some (.tm (.list (cut xs a b)))
  | .tuple xs => (bnd xs.length 0 lo).bind fun a => (bnd xs.length xs.length hi).bind fun b => some (.im (.tuple (cut xs a b)))
  | _ => none
def revD : D → Option R
  | .list xs => some (.tm (.list xs.reverse))
  | .tuple xs => some (.im (.tuple xs.reverse))
  | _ => none
def intsOf : List D → Option (List Int)
  | [] => some []
  | .int i :: r => (intsOf r).map (i :: ·)
  | _ :: _ => none
def bools : List D → Option (List Bool)
  | [] => some []
  | .bool i :: r => (bools r).map (i :: ·)
  | _ :: _ => none
def tupOf : D → Option (List D)
  | .tuple xs => some xs
  | _ => none
def items : D → Option (List D)
  | .list xs => some xs
  | .tuple xs => some xs
  | _ => none
def allAlike (xs : List D) : Bool := xs.all fun x => xs.all fun y => W.alike x y
/-- all may be put in order -/
def sortable (xs : List D) : Bool :=
  xs.all (fun x => SeqAt.shaped x) && allAlike xs && ((xs.all fun x => match x with | .tuple (_ :: _) => true | _ => false) || (xs.all fun x => match x with | .none => false | .tuple _ => false | _ => true))
/-- a list in order, equal ones as they stood -/
def sortD (xs : List D) : List D := xs.mergeSort fun a b => !W.dataLt b a
def uniqD : List D → List D
  | [] => []
  | x :: r => if r.any (fun y => PyData.eqv x y) then uniqD r else x :: uniqD r
def minD : List D → Option D
  | [] => none
  | x :: r => some (r.foldl (fun m y => if W.dataLt y m then y else m) x)
def maxD : List D → Option D
  | [] => none
  | x :: r => some (r.foldl (fun m y => if W.dataLt m y then y else m) x)
def pairsOf : List D → Option (List (D × D))
  | [] => some []
  | .tuple [k, v] :: r => (pairsOf r).map ((k, v) :: ·)
  | _ :: _ => none
def putAll : List (D × D) → List (D × D) → Option (List (D × D))
  | acc, [] => some acc
  | acc, p :: r => if keyFits acc p.1 then putAll (dput acc p.1 p.2) r else none
def rngD (lo hi : Int) : List D := (List.range (hi - lo).toNat).map fun (k : Nat) => .int (lo + k)
def okR (i : Int) : Bool := decide (-4611686018427387904 ≤ i ∧ i < 4611686018427387904)
def rngL1 : List D → Option (List D)
  | [.int n] => if okR n ∧ n ≤ lim then some (rngD 0 n) else none
  | _ => none
def rngL2 : List D → Option (List D)
  | [.int m, .int n] => if okR m ∧ okR n ∧ n - m ≤ lim then some (rngD m n) else none
  | _ => none
def bltD : Blt → List D → Option R
  | .len, [.list xs] => some (.im (.int xs.length))
  | .len, [.tuple xs] => some (.im (.int xs.length))
  | .len, [.dict kvs] => some (.im (.int kvs.length))
  | .len, [.str x] => if x.cps.size ≤ lim then some (.im (.int x.cps.size)) else none
  | .tuple, [.list xs] => some (.im (.tuple xs))
  | .tuple, [.tuple xs] => some (.im (.tuple xs))
  | .list, [.list xs] => some (.tm (.list xs))
  | .list, [.tuple xs] => some (.tm (.list xs))
  | .int, [.int i] => some (.im (.int i))
  | .int, [.bool b] => some (.im (.int (b2i b)))
  | .abs, [.int i] => some (.im (.int (if i < 0 then -i else i)))
  | .sum, [d] => (items d).bind fun xs => (intsOf xs).map fun is => .im (.int is.sum)
  | .max, [d] => (items d).bind fun xs => if sortable xs then (maxD xs).map .im else none
  | .min, [d] => (items d).bind fun xs => if sortable xs then (minD xs).map .im else none
  | .max2, [.int i, .int j] => some (.im (.int (if j > i then j else i)))
  | .min2, [.int i, .int j] => some (.im (.int (if j < i then j else i)))
  | .all, [.list xs] => (bools xs).map fun bs => .im (.bool (bs.all id))
  | .any, [.list xs] => (bools xs).map fun bs => .im (.bool (bs.any id))
  | .sorted, [.list xs] => if sortable xs then some (.tm (.list (sortD xs))) else none
  | .rlist1, ds => (rngL1 ds).map fun xs => .tm (.list xs)
  | .rlist2, ds => (rngL2 ds).map fun xs => .tm (.list xs)
  | .rtup1, ds => (rngL1 ds).map fun xs => .im (.tuple xs)
  | .rtup2, ds => (rngL2 ds).map fun xs => .im (.tuple xs)
  | _, _ => none
def isTy : D → Ty → Bool
  | .tuple _, .tuple => true
  | .list _, .list => true
  | .dict _, .dict => true
  | .int _, .int => true
  | .bool _, .int => true
  | .bool _, .bool => true
  | .str _, .str => true
  | _, _ => false
def mthD : Mth → D → List D → Option R
  | .get1, .dict kvs, [k] => if keyFits kvs k then some (.im ((dget kvs k).getD .none)) else none
  | .get2, .dict kvs, [k, v] => if keyFits kvs k then some (.im ((dget kvs k).getD v)) else none
  | .index, .list xs, [x] => if SeqAt.shaped x && SeqAt.shaped (.list xs) then (xs.findIdx? fun z => PyData.eqv z x).map fun (k : Nat) => .im (.int k) else none
  | _, _, _ => none
/-- whose method it is -/
def mthK : Mth → D → Bool
  | .get1, .dict _ => true
  | .get2, .dict _ => true
  | .index, .list _ => true
  | _, _ => false
/-- what is changed, and what comes back -/
def mutD : Mut → D → List D → Option (D × D)
  | .append, .list xs, [x] => if xs.length < lim then some (.list (xs ++ [x]), .none) else none
  | .extend, .list xs, [.list ys] => if xs.length + ys.length ≤ lim then some (.list (xs ++ ys), .none) else none
  | .pop0, .list xs, [] => xs.getLast?.map fun x => (.list xs.dropLast, x)
  | .pop1, .list xs, [.int i] => (place xs.length i).bind fun k => xs[k]?.map fun x => (.list (xs.eraseIdx k), x)
  | _, _, _ => none
def subD : D → D → D → Option D
  | .dict kvs, k, v => if keyFits kvs k && decide (kvs.length < lim) then some (.dict (dput kvs k v)) else none
  | .list xs, .int i, v => (place xs.length i).map fun k => .list (xs.set k v)
  | _, _, _ => none

def bindT : T → D → Sg → Option Sg
  | .nm i, d, st => some (st.set i (.im d))
  | .pr is, d, st => (tupOf d).bind fun xs => if xs.length = is.length then some ((is.zip xs).foldl (fun st p => st.set p.1 (.im p.2)) st) else none
def T.own : T → List Nat
  | .nm i => [i]
  | .pr is => is
def wipes (st : Sg) (is : List Nat) : Sg := is.foldl (fun st i => st.set i .un) st
/-- the slots at is as they were in old -/
def back (old st : Sg) (is : List Nat) : Sg := is.foldl (fun st i => st.set i (sget old i)) st
def sto (st : Sg) (i : Nat) : R → Option Sg
  | .im d => some (st.set i (.im d))
  | .tm d => some (st.set i (.ow d))
  | .sl j => (fz st (.sl j)).map fun p => p.2.set i (.im p.1)
def lock (st : Sg) : R → Sg × Option Nat
  | .sl i => match sget st i with
    | .ow d => (st.set i (.lk d), some i)
    | _ => (st, none)
  | _ => (st, none)
def unlock (st : Sg) : Option Nat → Sg
  | none => st
  | some i => match sget st i with
    | .lk (.list xs) => st.set i (.ow (.list xs))
    | _ => st
/-- what a walk gives, in order -/
def walkD : D → Option (List D)
  | .list xs => some xs
  | .tuple xs => some xs
  | _ => none

abbrev Arg := Bool × D
/-- what a def does with arguments: what it hands back, what becomes of the arguments that it may change -/
abbrev Orc := Nat → List Arg → Option (R × List D)

def isInt : D → Bool
  | .int _ => true
  | _ => false
def boolOf : D → Option Bool
  | .bool b => some b
  | _ => none
/-- a value that a call hands back -/
def fresh : R → Option R
  | .im d => some (.im d)
  | .tm d => some (.tm d)
  | .sl _ => none
def ownOf : Slot → Option D
  | .ow d => some d
  | _ => none
def isLst (x : Slot) : Bool := match x.val with
  | some (.list _) => true
  | _ => false
def imOf : Slot → Option D
  | .im d => some d
  | _ => none
def holdR (st : Sg) : R → Option (R × Sg)
  | .im d => some (.im d, st)
  | .tm d => some (.tm d, st)
  | .sl i => (fz st (.sl i)).map fun p => (.im p.1, p.2)
/-- what may stand ahead of op= -/
def augD (o : Bop) (x y : D) : Option D :=
  match o, x, y with
  | .add, .int i, .int j => some (.int (i + j))
  | .sub, .int i, .int j => some (.int (i - j))
  | .mul, .int i, .int j => if small64 i || small64 j then some (.int (i * j)) else none
  | .fdiv, .int i, .int j => if j ≠ 0 ∧ j.natAbs < 1073741824 then some (.int (i.fdiv j)) else none
  | .mod, .int i, .int j => if j ≠ 0 then some (.int (i.fmod j)) else none
  | _, _, _ => none
def rngD3 (lo : Int) (n : Nat) (c : Int) : List D := (List.range n).map fun (k : Nat) => .int (lo + k * c)
def rngW : List D → Option (List D)
  | [.int n] => if okR n then some (rngD 0 n) else none
  | [.int m, .int n] => if okR m ∧ okR n then some (rngD m n) else none
  | [.int m, .int n, .int c] => if c ≠ 0 ∧ c.natAbs < 1073741824 ∧ Builtin.Range.small m n c = true then some (rngD3 m (Builtin.Range.rangeSize m n c).toNat c) else none
  | _ => none

section
variable (C : Orc)
def lcL (bnd : D → Sg → Option Sg) (cond : Sg → Option (Bool × Sg)) (elt : Sg → Option (D × Sg)) (vs : List Nat) : List D → Sg → List D → Option (List D × Sg)
  | [], st, acc => some (acc, st)
  | d :: r, st, acc => (bnd d (wipes st vs)).bind fun st1 => (cond st1).bind fun (b, st2) =>
    if b then (elt st2).bind fun (x, st3) => if acc.length < lim then lcL bnd cond elt vs r st3 (acc ++ [x]) else none
    else lcL bnd cond elt vs r st2 acc
/-- .. a clause within -/
def lcL2 (bnd : D → Sg → Option Sg) (cond : Sg → Option (Bool × Sg)) (inner : Sg → List D → Option (List D × Sg)) (vs : List Nat) : List D → Sg → List D → Option (List D × Sg)
  | [], st, acc => some (acc, st)
  | d :: r, st, acc => (bnd d (wipes st vs)).bind fun st1 => (cond st1).bind fun (b, st2) =>
    if b then (inner st2 acc).bind fun (acc', st3) => lcL2 bnd cond inner vs r st3 acc'
    else lcL2 bnd cond inner vs r st2 acc
def argsOf : List (Sum Nat D) → Sg → Option (List Arg)
  | [], _ => some []
  | .inl i :: r, st => match sget st i with
    | .ow d => (argsOf r st).map ((true, d) :: ·)
    | _ => none
  | .inr d :: r, st => (argsOf r st).map ((false, d) :: ·)
def outsTo : List (Sum Nat D) → List D → Sg → Option Sg
  | [], [], st => some st
  | .inl i :: r, d :: ds, st => outsTo r ds (st.set i (.ow d))
  | .inr _ :: r, ds, st => outsTo r ds st
  | _, _, _ => none
def ios : List (Sum Nat D) → List Nat
  | [] => []
  | .inl i :: r => i :: ios r
  | .inr _ :: r => ios r
def drs (st : Sg) : List R → Option (List D)
  | [] => some []
  | r :: rs => (dr st r).bind fun d => (drs st rs).map (d :: ·)
def nodupN : List Nat → Bool
  | [] => true
  | x :: r => !r.contains x && nodupN r
def pairUp : List D → Option (List (D × D))
  | [] => some []
  | k :: v :: r => (pairUp r).map ((k, v) :: ·)
  | _ => none
def notR (b : Bool) : R := .im (.bool b)
mutual
def ev : E → Sg → Option (R × Sg)
  | .var i, st => match sget st i with
    | .un => none
    | .im d => some (.im d, st)
    | .ow _ => some (.sl i, st)
    | .lk _ => some (.sl i, st)
  | .cst d, st => some (.im d, st)
  | .bin o a b, st => (ev a st).bind fun p => (ev b p.2).bind fun q => (dr q.2 p.1).bind fun x => (dr q.2 q.1).bind fun y => (binD o x y).map fun r => (r, q.2)
  | .neg a, st => (ev a st).bind fun p => (dr p.2 p.1).bind fun x => (intOf x).bind fun i => if isInt x then some (.im (.int (-i)), p.2) else none
  | .cmp o a b, st => (ev a st).bind fun p => (ev b p.2).bind fun q => (dr q.2 p.1).bind fun x => (dr q.2 q.1).bind fun y => (cmpD o x y).map fun r => (notR r, q.2)
  | .chn o1 o2 a b c, st => (ev a st).bind fun p => (ev b p.2).bind fun q => (dr q.2 p.1).bind fun x => (dr q.2 q.1).bind fun y => (cmpD o1 x y).bind fun r =>
      bif r then (ev c q.2).bind fun u => (dr u.2 q.1).bind fun y => (dr u.2 u.1).bind fun z => (cmpD o2 y z).map fun r => (notR r, u.2)
      else some (notR false, q.2)
  | .and2 a b, st => (ev a st).bind fun p => (dr p.2 p.1).bind fun x => (boolOf x).bind fun k => bif k then ev b p.2 else some (notR false, p.2)
  | .or2 a b, st => (ev a st).bind fun p => (dr p.2 p.1).bind fun x => (boolOf x).bind fun k => bif k then some (notR true, p.2) else ev b p.2
  | .not1 a, st => (ev a st).bind fun p => (dr p.2 p.1).bind fun x => (boolOf x).map fun k => (notR (!k), p.2)
  | .ife c a b, st => (evB c st).bind fun p => bif p.1 then ev a p.2 else ev b p.2
  | .tup es, st => (evF es st).bind fun p => if p.1.length ≤ lim then some (.im (.tuple p.1), p.2) else none
  | .lst es, st => (evF es st).bind fun p => if p.1.length ≤ lim then some (.tm (.list p.1), p.2) else none
  | .dct es, st => (evF es st).bind fun p => (pairUp p.1).bind fun ps => if ps.all (fun q => isFlat q.1) && decide (ps.length ≤ 15) then (putAll [] ps).map fun kvs => (.tm (.dict kvs), p.2) else none
  | .idx a i, st => (ev a st).bind fun p => (ev i p.2).bind fun q => (dr q.2 p.1).bind fun x => (dr q.2 q.1).bind fun y => (idxD x y).map fun d => (.im d, q.2)
  | .slc a lo hi, st => (ev a st).bind fun p => (evO lo p.2).bind fun l => (evO hi l.2).bind fun h => (dr h.2 p.1).bind fun x => (slcD x l.1 h.1).map fun r => (r, h.2)
  | .rev a, st => (ev a st).bind fun p => (dr p.2 p.1).bind fun x => (revD x).map fun r => (r, p.2)
  | .call f args, st => (evA args st).bind fun p => (argsOf p.1 p.2).bind fun l => bif nodupN (ios p.1) then (C f l).bind fun q => (fresh q.1).bind fun r => (outsTo p.1 q.2 p.2).map fun st2 => (r, st2) else none
  | .blt b args, st => (evL args st).bind fun p => (drs p.2 p.1).bind fun ds => (bltD b ds).map fun r => (r, p.2)
  | .isi a t, st => (ev a st).bind fun p => (dr p.2 p.1).map fun x => (notR (isTy x t), p.2)
  | .mth m a args, st => (ev a st).bind fun p => (dr p.2 p.1).bind fun x0 => if mthK m x0 then (evF args p.2).bind fun q => (dr q.2 p.1).bind fun x => (mthD m x q.1).map fun r => (r, q.2) else none
  | .mut m i args, st => if isLst (sget st i) then (match m with
      | .extend => (evL args st).bind fun p => (drs p.2 p.1).map fun ds => (ds, p.2)
      | _ => evF args st).bind fun p => (ownOf (sget p.2 i)).bind fun d => (mutD m d p.1).map fun (u : D × D) => (.im u.2, p.2.set i (.ow u.1)) else none
  | .lc elt t it c, st => (evI it st).bind fun p =>
      (lcL (bindT t) (evB c) (fun s => (ev elt s).bind fun u => fz u.2 u.1) t.own p.1 p.2.2 []).map fun q => (.tm (.list q.1), unlock (back p.2.2 q.2 t.own) p.2.1)
  | .lc2 elt t it c t2 it2 c2, st => (evI it st).bind fun p =>
      (lcL2 (bindT t) (evB c) (fun s acc => (evI it2 s).bind fun u =>
        (lcL (bindT t2) (evB c2) (fun s => (ev elt s).bind fun u => fz u.2 u.1) t2.own u.1 u.2.2 acc).map fun q => (q.1, unlock q.2 u.2.1)) (t.own ++ t2.own) p.1 p.2.2 []).map fun q => (.tm (.list q.1), unlock (back p.2.2 q.2 (t.own ++ t2.own)) p.2.1)
/-- several, each as it comes -/
def evL : L → Sg → Option (List R × Sg)
  | .nl, st => some ([], st)
  | .cs a r, st => (ev a st).bind fun p => (evL r p.2).map fun q => (p.1 :: q.1, q.2)
/-- several, to be kept -/
def evF : L → Sg → Option (List D × Sg)
  | .nl, st => some ([], st)
  | .cs a r, st => (ev a st).bind fun p => (fz p.2 p.1).bind fun u => (evF r u.2).map fun q => (u.1 :: q.1, q.2)
/-- a call's arguments -/
def evA : A → Sg → Option (List (Sum Nat D) × Sg)
  | .nl, st => some ([], st)
  | .io i r, st => (ownOf (sget st i)).bind fun _ => (evA r st).map fun q => (.inl i :: q.1, q.2)
  | .cs a r, st => (ev a st).bind fun p => (fz p.2 p.1).bind fun u => (evA r u.2).map fun q => (.inr u.1 :: q.1, q.2)
/-- a slice's bound -/
def evO : O → Sg → Option (Option D × Sg)
  | .no, st => some (none, st)
  | .so e, st => (ev e st).bind fun p => (dr p.2 p.1).map fun d => (some d, p.2)
/-- a test -/
def evB : B → Sg → Option (Bool × Sg)
  | .yes, st => some (true, st)
  | .and2 a b, st => (evB a st).bind fun p => bif p.1 then evB b p.2 else some (false, p.2)
  | .or2 a b, st => (evB a st).bind fun p => bif p.1 then some (true, p.2) else evB b p.2
  | .not1 a, st => (evB a st).map fun p => (!p.1, p.2)
  | .of e, st => (ev e st).bind fun p => (dr p.2 p.1).bind fun d => (tru d).map fun b => (b, p.2)
/-- what is walked: the items, the slot that is locked meanwhile -/
def evI : I → Sg → Option (List D × Option Nat × Sg)
  | .rng1 a, st => (ev a st).bind fun p => (dr p.2 p.1).bind fun x => (rngW [x]).map fun xs => (xs, none, p.2)
  | .rng2 a b, st => (ev a st).bind fun p => (ev b p.2).bind fun q => (dr q.2 p.1).bind fun x => (dr q.2 q.1).bind fun y => (rngW [x, y]).map fun xs => (xs, none, q.2)
  | .rng3 a b c, st => (ev a st).bind fun p => (ev b p.2).bind fun q => (ev c q.2).bind fun u => (dr u.2 p.1).bind fun x => (dr u.2 q.1).bind fun y => (dr u.2 u.1).bind fun z => (rngW [x, y, z]).map fun xs => (xs, none, u.2)
  | .zip a b, st => (ev a st).bind fun p => (ev b p.2).bind fun q => (dr q.2 p.1).bind fun x => (dr q.2 q.1).bind fun y => (items x).bind fun xs => (items y).map fun ys =>
      ((xs.zip ys).map fun p => .tuple [p.1, p.2], none, q.2)
  | .enum a, st => (ev a st).bind fun p => (dr p.2 p.1).bind fun x => (items x).map fun xs => ((xs.zipIdx).map fun p => .tuple [.int p.2, p.1], none, p.2)
  | .of e, st => (ev e st).bind fun p => (dr p.2 p.1).bind fun d => (walkD d).map fun xs => (xs, (lock p.2 p.1).2, (lock p.2 p.1).1)
end
end

inductive Fl where
  | nx (st : Sg) | rt (r : R) (st : Sg) | bk (st : Sg)
def whlL (c : Sg → Option (Bool × Sg)) (b : Sg → Option Fl) : Nat → Sg → Option Fl
  | 0, _ => none
  | n + 1, st => (c st).bind fun p => bif p.1 then (b p.2).bind fun
      | .nx st2 => whlL c b n st2
      | .bk st2 => some (.nx st2)
      | .rt r st2 => some (.rt r st2)
    else some (.nx p.2)
def forL (bnd : D → Sg → Option Sg) (b : Sg → Option Fl) : List D → Sg → Option Fl
  | [], st => some (.nx st)
  | d :: r, st => (bnd d st).bind fun st1 => (b st1).bind fun
      | .nx st2 => forL bnd b r st2
      | .bk st2 => some (.nx st2)
      | .rt r st2 => some (.rt r st2)
def Fl.unlock (l : Option Nat) : Fl → Fl
  | .nx st => .nx (Nv.unlock st l)
  | .bk st => .bk st
  | .rt r st => .rt r st
/-- a value that leaves a def -/
def leave (st : Sg) : R → Option Fl
  | .im d => some (.rt (.im d) st)
  | .tm d => some (.rt (.tm d) st)
  | .sl i => match sget st i with
    | .un => none
    | .im d => some (.rt (.im d) st)
    | .ow d => some (.rt (.tm d) (st.set i .un))
    | .lk (.list xs) => some (.rt (.tm (.list xs)) (st.set i .un))
    | .lk _ => none
def stos : List Nat → List R → Sg → Option Sg
  | [], [], st => some st
  | i :: is, r :: rs, st => (sto st i r).bind fun st' => stos is rs st'
  | _, _, _ => none
/-- several for a store to several names: what stands in a slot is kept from now on -/
def evP (C : Orc) : L → Sg → Option (List R × Sg)
  | .nl, st => some ([], st)
  | .cs a r, st => (ev C a st).bind fun p => (holdR p.2 p.1).bind fun u => (evP C r u.2).map fun q => (u.1 :: q.1, q.2)
def ex (C : Orc) (N : Nat) : S → Sg → Option Fl
  | .pss, st => some (.nx st)
  | .seq a b, st => (ex C N a st).bind fun
      | .nx st1 => ex C N b st1
      | f => some f
  | .asg t e, st => (ev C e st).bind fun p => match t with
      | .nm i => (sto p.2 i p.1).map .nx
      | .pr is => (dr p.2 p.1).bind fun d => (bindT (.pr is) d p.2).map .nx
  | .par is es, st => (evP C es st).bind fun p => (stos is p.1 p.2).map .nx
  | .sub i k e, st => (ev C e st).bind fun p => (fz p.2 p.1).bind fun v => (ownOf (sget v.2 i)).bind fun _ => (ev C k v.2).bind fun q => (fz q.2 q.1).bind fun u => (ownOf (sget u.2 i)).bind fun d => (subD d u.1 v.1).map fun d' => .nx (u.2.set i (.ow d'))
  | .aug i o e, st => (imOf (sget st i)).bind fun x => (ev C e st).bind fun p => (dr p.2 p.1).bind fun y => (augD o x y).map fun z => .nx (p.2.set i (.im z))
  | .augs i k o e, st => (ownOf (sget st i)).bind fun _ => (ev C k st).bind fun p => (fz p.2 p.1).bind fun u => (ownOf (sget u.2 i)).bind fun d => (idxD d u.1).bind fun x => (ev C e u.2).bind fun q => (dr q.2 q.1).bind fun y => (augD o x y).bind fun z =>
      (ownOf (sget q.2 i)).bind fun d => (subD d u.1 z).map fun d' => .nx (q.2.set i (.ow d'))
  | .exp e, st => (ev C e st).map fun p => .nx p.2
  | .iff c a b, st => (evB C c st).bind fun p => bif p.1 then ex C N a p.2 else ex C N b p.2
  | .whl c b, st => whlL (evB C c) (ex C N b) N st
  | .for_ t it b, st => (evI C it st).bind fun p => (forL (bindT t) (ex C N b) p.1 p.2.2).map (Fl.unlock p.2.1)
  | .ret e, st => (ev C e st).bind fun p => leave p.2 p.1
  | .retN, st => some (.rt (.im .none) st)
  | .brk, st => some (.bk st)

/-- a def: which parameters it may change, how many slots, its body -/
structure Df where
  ios : List Bool
  n : Nat
  body : S
def params : List Bool → List Arg → Option Sg
  | [], [] => some []
  | true :: bs, (true, d) :: as => (params bs as).map (.ow d :: ·)
  | false :: bs, (false, d) :: as => (params bs as).map (.im d :: ·)
  | _, _ => none
def outs (st : Sg) : List Bool → Nat → Option (List D)
  | [], _ => some []
  | true :: bs, i => match sget st i with
    | .ow d => (outs st bs (i + 1)).map (d :: ·)
    | .lk (.list xs) => (outs st bs (i + 1)).map (.list xs :: ·)
    | _ => none
  | false :: bs, i => outs st bs (i + 1)
def callF (defs : List Df) (N : Nat) : Nat → Orc
  | 0 => fun _ _ => none
  | k + 1 => fun f as => (defs[f]?).bind fun df => (params df.ios as).bind fun st => (ex (callF defs N k) N df.body (st ++ List.replicate (df.n - st.length) .un)).bind fun
      | .nx st' => (outs st' df.ios 0).map fun os => (.im .none, os)
      | .rt r st' => (outs st' df.ios 0).map fun os => (r, os)
      | .bk _ => none
end Nv
end
section
set_option autoImplicit false
namespace Nv
open PySem

/-- the names by slot, the defs by number with the parameters that they may change, the slots that are never stored to -/
structure Tc where
  N : List Str
  fs : List (Str × List Bool)
  keep : List Nat
def kindIn (sc : Scope) (x : Str) : Option NameKind := sc.names.lookup x
def fineName (x : Str) : Bool := !(x == ("__debug__" : Str)) && !(x == ("__classdict__" : Str))
/-- a name's slot -/
def slotOf (c : Tc) (x : Str) : Option Nat := c.N.findIdx? fun y => y == x
def varIn (c : Tc) (sc : Scope) (x : Str) : Option Nat :=
  if fineName x then match kindIn sc x with
    | some .local => slotOf c x
    | some .cell => slotOf c x
    | some .free => slotOf c x
    | _ => none
  else none
def locIn (c : Tc) (sc : Scope) (x : Str) : Option Nat := match kindIn sc x with
  | some .local => (slotOf c x).bind fun i => if c.keep.contains i then none else some i
  | some .cell => (slotOf c x).bind fun i => if c.keep.contains i then none else some i
  | _ => none
def globIn (sc : Scope) (x : Str) : Bool := fineName x && match kindIn sc x with
  | some .globalImplicit => true
  | _ => false
def bopOf : Operator → Option Bop
  | .Add => some .add | .Sub => some .sub | .Mult => some .mul | .FloorDiv => some .fdiv | .Mod => some .mod | .Pow => some .pow | .LShift => some .shl
  | _ => none
def copOf : CmpOp → Cop
  | .Eq => .eq | .NotEq => .ne | .Lt => .lt | .LtE => .le | .Gt => .gt | .GtE => .ge | .Is => .is | .IsNot => .isnt | .In => .inn | .NotIn => .nin
def constOf : Const → Option D
  | .none => some .none | .bool b => some (.bool b) | .int i => some (.int i) | .str x => some (.str x)
  | _ => none
def bltTab : List (Str × Nat × Blt) := [("len", 1, .len), ("tuple", 1, .tuple), ("list", 1, .list), ("int", 1, .int), ("abs", 1, .abs), ("sum", 1, .sum), ("max", 1, .max), ("min", 1, .min), ("max", 2, .max2),
  ("min", 2, .min2), ("all", 1, .all), ("any", 1, .any), ("sorted", 1, .sorted), ("dict", 1, .dict)]
def bltOf (x : Str) (k : Nat) : Option Blt := (bltTab.find? fun p => x == p.1 && k == p.2.1).map (·.2.2)
def tyTab : List (Str × Ty) := [("tuple", .tuple), ("list", .list), ("dict", .dict), ("int", .int), ("bool", .bool), ("str", .str)]
def tyOf (x : Str) : Option Ty := (tyTab.find? fun p => x == p.1).map (·.2)
def mthOf (x : Str) (k : Nat) : Option Mth :=
  if x == ("get" : Str) && k == 1 then some .get1 else if x == ("get" : Str) && k == 2 then some .get2 else if x == ("index" : Str) && k == 1 then some .index else none
def mutOf (x : Str) (k : Nat) : Option Mut :=
  if x == ("append" : Str) && k == 1 then some .append else if x == ("extend" : Str) && k == 1 then some .extend else if x == ("pop" : Str) && k == 0 then some .pop0
  else if x == ("pop" : Str) && k == 1 then some .pop1 else none
def fnIx (c : Tc) (x : Str) : Option (Nat × List Bool) := (c.fs.findIdx? fun y => y.1 == x).bind fun i => (c.fs[i]?).map fun y => (i, y.2)
def trTs (c : Tc) (sc : Scope) : List Expr → Option (List Nat)
  | [] => some []
  | .Name x _ :: r => (locIn c sc x).bind fun i => (trTs c sc r).map (i :: ·)
  | _ :: _ => none
def trT (c : Tc) (sc : Scope) : Expr → Option T
  | .Name x _ => (locIn c sc x).map .nm
  | .Tuple es _ _ => (trTs c sc es).map .pr
  | _ => none
/-- a comprehension's own names are its targets' -/
def ownOk (c : Tc) (sc scope : Scope) (is : List Nat) : Bool :=
  scope.kind == .function && scope.names.all fun y => scope.names.lookup y.1 == some y.2 && match y.2 with
    | .local => (match slotOf c y.1 with | none => true | some i => is.contains i)
    | .cell => (match slotOf c y.1 with | none => true | some i => is.contains i)
    | .free => (match sc.names.lookup y.1 with | some .cell => true | some .free => true | _ => false)
    | _ => true
def isIsi (x : Str) (as : List Expr) : Option (Expr × Str) :=
  if x == ("isinstance" : Str) then match as with
    | [a, .Name y _] => some (a, y)
    | _ => none
  else none
def isRange : Expr → Option (List Expr)
  | .Call (.Name x _) as [] _ => if x == ("range" : Str) then some as else none
  | _ => none

mutual
def trE (c : Tc) : Nat → Scope → Expr → Option E
  | 0, _, _ => none
  | n + 1, sc, e => match e with
    | .Name x _ => (varIn c sc x).map .var
    | .Constant k _ _ => (constOf k).map .cst
    | .BinOp a op b _ => (bopOf op).bind fun o => (trE c n sc a).bind fun a' => (trE c n sc b).map fun b' => .bin o a' b'
    | .UnaryOp .USub a _ => (trE c n sc a).map .neg
    | .UnaryOp .Not a _ => (trE c n sc a).map .not1
    | .BoolOp .And es _ => trAnd c n sc es
    | .BoolOp .Or es _ => trOr c n sc es
    | .Compare a [o] [b] _ => (trE c n sc a).bind fun a' => (trE c n sc b).map fun b' => .cmp (copOf o) a' b'
    | .Compare a [o1, o2] [b, d] _ => (trE c n sc a).bind fun a' => (trE c n sc b).bind fun b' => (trE c n sc d).map fun d' => .chn (copOf o1) (copOf o2) a' b' d'
    | .IfExp t a b _ => (trB c n sc t).bind fun t' => (trE c n sc a).bind fun a' => (trE c n sc b).map fun b' => .ife t' a' b'
    | .Tuple es _ _ => (trL c n sc es).map .tup
    | .List es _ => (trL c n sc es).map .lst
    | .Dict ks vs _ => if ks.all (·.isSome) && ks.length == vs.length && decide (ks.length ≤ 15) then (trD c n sc ks vs).map .dct else none
    | .Subscript a (.Slice lo hi none _) _ => (trE c n sc a).bind fun a' => (trO c n sc lo).bind fun l => (trO c n sc hi).map fun h => .slc a' l h
    | .Subscript a i _ => (trE c n sc a).bind fun a' => (trE c n sc i).map fun i' => .idx a' i'
    | .Call (.Name x _) as [] _ =>
      if globIn sc x then match fnIx c x with
        | some (f, ios) => if ios.length == as.length then (trA c n sc ios as).map (.call f) else none
        | none => match isIsi x as with
          | some (a, y) => if globIn sc y then (tyOf y).bind fun t => (trE c n sc a).map fun a' => .isi a' t else none
          | none => match bltOf x as.length with
            | some b => (trL c n sc as).map (.blt b)
            | none => none
      else none
    | .Call (.Attribute (.Name x p) m ap) as [] cp =>
      if ap.endLine == cp.line then match mutOf m as.length with
        | some u => match varIn c sc x with
          | some i => (trL c n sc as).map (.mut u i)
          | none => none
        | none => match mthOf m as.length with
          | some u => (trE c n sc (.Name x p)).bind fun a' => (trL c n sc as).map fun l => .mth u a' l
          | none => none
      else none
    | .ListComp elt [⟨t, it, ifs, 0⟩] scope _ => (trI c n sc it).bind fun it' => (trT c scope t).bind fun t' => (trIf c n scope ifs).bind fun b => (trE c n scope elt).bind fun e' =>
        if ownOk c sc scope t'.own then some (.lc e' t' it' b) else none
    | _ => none
def trAnd (c : Tc) : Nat → Scope → List Expr → Option E
  | 0, _, _ => none
  | n + 1, sc, es => match es with
    | [e] => trE c n sc e
    | e :: r => (trE c n sc e).bind fun e' => (trAnd c n sc r).map fun r' => .and2 e' r'
    | [] => none
def trOr (c : Tc) : Nat → Scope → List Expr → Option E
  | 0, _, _ => none
  | n + 1, sc, es => match es with
    | [e] => trE c n sc e
    | e :: r => (trE c n sc e).bind fun e' => (trOr c n sc r).map fun r' => .or2 e' r'
    | [] => none
def trL (c : Tc) : Nat → Scope → List Expr → Option L
  | 0, _, _ => none
  | n + 1, sc, es => match es with
    | [] => some .nl
    | e :: r => (trE c n sc e).bind fun e' => (trL c n sc r).map fun r' => .cs e' r'
def trD (c : Tc) : Nat → Scope → List (Option Expr) → List Expr → Option L
  | 0, _, _, _ => none
  | n + 1, sc, ks, vs => match ks, vs with
    | [], [] => some .nl
    | some k :: ks, v :: vs => (trE c n sc k).bind fun k' => (trE c n sc v).bind fun v' => (trD c n sc ks vs).map fun r => .cs k' (.cs v' r)
    | _, _ => none
def trA (c : Tc) : Nat → Scope → List Bool → List Expr → Option A
  | 0, _, _, _ => none
  | n + 1, sc, ios, es => match ios, es with
    | [], [] => some .nl
    | true :: ios, .Name x _ :: r => (varIn c sc x).bind fun i => (trA c n sc ios r).map fun r' => .io i r'
    | false :: ios, e :: r => (trE c n sc e).bind fun e' => (trA c n sc ios r).map fun r' => .cs e' r'
    | _, _ => none
def trO (c : Tc) : Nat → Scope → Option Expr → Option O
  | 0, _, _ => none
  | n + 1, sc, e => match e with
    | none => some .no
    | some e => (trE c n sc e).map .so
def trB (c : Tc) : Nat → Scope → Expr → Option B
  | 0, _, _ => none
  | n + 1, sc, e => match e with
    | .UnaryOp .Not a _ => (trB c n sc a).map .not1
    | .BoolOp .And es _ => trAndB c n sc es
    | .BoolOp .Or es _ => trOrB c n sc es
    | .IfExp _ _ _ _ => none
    | e => (trE c n sc e).map .of
def trAndB (c : Tc) : Nat → Scope → List Expr → Option B
  | 0, _, _ => none
  | n + 1, sc, es => match es with
    | [e] => trB c n sc e
    | e :: r => (trB c n sc e).bind fun e' => (trAndB c n sc r).map fun r' => .and2 e' r'
    | [] => none
def trOrB (c : Tc) : Nat → Scope → List Expr → Option B
  | 0, _, _ => none
  | n + 1, sc, es => match es with
    | [e] => trB c n sc e
    | e :: r => (trB c n sc e).bind fun e' => (trOrB c n sc r).map fun r' => .or2 e' r'
    | [] => none
def trIf (c : Tc) : Nat → Scope → List Expr → Option B
  | 0, _, _ => none
  | n + 1, sc, es => match es with
    | [] => some .yes
    | [e] => trB c n sc e
    | _ => none
def trI (c : Tc) : Nat → Scope → Expr → Option I
  | 0, _, _ => none
  | n + 1, sc, e => match isRange e with
    | some [a] => if globIn sc ("range" : Str) then (trE c n sc a).map .rng1 else none
    | some [a, b] => if globIn sc ("range" : Str) then (trE c n sc a).bind fun a' => (trE c n sc b).map fun b' => .rng2 a' b' else none
    | some [a, b, d] => if globIn sc ("range" : Str) then (trE c n sc a).bind fun a' => (trE c n sc b).bind fun b' => (trE c n sc d).map fun d' => .rng3 a' b' d' else none
    | some _ => none
    | none => (trE c n sc e).map .of
end

def isLc : Expr → Bool
  | .ListComp _ _ _ _ => true
  | _ => false
def swNames (sc : Scope) (ts : List Expr) : List Str := ts.filterMap fun
  | .Name id pos => if sc.names.lookup id == some .local && pos.line == (ts.head?.map (·.pos.line)).getD 0 then some id else none
  | _ => none
def isStar : Expr → Bool
  | .Starred _ _ => true
  | _ => false
/-- a, b = x, y: stored from the right, or through a tuple -/
def parMode (sc : Scope) (ts vs : List Expr) : Option Bool :=
  if !(ts.length == 2 || ts.length == 3) || vs.length != ts.length then some false
  else if vs.any isStar then none
  else if (swNames sc ts).length != ts.length || (swNames sc ts).eraseDups.length != (swNames sc ts).length then some false
  else if vs.all (foldedForSure 8) then some false
  else if vs.all (constantsAlone 8) then none
  else some true
def parPick (sc : Scope) (ts : List Expr) (is : List Nat) (es : L) : Option S := match ts with
  | [.Name x p, .Name y q] => if swNames sc [.Name x p, .Name y q] == [x, y] && nodupN is then some (.par is es) else none
  | [.Name x p, .Name y q, .Name z r] => if swNames sc [.Name x p, .Name y q, .Name z r] == [x, y, z] && nodupN is then some (.par is es) else none
  | _ => none
mutual
def trS (c : Tc) : Nat → Scope → Stmt → Option S
  | 0, _, _ => none
  | n + 1, sc, s => match s with
    | .Pass _ => some .pss
    | .Break _ => some .brk
    | .Return (some e) _ => (trE c n sc e).map .ret
    | .Return none _ => some .retN
    | .Expr (.Constant (.str _) _ _) _ => some .pss
    | .Expr e _ => if isLc e then none else (trE c n sc e).map .exp
    | .If e a b _ => (trB c n sc e).bind fun e' => (trSs c n sc a).bind fun a' => (trSs c n sc b).map fun b' => .iff e' a' b'
    | .While e b [] _ => (trB c n sc e).bind fun e' => (trSs c n sc b).map fun b' => .whl e' b'
    | .For tg it b [] _ => (trT c sc tg).bind fun t => (trI c n sc it).bind fun i => (trSs c n sc b).map fun b' => .for_ t i b'
    | .Assign [.Name x _] e _ => (locIn c sc x).bind fun i => (trE c n sc e).map fun e' => .asg (.nm i) e'
    | .Assign [.Tuple ts _ _] (.Tuple vs _ _) _ => (trTs c sc ts).bind fun is => (trL c n sc vs).bind fun es => if decide (ts.length ≤ 1000) then match parMode sc ts vs with
        | some true => parPick sc ts is es
        | some false => some (.par is es)
        | none => none else none
    | .Assign [.Tuple ts _ _] e _ => (trTs c sc ts).bind fun is => (trE c n sc e).map fun e' => .asg (.pr is) e'
    | .Assign [.Subscript (.Name x _) k _] e _ => (varIn c sc x).bind fun i => (trE c n sc k).bind fun k' => (trE c n sc e).map fun e' => .sub i k' e'
    | .AugAssign (.Name x _) o e _ => (locIn c sc x).bind fun i => (bopOf o).bind fun o' => (trE c n sc e).map fun e' => .aug i o' e'
    | .AugAssign (.Subscript (.Name x _) k _) o e _ => (varIn c sc x).bind fun i => (bopOf o).bind fun o' => (trE c n sc k).bind fun k' => (trE c n sc e).map fun e' => .augs i k' o' e'
    | _ => none
def trSs (c : Tc) : Nat → Scope → List Stmt → Option S
  | 0, _, _ => none
  | n + 1, sc, ss => match ss with
    | [] => some .pss
    | [s] => trS c n sc s
    | s :: r => (trS c n sc s).bind fun s' => (trSs c n sc r).map fun r' => .seq s' r'
end
end Nv
end
section
set_option Elab.async false
set_option linter.all false
set_option maxRecDepth 100000
set_option maxHeartbeats 4000000
namespace Nv
open PySem PySem.Spec PyProof.Rows L2

abbrev St := L2.St
mutual
def kk : D → Option NestedKey
  | .none => some .none
  | .int i => some (.num i)
  | .str x => some (.text x)
  | .tuple xs => (kkAll xs).map .tup
  | .bool _ => none
  | .list _ => none
  | .dict _ => none
def kkAll : List D → Option (List NestedKey)
  | [] => some []
  | x :: r => (kk x).bind fun k => (kkAll r).map (k :: ·)
end

/-- the dict at a, its keys the tuples at the addresses -/
def nestD (w : World) (a : Addr) (xs : List (NestedKey × Addr × V)) (h : Heap) : Prop :=
  xs.length ≤ sizeLine ∧ (a == sysModules) = false ∧ (xs.map (·.1)).Nodup ∧ ∃ o des ep, h.get? a = some o ∧ o.ExactDict ∧ o.data = .dict des ep ∧
    Paired (fun (x : NestedKey × Addr × V) (e : DictEntry) => e.hash = x.1.hash w ∧ e.key = .ref x.2.1 ∧ RelV x.2.2 e.val) xs des.toList
theorem nestD.obj {P : Program} {w : World} {H : Hp} {h : Heap} {a : Addr} {xs : List (NestedKey × Addr × V)} (x : nestD w a xs h) : ObjOk P w H h a (.ext (nestD w a xs)) := by
  obtain ⟨z, z2, nd, o, des, ep, ho, hx, hd, hp⟩ := x
  refine ⟨⟨z, z2, nd, o, des, ep, ho, hx, hd, hp⟩, ⟨o, ho⟩, ?_⟩
  rintro h1 h2 ⟨z, z2, nd, o, des, ep, ho, hx, hd, hp⟩ k
  exact ⟨z, z2, nd, o, des, ep, k _ ho, hx, hd, hp⟩
def kD : Key → D
  | .inl i => .int i
  | .inr x => .str x

section
variable (F : Addr → Prop) (w : World) (H : Hp)
mutual
/-- the value v is the datum d, at addresses of F (which nobody changes) -/
inductive Rp : V → D → Prop
  | non : Rp .non .none
  | bl (b : Bool) : Rp (.bl b) (.bool b)
  | int (i : Int) : Rp (.int i) (.int i)
  | str (x : Str) : Rp (.str x) (.str x)
  | lst {a : Addr} {xs : List V} {ds : List D} : F a → Rd H a (.lst xs) → RpA xs ds → Rp (.ref a) (.list ds)
  | tup {a : Addr} {xs : List V} {ds : List D} : F a → Rd H a (.tup xs) → RpA xs ds → Rp (.ref a) (.tuple ds)
  | dct {a : Addr} {o : Obj} {u : HO} {kvs : List (D × D)} : F a → H a = some (.frz o u) → Dc a u kvs → Rp (.ref a) (.dict kvs)
inductive RpA : List V → List D → Prop
  | nil : RpA [] []
  | cons {v : V} {vs : List V} {d : D} {ds : List D} : Rp v d → RpA vs ds → RpA (v :: vs) (d :: ds)
/-- the object u of a is a dict of such -/
inductive Dc : Addr → HO → List (D × D) → Prop
  | flat {a : Addr} {kv : List (Key × V)} {kvs : List (D × D)} : PK kv kvs → Dc a (.dK kv) kvs
  | nest {a : Addr} {xs : List (NestedKey × Addr × V)} {kvs : List (D × D)} : xs ≠ [] → PN xs kvs → Dc a (.ext (nestD w a xs)) kvs
inductive PK : List (Key × V) → List (D × D) → Prop
  | nil : PK [] []
  | cons {k : Key} {v : V} {d : D} {kv : List (Key × V)} {kvs : List (D × D)} : Rp v d → PK kv kvs → PK ((k, v) :: kv) ((kD k, d) :: kvs)
inductive PN : List (NestedKey × Addr × V) → List (D × D) → Prop
  | nil : PN [] []
  | cons {k : NestedKey} {b : Addr} {v : V} {e d : D} {xs : List (NestedKey × Addr × V)} {kvs : List (D × D)} : kk e = some k → keyOk 8 e = true → isTup e = true → Rp (.ref b) e → Rp v d → PN xs kvs → PN ((k, b, v) :: xs) ((e, d) :: kvs)
end
/-- .. as it stands now, whoever may change it -/
inductive Vw : V → D → Prop
  | of {v : V} {d : D} : Rp F w H v d → Vw v d
  | lst {a : Addr} {xs : List V} {ds : List D} : Rd H a (.lst xs) → RpA F w H xs ds → Vw (.ref a) (.list ds)
  | dct {a : Addr} {u : HO} {kvs : List (D × D)} : Rd H a u → Dc F w H a u kvs → Vw (.ref a) (.dict kvs)
/-- a list or dict that may be changed -/
inductive Own (a : Addr) : D → Prop
  | lst {xs : List V} {ds : List D} : H a = some (.lst xs) → RpA F w H xs ds → Own a (.list ds)
  | dct {u : HO} {kvs : List (D × D)} : H a = some u → Dc F w H a u kvs → Own a (.dict kvs)
/-- .. that is locked -/
inductive Lkd (a : Addr) : D → Prop
  | lst {xs : List V} {ds : List D} : H a = some (.lst xs) → RpA F w H xs ds → Lkd a (.list ds)
  | dct {o : Obj} {u : HO} {kvs : List (D × D)} : H a = some (.frz o u) → Dc F w H a u kvs → Lkd a (.dict kvs)
/-- all of F stands -/
def Fok : Prop := ∀ a, F a → H a ≠ none
end

/-- F grows, the heap of F stands -/
structure Keep (F : Addr → Prop) (H : Hp) (F' : Addr → Prop) (H' : Hp) : Prop where
  sub : ∀ a, F a → F' a
  eq : ∀ a, F a → H' a = H a
theorem Keep.refl {F : Addr → Prop} {H : Hp} : Keep F H F H := ⟨fun _ h => h, fun _ _ => rfl⟩
theorem Keep.trans {F F1 F2 : Addr → Prop} {H H1 H2 : Hp} (a : Keep F H F1 H1) (b : Keep F1 H1 F2 H2) : Keep F H F2 H2 :=
  ⟨fun x h => b.sub x (a.sub x h), fun x h => (b.eq x (a.sub x h)).trans (a.eq x h)⟩
theorem Rd.keep {H H' : Hp} {a : Addr} {u : HO} (e : H' a = H a) (h : Rd H a u) : Rd H' a u := by
  rcases h with h | ⟨o, h⟩
  · exact .inl (e.trans h)
  · exact .inr ⟨o, e.trans h⟩
section
variable {F F' : Addr → Prop} {w : World} {H H' : Hp}
mutual
theorem Rp.stay (k : Keep F H F' H') : ∀ {v : V} {d : D}, Rp F w H v d → Rp F' w H' v d
  | _, _, .non => .non
  | _, _, .bl b => .bl b
  | _, _, .int i => .int i
  | _, _, .str x => .str x
  | _, _, .lst f h r => .lst (k.sub _ f) (Rd.keep (k.eq _ f) h) (RpA.stay k r)
  | _, _, .tup f h r => .tup (k.sub _ f) (Rd.keep (k.eq _ f) h) (RpA.stay k r)
  | _, _, .dct f h r => .dct (k.sub _ f) ((k.eq _ f).trans h) (Dc.stay k r)
theorem RpA.stay (k : Keep F H F' H') : ∀ {vs : List V} {ds : List D}, RpA F w H vs ds → RpA F' w H' vs ds
  | _, _, .nil => .nil
  | _, _, .cons r t => .cons (Rp.stay k r) (RpA.stay k t)
theorem Dc.stay (k : Keep F H F' H') : ∀ {a : Addr} {u : HO} {kvs : List (D × D)}, Dc F w H a u kvs → Dc F' w H' a u kvs
  | _, _, _, .flat r => .flat (PK.stay k r)
  | _, _, _, .nest n r => .nest n (PN.stay k r)
theorem PK.stay (k : Keep F H F' H') : ∀ {kv : List (Key × V)} {kvs : List (D × D)}, PK F w H kv kvs → PK F' w H' kv kvs
  | _, _, .nil => .nil
  | _, _, .cons r t => .cons (Rp.stay k r) (PK.stay k t)
theorem PN.stay (k : Keep F H F' H') : ∀ {xs : List (NestedKey × Addr × V)} {kvs : List (D × D)}, PN F w H xs kvs → PN F' w H' xs kvs
  | _, _, .nil => .nil
  | _, _, .cons a b c d e t => .cons a b c (Rp.stay k d) (Rp.stay k e) (PN.stay k t)
end
theorem RpA.length : ∀ {vs : List V} {ds : List D}, RpA F w H vs ds → vs.length = ds.length
  | _, _, .nil => rfl
  | _, _, .cons _ t => by rw [List.length_cons, List.length_cons, RpA.length t]
theorem PK.length : ∀ {kv : List (Key × V)} {kvs : List (D × D)}, PK F w H kv kvs → kv.length = kvs.length
  | _, _, .nil => rfl
  | _, _, .cons _ t => by rw [List.length_cons, List.length_cons, PK.length t]
theorem PN.length : ∀ {xs : List (NestedKey × Addr × V)} {kvs : List (D × D)}, PN F w H xs kvs → xs.length = kvs.length
  | _, _, .nil => rfl
  | _, _, .cons _ _ _ _ _ t => by rw [List.length_cons, List.length_cons, PN.length t]
theorem RpA.get : ∀ {vs : List V} {ds : List D} {i : Nat} {d : D}, RpA F w H vs ds → ds[i]? = some d → ∃ v, vs[i]? = some v ∧ Rp F w H v d
  | _, _, i, _, .nil, e => by simp at e
  | _, _, 0, _, .cons r _, e => by simp at e; subst e; exact ⟨_, rfl, r⟩
  | _, _, i + 1, _, .cons _ t, e => by simpa using RpA.get (i := i) t (by simpa using e)
theorem RpA.app : ∀ {vs us : List V} {ds es : List D}, RpA F w H vs ds → RpA F w H us es → RpA F w H (vs ++ us) (ds ++ es)
  | _, _, _, _, .nil, t => t
  | _, _, _, _, .cons r s, t => .cons r (RpA.app s t)
theorem RpA.take : ∀ {vs : List V} {ds : List D} (n : Nat), RpA F w H vs ds → RpA F w H (vs.take n) (ds.take n)
  | _, _, 0, _ => by rw [List.take_zero, List.take_zero]; exact .nil
  | _, _, _ + 1, .nil => .nil
  | _, _, n + 1, .cons r t => .cons r (RpA.take n t)
theorem RpA.drop : ∀ {vs : List V} {ds : List D} (n : Nat), RpA F w H vs ds → RpA F w H (vs.drop n) (ds.drop n)
  | _, _, 0, h => h
  | _, _, _ + 1, .nil => .nil
  | _, _, n + 1, .cons _ t => RpA.drop n t
theorem RpA.rev {vs : List V} {ds : List D} (h : RpA F w H vs ds) : RpA F w H vs.reverse ds.reverse := by
  induction vs generalizing ds with
  | nil => cases h; exact .nil
  | cons v vs ih =>
    cases h with
    | cons r t => rw [List.reverse_cons, List.reverse_cons]; exact (ih t).app (.cons r .nil)
theorem RpA.rep {vs : List V} {ds : List D} (h : RpA F w H vs ds) : ∀ n : Nat, RpA F w H (List.replicate n vs).flatten (List.replicate n ds).flatten
  | 0 => .nil
  | n + 1 => by rw [List.replicate_succ, List.replicate_succ, List.flatten_cons, List.flatten_cons]; exact h.app (RpA.rep h n)
theorem RpA.set {v : V} {d : D} (r : Rp F w H v d) : ∀ {vs : List V} {ds : List D} (i : Nat), RpA F w H vs ds → RpA F w H (vs.set i v) (ds.set i d)
  | _, _, _, .nil => .nil
  | _, _, 0, .cons _ t => .cons r t
  | _, _, i + 1, .cons q t => .cons q (RpA.set r i t)
theorem RpA.dropLast {vs : List V} {ds : List D} (h : RpA F w H vs ds) : RpA F w H vs.dropLast ds.dropLast := by
  rw [List.dropLast_eq_take, List.dropLast_eq_take, h.length]
  exact h.take _
theorem RpA.erase : ∀ {vs : List V} {ds : List D} (i : Nat), RpA F w H vs ds → RpA F w H (vs.eraseIdx i) (ds.eraseIdx i)
  | _, _, _, .nil => .nil
  | _, _, 0, .cons _ t => t
  | _, _, i + 1, .cons r t => .cons r (RpA.erase i t)
theorem Vw.stay (k : Keep F H F' H') {v : V} {d : D} (h : Vw F w H v d) (hv : ∀ a, v = .ref a → H' a = H a) : Vw F' w H' v d := by
  cases h with
  | of r => exact .of (r.stay k)
  | lst h r => exact .lst (Rd.keep (hv _ rfl) h) (r.stay k)
  | dct h r => exact .dct (Rd.keep (hv _ rfl) h) (r.stay k)
theorem Own.stay (k : Keep F H F' H') {a : Addr} {d : D} (h : Own F w H a d) (e : H' a = H a) : Own F' w H' a d := by
  cases h with
  | lst h r => exact .lst (e.trans h) (r.stay k)
  | dct h r => exact .dct (e.trans h) (r.stay k)
theorem Lkd.stay (k : Keep F H F' H') {a : Addr} {d : D} (h : Lkd F w H a d) (e : H' a = H a) : Lkd F' w H' a d := by
  cases h with
  | lst h r => exact .lst (e.trans h) (r.stay k)
  | dct h r => exact .dct (e.trans h) (r.stay k)
theorem Own.vw {a : Addr} {d : D} (h : Own F w H a d) : Vw F w H (.ref a) d := by
  cases h with
  | lst h r => exact .lst (.inl h) r
  | dct h r => exact .dct (.inl h) r
theorem Lkd.vw {a : Addr} {d : D} (h : Lkd F w H a d) : Vw F w H (.ref a) d := by
  cases h with
  | lst h r => exact .lst (.inl h) r
  | dct h r => exact .dct (.inr ⟨_, h⟩) r
theorem Own.there {a : Addr} {d : D} (h : Own F w H a d) : H a ≠ none := by
  cases h with
  | lst h r => rw [h]; exact fun z => by cases z
  | dct h r => rw [h]; exact fun z => by cases z
theorem Lkd.there {a : Addr} {d : D} (h : Lkd F w H a d) : H a ≠ none := by
  cases h with
  | lst h r => rw [h]; exact fun z => by cases z
  | dct h r => rw [h]; exact fun z => by cases z
theorem Vw.int {v : V} {i : Int} (h : Vw F w H v (.int i)) : v = .int i := by
  cases h with
  | of r => cases r; rfl
theorem Vw.bl {v : V} {b : Bool} (h : Vw F w H v (.bool b)) : v = .bl b := by
  cases h with
  | of r => cases r; rfl
theorem Vw.str {v : V} {x : Str} (h : Vw F w H v (.str x)) : v = .str x := by
  cases h with
  | of r => cases r; rfl
theorem Vw.non {v : V} (h : Vw F w H v .none) : v = .non := by
  cases h with
  | of r => cases r; rfl
theorem Vw.list {v : V} {ds : List D} (h : Vw F w H v (.list ds)) : ∃ a xs, v = .ref a ∧ Rd H a (.lst xs) ∧ RpA F w H xs ds := by
  cases h with
  | of r => cases r with
    | lst f h r => exact ⟨_, _, rfl, h, r⟩
  | lst h r => exact ⟨_, _, rfl, h, r⟩
theorem Vw.tuple {v : V} {ds : List D} (h : Vw F w H v (.tuple ds)) : ∃ a xs, v = .ref a ∧ Rd H a (.tup xs) ∧ RpA F w H xs ds ∧ F a := by
  cases h with
  | of r => cases r with
    | tup f h r => exact ⟨_, _, rfl, h, r, f⟩
theorem Vw.dict {v : V} {kvs : List (D × D)} (h : Vw F w H v (.dict kvs)) : ∃ a u, v = .ref a ∧ Rd H a u ∧ Dc F w H a u kvs := by
  cases h with
  | of r => cases r with
    | dct f h r => exact ⟨_, _, rfl, .inr ⟨_, h⟩, r⟩
  | dct h r => exact ⟨_, _, rfl, h, r⟩
theorem Vw.rp {v : V} {d : D} (h : Vw F w H v d) (n : ∀ xs, d ≠ .list xs) (m : ∀ xs, d ≠ .dict xs) : Rp F w H v d := by
  cases h with
  | of r => exact r
  | lst _ _ => exact absurd rfl (n _)
  | dct _ _ => exact absurd rfl (m _)
end

/-- W: the addresses that may be changed; O: those that may be kept from now on -/
structure Stp (F : Addr → Prop) (H : Hp) (W O : Addr → Prop) (F' : Addr → Prop) (H' : Hp) : Prop where
  sub : ∀ a, F a → F' a
  new : ∀ a, F' a → F a ∨ H a = none ∨ O a
  kp : ∀ a, H a ≠ none → ¬ W a → H' a = H a
  th : ∀ a, H a ≠ none → H' a ≠ none
theorem Stp.refl {F : Addr → Prop} {H : Hp} {W O : Addr → Prop} : Stp F H W O F H := ⟨fun _ h => h, fun _ h => .inl h, fun _ _ _ => rfl, fun _ h => h⟩
theorem Stp.trans {F F1 F2 : Addr → Prop} {H H1 H2 : Hp} {W W1 O O1 : Addr → Prop} (a : Stp F H W O F1 H1) (b : Stp F1 H1 W1 O1 F2 H2) (hw : ∀ x, W1 x → W x ∨ H x = none) (ho : ∀ x, O1 x → O x ∨ H x = none) : Stp F H W O F2 H2 := by
  refine ⟨fun x h => b.sub x (a.sub x h), fun x h => ?_, fun x h n => ?_, fun x h => b.th x (a.th x h)⟩
  · rcases b.new x h with z | z | z
    · exact a.new x z
    · refine .inr (.inl ?_)
      cases q : H x with
      | none => rfl
      | some o => exact absurd z (a.th x (by rw [q]; exact fun z => by cases z))
    · rcases ho x z with y | y
      · exact .inr (.inr y)
      · exact .inr (.inl y)
  · have e := a.kp x h n
    have n1 : ¬ W1 x := fun z => by
      rcases hw x z with y | y
      · exact n y
      · exact h y
    exact (b.kp x (a.th x h) n1).trans e
theorem Stp.mono {F F1 : Addr → Prop} {H H1 : Hp} {W W' O O' : Addr → Prop} (a : Stp F H W O F1 H1) (hw : ∀ x, W x → W' x) (ho : ∀ x, O x → O' x) : Stp F H W' O' F1 H1 :=
  ⟨a.sub, fun x h => (a.new x h).imp id fun y => y.imp id (ho x), fun x h n => a.kp x h fun z => n (hw x z), a.th⟩
theorem Stp.keep {F F1 : Addr → Prop} {H H1 : Hp} {W O : Addr → Prop} (a : Stp F H W O F1 H1) (fo : Fok F H) (hn : ∀ x, F x → ¬ W x) : Keep F H F1 H1 :=
  ⟨a.sub, fun x h => a.kp x (fo x h) (hn x h)⟩

section
variable (F : Addr → Prop) (w : World) (H : Hp)
def SlotOk (x : Option (Option V)) : Slot → Prop
  | .un => True
  | .im d => ∃ v, x = some (some v) ∧ Rp F w H v d
  | .ow d => ∃ a, x = some (some (.ref a)) ∧ Own F w H a d ∧ ¬ F a
  | .lk d => ∃ a, x = some (some (.ref a)) ∧ Lkd F w H a d ∧ ¬ F a
def Slot.owned : Slot → Prop
  | .ow _ => True
  | .lk _ => True
  | _ => False
def Slot.open : Slot → Prop
  | .ow _ => True
  | _ => False
/-- the slots as the frame and the heap hold them -/
structure Rl (σ : St) (st : Sg) : Prop where
  len : st.length = σ.length
  ok : ∀ i, SlotOk F w H σ[i]? (sget st i)
  inj : ∀ i j a, (sget st i).owned → (sget st j).owned → σ[i]? = some (some (.ref a)) → σ[j]? = some (some (.ref a)) → i = j
end
/-- what may be changed: the open slots' objects -/
def Wr (σ : St) (st : Sg) (a : Addr) : Prop := ∃ i, (sget st i).open ∧ σ[i]? = some (some (.ref a))
/-- .. the owned ones' -/
def Wo (σ : St) (st : Sg) (a : Addr) : Prop := ∃ i, (sget st i).owned ∧ σ[i]? = some (some (.ref a))
theorem Wr.wo {σ : St} {st : Sg} {a : Addr} (h : Wr σ st a) : Wo σ st a := by
  obtain ⟨i, h, e⟩ := h
  refine ⟨i, ?_, e⟩
  generalize sget st i = x at h ⊢
  cases x <;> first | exact True.intro | exact h.elim

theorem sget_set (st : Sg) (i j : Nat) (x : Slot) : sget (st.set i x) j = if i = j ∧ i < st.length then x else sget st j := by
  unfold sget
  rw [List.getD_eq_getElem?_getD, List.getD_eq_getElem?_getD, List.getElem?_set]
  by_cases h : i = j
  · subst h
    by_cases hl : i < st.length
    · simp [hl]
    · simp [hl]
  · simp [h]
theorem sget_lt {st : Sg} {i : Nat} (h : sget st i ≠ .un) : i < st.length := by
  refine Nat.lt_of_not_le fun q => h ?_
  unfold sget
  rw [List.getD_eq_getElem?_getD, List.getElem?_eq_none q]
  rfl
theorem sget_same {st : Sg} {i : Nat} {x : Slot} (h : i < st.length) : sget (st.set i x) i = x := by rw [sget_set, if_pos ⟨rfl, h⟩]
theorem sget_ne {st : Sg} {i j : Nat} {x : Slot} (h : i ≠ j) : sget (st.set i x) j = sget st j := by rw [sget_set, if_neg fun z => h z.1]

section
variable {F F' : Addr → Prop} {w : World} {H H' : Hp} {σ : St} {st st' : Sg}
theorem Rl.wo {a : Addr} (r : Rl F w H σ st) (h : Wo σ st a) : H a ≠ none ∧ ¬ F a := by
  obtain ⟨i, hi, e⟩ := h
  have q := r.ok i
  generalize sget st i = x at hi q
  cases x with
  | un => exact hi.elim
  | im d => exact hi.elim
  | ow d => obtain ⟨b, e2, o, n⟩ := q; rw [e] at e2; cases e2; exact ⟨o.there, n⟩
  | lk d => obtain ⟨b, e2, o, n⟩ := q; rw [e] at e2; cases e2; exact ⟨o.there, n⟩
theorem Rl.nw (r : Rl F w H σ st) : ∀ x, F x → ¬ Wr σ st x := fun x h z => (r.wo z.wo).2 h
theorem SlotOk.stay (k : Keep F H F' H') {y : Option (Option V)} {x : Slot} (h : SlotOk F w H y x) (hn : ∀ a, x.owned → y = some (some (.ref a)) → H' a = H a ∧ ¬ F' a) : SlotOk F' w H' y x := by
  cases x with
  | un => exact True.intro
  | im d => obtain ⟨v, e, r⟩ := h; exact ⟨v, e, r.stay k⟩
  | ow d => obtain ⟨a, e, o, n⟩ := h; obtain ⟨h1, h2⟩ := hn a True.intro e; exact ⟨a, e, o.stay k h1, h2⟩
  | lk d => obtain ⟨a, e, o, n⟩ := h; obtain ⟨h1, h2⟩ := hn a True.intro e; exact ⟨a, e, o.stay k h1, h2⟩
/-- nothing of the slots' objects is changed -/
theorem Rl.stay (k : Keep F H F' H') (r : Rl F w H σ st) (hn : ∀ a, Wo σ st a → H' a = H a ∧ ¬ F' a) : Rl F' w H' σ st :=
  ⟨r.len, fun i => (r.ok i).stay k fun a h e => hn a ⟨i, h, e⟩, r.inj⟩
theorem Rl.stp {W O : Addr → Prop} (r : Rl F w H σ st) (fo : Fok F H) (s : Stp F H W O F' H') (hW : ∀ a, W a ∨ O a → ¬ F a ∧ ¬ Wo σ st a) : Rl F' w H' σ st := by
  refine r.stay (s.keep fo fun x h z => (hW x (.inl z)).1 h) fun a h => ?_
  have q := r.wo h
  refine ⟨s.kp a q.1 fun z => (hW a (.inl z)).2 h, fun z => ?_⟩
  rcases s.new a z with y | y | y
  · exact q.2 y
  · exact q.1 y
  · exact (hW a (.inr y)).2 h
/-- a slot's view -/
theorem Rl.vw {i : Nat} {d : D} (r : Rl F w H σ st) (h : (sget st i).val = some d) : ∃ v, σ[i]? = some (some v) ∧ Vw F w H v d := by
  have q := r.ok i
  generalize sget st i = x at h q
  cases x with
  | un => cases h
  | im d' => cases h; obtain ⟨v, e, r⟩ := q; exact ⟨v, e, .of r⟩
  | ow d' => cases h; obtain ⟨a, e, o, n⟩ := q; exact ⟨_, e, o.vw⟩
  | lk d' => cases h; obtain ⟨a, e, o, n⟩ := q; exact ⟨_, e, o.vw⟩
end

section
variable (F : Addr → Prop) (w : World) (H : Hp) (σ : St) (st : Sg)
def RR (v : V) : R → Prop
  | .im d => Rp F w H v d
  | .tm d => ∃ a, v = .ref a ∧ Own F w H a d ∧ ¬ F a ∧ ¬ Wo σ st a
  | .sl i => σ[i]? = some (some v) ∧ sget st i ≠ .un
end
/-- behind an expression -/
structure Aft (F : Addr → Prop) (w : World) (H : Hp) (σ : St) (st : Sg) (F' : Addr → Prop) (H' : Hp) (st' : Sg) : Prop where
  stp : Stp F H (Wr σ st) (Wo σ st) F' H'
  rl : Rl F' w H' σ st'
  fo : Fok F' H'
  opn : ∀ i, (sget st' i).open → (sget st i).open
  own : ∀ i, (sget st' i).owned → (sget st i).owned
  un : ∀ i, sget st i ≠ .un → sget st' i ≠ .un
theorem Aft.wr {F : Addr → Prop} {w : World} {H : Hp} {σ : St} {st : Sg} {F' : Addr → Prop} {H' : Hp} {st' : Sg} (h : Aft F w H σ st F' H' st') : ∀ a, Wr σ st' a → Wr σ st a := fun _ ⟨i, h1, h2⟩ => ⟨i, h.opn i h1, h2⟩
theorem Aft.wo {F : Addr → Prop} {w : World} {H : Hp} {σ : St} {st : Sg} {F' : Addr → Prop} {H' : Hp} {st' : Sg} (h : Aft F w H σ st F' H' st') : ∀ a, Wo σ st' a → Wo σ st a := fun _ ⟨i, h1, h2⟩ => ⟨i, h.own i h1, h2⟩
section
variable {F F1 F2 : Addr → Prop} {w : World} {H H1 H2 : Hp} {σ : St} {st st1 st2 : Sg}
theorem Aft.refl (fo : Fok F H) (r : Rl F w H σ st) : Aft F w H σ st F H st := ⟨.refl, r, fo, fun _ h => h, fun _ h => h, fun _ h => h⟩
theorem Aft.trans (a : Aft F w H σ st F1 H1 st1) (b : Aft F1 w H1 σ st1 F2 H2 st2) : Aft F w H σ st F2 H2 st2 :=
  ⟨a.stp.trans b.stp (fun x h => .inl (a.wr x h)) fun x h => .inl (a.wo x h), b.rl, b.fo, fun x h => a.opn x (b.opn x h), fun x h => a.own x (b.own x h), fun i h => b.un i (a.un i h)⟩
theorem Aft.keep (fo : Fok F H) (r : Rl F w H σ st) (a : Aft F w H σ st F1 H1 st1) : Keep F H F1 H1 := a.stp.keep fo r.nw
/-- what an expression gave stands behind another one -/
theorem RR.stay {v : V} {r : R} (fo : Fok F H) (rl : Rl F w H σ st) (a : Aft F w H σ st F1 H1 st1) (h : RR F w H σ st v r) : RR F1 w H1 σ st1 v r := by
  cases r with
  | im d => exact Rp.stay (a.keep fo rl) h
  | tm d =>
    obtain ⟨b, e, o, n, m⟩ := h
    refine ⟨b, e, o.stay (a.keep fo rl) (a.stp.kp b o.there fun z => m z.wo), fun z => ?_, fun z => m (a.wo b z)⟩
    rcases a.stp.new b z with y | y | y
    · exact n y
    · exact o.there y
    · exact m y
  | sl i => exact ⟨h.1, a.un i h.2⟩
theorem RR.vw {v : V} {r : R} {d : D} (rl : Rl F w H σ st) (h : RR F w H σ st v r) (e : dr st r = some d) : Vw F w H v d := by
  cases r with
  | im d' => cases e; exact .of h
  | tm d' => cases e; obtain ⟨b, e, o, n, m⟩ := h; subst e; exact o.vw
  | sl i =>
    obtain ⟨v', e', q⟩ := rl.vw (i := i) e
    rw [h.1] at e'; cases e'; exact q
end

/-- what is new stands at an address that was free -/
def Nw (H : Hp) (v : V) : R → Prop
  | .tm _ => ∀ x, v = .ref x → H x = none
  | _ => True
theorem Nw.back {F F1 : Addr → Prop} {w : World} {H H1 : Hp} {σ : St} {st st1 : Sg} {v : V} {r : R} (a : Aft F w H σ st F1 H1 st1) (n : Nw H1 v r) : Nw H v r := by
  cases r with
  | tm d =>
    intro x e
    cases q : H x with
    | none => rfl
    | some o => exact absurd (n x e) (a.stp.th x (by rw [q]; exact nofun))
  | _ => trivial
/-- an expression that does what f says -/
def tS (w : World) (f : Sg → Option (R × Sg)) : TE := fun σ H Q => ∃ F st r st', Fok F H ∧ Rl F w H σ st ∧ f st = some (r, st') ∧
  ∀ v F' H', Aft F w H σ st F' H' st' → RR F' w H' σ st' v r → Nw H v r → Q v H'
def tB' (w : World) (f : Sg → Option (Bool × Sg)) : TT := fun σ H Q => ∃ F st b st', Fok F H ∧ Rl F w H σ st ∧ f st = some (b, st') ∧
  ∀ F' H', Aft F w H σ st F' H' st' → Q b H'
end Nv
end
section
set_option Elab.async false
set_option linter.all false
set_option maxRecDepth 100000
set_option maxHeartbeats 4000000
namespace Nv
open PySem PySem.Spec PyProof.Rows L2

/-- a new value, or one that stands -/
def RN (F : Addr → Prop) (w : World) (H' H : Hp) (v : V) : R → Prop
  | .im d => Rp F w H' v d
  | .tm d => ∃ a, v = .ref a ∧ Own F w H' a d ∧ ¬ F a ∧ H a = none
  | .sl _ => False
/-- nothing that stands is changed -/
def QN (F : Addr → Prop) (w : World) (H : Hp) (r : R) : VK := fun v H' => ∃ F', Stp F H (fun _ => False) (fun _ => False) F' H' ∧ Fok F' H' ∧ RN F' w H' H v r
section
variable {F : Addr → Prop} {w : World} {H : Hp}
theorem QN.same (fo : Fok F H) {v : V} {d : D} (h : Rp F w H v d) : QN F w H (.im d) v H := ⟨F, .refl, fo, h⟩
theorem QN.int (fo : Fok F H) (i : Int) : QN F w H (.im (.int i)) (.int i) H := .same fo (.int i)
theorem QN.bl (fo : Fok F H) (i : Bool) : QN F w H (.im (.bool i)) (.bl i) H := .same fo (.bl i)
theorem stp_new {p : Addr} {o : HO} (fo : Fok F H) (n : H p = none) : Stp F H (fun _ => False) (fun _ => False) F (upd H p o) :=
  ⟨fun _ h => h, fun _ h => .inl h, fun a h _ => upd_ne fun e => h (by rw [e]; exact n), fun a h => by
    rw [upd_ne fun e => h (by rw [e]; exact n)]; exact h⟩
theorem keep_new {p : Addr} {o : HO} (fo : Fok F H) (n : H p = none) : Keep F H F (upd H p o) :=
  ⟨fun _ h => h, fun a h => upd_ne fun e => fo a h (by rw [e]; exact n)⟩
/-- F and one more -/
def plus (F : Addr → Prop) (p : Addr) : Addr → Prop := fun a => F a ∨ a = p
theorem keep_plus {p : Addr} : Keep F H (plus F p) H := ⟨fun _ h => .inl h, fun _ _ => rfl⟩
theorem fok_new {p : Addr} {o : HO} (fo : Fok F H) : Fok F (upd H p o) := fun a h => by
  by_cases e : a = p
  · rw [e, upd_same]; exact fun z => by cases z
  · rw [upd_ne e]; exact fo a h
theorem fok_plus {p : Addr} (fo : Fok F H) (h : H p ≠ none) : Fok (plus F p) H := fun a q => q.elim (fo a) fun e => by rw [e]; exact h
theorem QN.tup (fo : Fok F H) {p : Addr} {xs : List V} {ds : List D} (n : H p = none) (r : RpA F w H xs ds) : QN F w H (.im (.tuple ds)) (.ref p) (upd H p (.tup xs)) := by
  refine ⟨plus F p, ⟨fun _ h => .inl h, fun a h => h.elim .inl fun e => .inr (.inl (by rw [e]; exact n)), (stp_new fo n).kp, (stp_new fo n).th⟩, fok_plus (fok_new fo) (by rw [upd_same]; exact fun z => by cases z), ?_⟩
  exact .tup (.inr rfl) (.inl upd_same) (r.stay ((keep_new fo n).trans keep_plus))
theorem QN.lst (fo : Fok F H) {p : Addr} {xs : List V} {ds : List D} (n : H p = none) (r : RpA F w H xs ds) : QN F w H (.tm (.list ds)) (.ref p) (upd H p (.lst xs)) :=
  ⟨F, stp_new fo n, fok_new fo, p, rfl, .lst upd_same (r.stay (keep_new fo n)), fun z => fo p z n, n⟩
theorem lim_line {n : Nat} (h : n ≤ lim) : n ≤ sizeLine := by rw [sizeLine_eq]; exact h
theorem small64_pow {i : Int} (h : small64 i = true) : -(2 ^ 64) < i ∧ i < 2 ^ 64 := by
  unfold small64 at h
  have h := of_decide_eq_true h
  omega
end

def opOf : Bop → Operator
  | .add => .Add | .sub => .Sub | .mul => .Mult | .fdiv => .FloorDiv | .mod => .Mod | .pow => .Pow | .shl => .LShift
def rBin (w : World) (o : Bop) : R2 := fun x y H Q => ∃ F d e r, Fok F H ∧ Vw F w H x d ∧ Vw F w H y e ∧ binD o d e = some r ∧ ∀ v H', QN F w H r v H' → Q v H'

theorem tuple_mul1 (l : Addr) (items : Array Value) (n : Nat) (dd : Option Addr) (sl : Array (Option Value)) (x : Int) (u : Tok) (c0 : (decide (x < -(2 ^ 63)) || decide (x ≥ 2 ^ 63)) = false) (c1 : (items.isEmpty || x == 1) = true) :
    Meets (Builtin.«tuple.__mul__» ⟨[.ref l, .int x u], []⟩) (fun _ R s => s.heap.get? l = some { cls := .type "tuple", dict := dd, data := .seq items n, slots := sl } ∧
      R (.ok (.ret (Value.ref l))) s) :=
  .of_wp fun prog w A R s h => by
    obtain ⟨hp, g, d, tk, os⟩ := s
    obtain ⟨hl, h⟩ := h
    have f1 := AutoSeq1.idx_int
    wp_walk using wpAny_loadPart' hl
    repeat (first
      | (refine wpAny_ite_false (decide_eq_false (by rw [c0]; exact Bool.false_ne_true)) ?_; wp_walk using wpAny_loadPart' hl)
      | (refine wpAny_ite_true (decide_eq_true (by rw [c1])) ?_; wp_walk using wpAny_loadPart' hl))
    exact ⟨_, rfl, h⟩
theorem tuple_mul0 (l : Addr) (items : Array Value) (n : Nat) (dd : Option Addr) (sl : Array (Option Value)) (x : Int) (u : Tok) (c0 : (decide (x < -(2 ^ 63)) || decide (x ≥ 2 ^ 63)) = false) (c1 : (items.isEmpty || x == 1) = false) (c2 : (decide (x ≤ 0) || items.isEmpty) = true) :
    Meets (Builtin.«tuple.__mul__» ⟨[.ref l, .int x u], []⟩) (fun _ R s => s.heap.get? l = some { cls := .type "tuple", dict := dd, data := .seq items n, slots := sl } ∧
      R (.ok (.ret (Value.ref s.heap.objs.size))) { s with heap := s.heap.push { cls := Value.type "tuple", data := Data.seq #[] }, toks := s.toks }) :=
  .of_wp fun prog w A R s h => by
    obtain ⟨hp, g, d, tk, os⟩ := s
    obtain ⟨hl, h⟩ := h
    have f1 := AutoSeq1.idx_int
    wp_walk using wpAny_loadPart' hl
    repeat (first
      | (refine wpAny_ite_false (decide_eq_false (by rw [c0]; exact Bool.false_ne_true)) ?_; wp_walk using wpAny_loadPart' hl)
      | (refine wpAny_ite_false (decide_eq_false (by rw [c1]; exact Bool.false_ne_true)) ?_; wp_walk using wpAny_loadPart' hl)
      | (refine wpAny_ite_true (decide_eq_true (by rw [c2])) ?_; wp_walk using wpAny_loadPart' hl))
    exact ⟨_, rfl, h⟩
section
variable {X : Cx}
def rRepA (K : PySem.W.Frag) : R2 := fun x y H Q => ∃ l k xs, x = .ref l ∧ y = .int k ∧ SqT K H l xs ∧ k ≤ 1000 ∧ -1000 ≤ k ∧ xs.length ≤ 1000 ∧
  ((xs = [] ∨ k = 1) → Q (.ref l) H) ∧ (¬ (xs = [] ∨ k = 1) → ∀ p, H p = none → Q (.ref p) (upd H p (.tup (List.replicate k.toNat xs).flatten)))
theorem op_repA : OpR X (binaryOp .Mult) (rRepA X.K) := by
  intro pins s σ H x y v u Q I rx ry h
  obtain ⟨l, k, xs, rfl, rfl, hT, h1, h2, hz, q1, q2⟩ := h
  by_cases h3 : ¬ (xs = [] ∨ k = 1) ∧ 2 ≤ k
  · exact op_repT pins s σ H _ _ v u Q I rx ry ⟨l, k, xs, rfl, rfl, hT, fun z => h3.1 (.inl z), h3.2, h1, hz, q2 h3.1⟩
  cases rx
  obtain ⟨t, rfl⟩ := ry
  obtain ⟨its, r, ⟨⟨cls, dd, data, sl⟩, ho, hc, n, hd⟩, hs⟩ := I.tuple hT
  simp only at hc hd
  subst hc hd
  have hle : its.length = xs.length := r.length.symm
  have c0 : (decide (k < -(2 ^ 63)) || decide (k ≥ 2 ^ 63)) = false := by
    rw [decide_eq_false (by omega), decide_eq_false (by omega)] <;> rfl
  have road := fun (R : Result → Shared → Prop) (P : Prop) => True
  by_cases h4 : xs = [] ∨ k = 1
  · have c1 : (its.toArray.isEmpty || k == 1) = true := by
      rcases h4 with z | z
      · rw [z] at hle
        have : its = [] := List.eq_nil_of_length_eq_zero hle
        rw [this]; rfl
      · rw [z]; simp
    refine wpAny_binaryOp_repeat_ref (T := "tuple") (U := "int") (by decide) ⟨_, ho, rfl⟩ (fun s' => typeIs_int s' k t) noFill_tuple_mul F.fills_int_mul F.slot_int_rmul repeat_tuple F.slot_int_index.lookup
      (call_meets F.slot_int_rmul (typeIs_int s k t) F.entry_int_rmul (F.args_int_rmul_2 _ _) (int_rmul_tuple k t l its.toArray n dd sl)
        ⟨ho, rfl, ⟨_, ho, rfl⟩, call_meets F.slot_tuple_mul ⟨_, ho, rfl⟩ F.entry_tuple_mul (F.args_tuple_mul_2 _ _) (tuple_mul1 l its.toArray n dd sl k t c0 c1) ⟨ho, ?_⟩⟩)
    exact ⟨.ref l, H, I, rfl, q1 h4⟩
  · have hx : xs ≠ [] := fun z => h4 (.inl z)
    have hk : k ≠ 1 := fun z => h4 (.inr z)
    have hk0 : k ≤ 0 := by
      refine Int.not_lt.mp fun z => h3 ⟨h4, ?_⟩
      omega
    have hn : its ≠ [] := fun e => hx (by rw [e] at hle; exact List.eq_nil_of_length_eq_zero hle.symm)
    have hi : its.toArray.isEmpty = false := by
      cases its with
      | nil => exact absurd rfl hn
      | cons a b => rfl
    have c1 : (its.toArray.isEmpty || k == 1) = false := by rw [hi, Bool.false_or]; exact beq_eq_false_iff_ne.mpr hk
    have c2 : (decide (k ≤ 0) || its.toArray.isEmpty) = true := by rw [decide_eq_true hk0]; rfl
    refine wpAny_binaryOp_repeat_ref (T := "tuple") (U := "int") (by decide) ⟨_, ho, rfl⟩ (fun s' => typeIs_int s' k t) noFill_tuple_mul F.fills_int_mul F.slot_int_rmul repeat_tuple F.slot_int_index.lookup
      (call_meets F.slot_int_rmul (typeIs_int s k t) F.entry_int_rmul (F.args_int_rmul_2 _ _) (int_rmul_tuple k t l its.toArray n dd sl)
        ⟨ho, rfl, ⟨_, ho, rfl⟩, call_meets F.slot_tuple_mul ⟨_, ho, rfl⟩ F.entry_tuple_mul (F.args_tuple_mul_2 _ _) (tuple_mul0 l its.toArray n dd sl k t c0 c1 c2) ⟨ho, ?_⟩⟩)
    have e0 : (List.replicate k.toNat xs).flatten = [] := by
      have : k.toNat = 0 := by omega
      rw [this]; rfl
    refine ⟨.ref s.heap.objs.size, _, I.laid (t' := s.toks) (o := .tup (List.replicate k.toNat xs).flatten) (fun b ob q => Heap.get?_push_of_some _ q) (Nat.le_refl _) ?_, rfl, q2 h4 _ (I.hok.fresh (Nat.le_refl _))⟩
    rw [e0]
    exact ⟨Nat.zero_le _, [], .nil, IsTup.new _ _⟩
theorem Inv.lstR {pins : List (Addr × Obj)} {σ : St} {H : Hp} {s : Shared} {l : Addr} {xs : List V} (I : L2.Inv X pins σ H s) (hH : Rd H l (.lst xs)) : xs.length ≤ sizeLine ∧ ∃ (its : List Value) (n : Nat), Vals xs its ∧ xs.length = its.length ∧ s.heap.get? l = some { cls := .type "list", data := .seq its.toArray n } := by
  obtain ⟨z, its, n, r, e⟩ := hH.ok I.hok
  exact ⟨z, its, n, r, r.length, e⟩
def rCatL : R2 := fun x y H Q => ∃ l b xs zs, x = .ref l ∧ y = .ref b ∧ Rd H l (.lst xs) ∧ Rd H b (.lst zs) ∧ xs.length + zs.length ≤ sizeLine ∧ ∀ p, H p = none → Q (.ref p) (upd H p (.lst (xs ++ zs)))
theorem op_catL : OpR X (binaryOp .Add) rCatL := by
  intro pins s σ H x y v u Q I rx ry h
  obtain ⟨l, b, xs, zs, rfl, rfl, hH, hB, hz, q⟩ := h
  cases rx
  cases ry
  obtain ⟨z, its, n, r, hl, e⟩ := Inv.lstR I hH
  obtain ⟨z2, its2, n2, r2, hl2, e2⟩ := Inv.lstR I hB
  refine PySem.P.add_list e e2 ?_ (by rw [List.size_toArray, List.size_toArray]; omega)
  have ea : its.toArray ++ its2.toArray = (its ++ its2).toArray := by simp
  rw [ea]
  exact ⟨.ref _, _, I.lnew (t' := s.toks) (r.append r2) (by rw [List.length_append]; omega), rfl, q _ I.fresh⟩
def rRepL : R2 := fun x y H Q => ∃ l k xs, x = .ref l ∧ y = .int k ∧ Rd H l (.lst xs) ∧ -(2 ^ 63) ≤ k ∧ k < 2 ^ 63 ∧ xs.length * k.toNat ≤ sizeLine ∧
  ∀ p, H p = none → Q (.ref p) (upd H p (.lst (List.replicate k.toNat xs).flatten))
theorem op_repL : OpR X (binaryOp .Mult) rRepL := by
  intro pins s σ H x y v u Q I rx ry h
  obtain ⟨l, k, xs, rfl, rfl, hH, h1, h2, hz, q⟩ := h
  cases rx
  obtain ⟨t, rfl⟩ := ry
  obtain ⟨z, its, n, r, hl, e⟩ := Inv.lstR I hH
  have hlen : its.toArray.size * k.toNat ≤ sizeLine := by rw [List.size_toArray, ← hl]; exact hz
  have hcap : ¬ its.toArray.size * k.toNat > (2 ^ 63 - 1) / 8 := by
    have : (sizeLine : Nat) ≤ (2 ^ 63 - 1) / 8 := by decide
    omega
  have hfit : ¬ (!Builtin.List.listFitsIndex k) = true := by
    rw [fitsIndex_both h1 h2]
    exact Bool.false_ne_true
  have hlong : ¬ Builtin.List.listTooLong (its.toArray.size * k.toNat) = true := by
    rw [notLongL hlen]
    exact Bool.false_ne_true
  have hnew : List.foldl (fun x1 x2 => x1 ++ x2) #[] (List.replicate (if its.toArray.isEmpty = true then 0 else k.toNat) its.toArray) = (List.replicate k.toNat its).flatten.toArray := by
    have f0 : ∀ m : Nat, List.foldl (fun x1 x2 => x1 ++ x2) #[] (List.replicate m its.toArray) = (List.replicate m its).flatten.toArray := fun m => by
      have := foldl_rep its m []
      rw [List.nil_append] at this
      exact this
    rw [f0]
    cases its with
    | nil => simp
    | cons a r' => rw [if_neg (by simp)]
  refine wpAny_binaryOp_repeat_ref (T := "list") (U := "int") (by decide) ⟨_, e, rfl⟩ (fun s' => typeIs_int s' k t) noFill_list_mul F.fills_int_mul F.slot_int_rmul repeat_list F.slot_int_index.lookup
    (call_meets F.slot_int_rmul (typeIs_int s k t) F.entry_int_rmul (F.args_int_rmul_2 _ _) (int___rmul___int_list k t l its.toArray n)
      ⟨e, rfl, ⟨_, e, rfl⟩, call_meets F.slot_list_mul ⟨_, e, rfl⟩ F.entry_list_mul (F.args_list_mul_2 _ _) (AutoListH.list___mul___list_int_3 l its.toArray n k t hfit hcap hlong) ⟨e, ?_⟩⟩)
  rw [hnew]
  exact ⟨.ref _, _, I.lnew (t' := s.toks) (r.rep k.toNat) (by rw [PyProof.Rows.lm_len_rep_flat, Nat.mul_comm]; exact hz), rfl, q _ I.fresh⟩
theorem bin_ii {i j : Int} {x y : V} {F : Addr → Prop} {w : World} {H : Hp} (h1 : Vw F w H x (.int i)) (h2 : Vw F w H y (.int j)) : x = .int i ∧ y = .int j := ⟨h1.int, h2.int⟩
theorem op_bin (o : Bop) (w : World) : OpR X (binaryOp (opOf o)) (rBin w o) := by
  intro pins s σ H x y v u Q I rx ry h
  obtain ⟨F, d, e, r, fo, hx, hy, hb, q⟩ := h
  unfold binD at hb
  split at hb
  · cases hb; obtain rfl := hx.int; obtain rfl := hy.int
    exact op_add pins s σ H _ _ v u Q I rx ry ⟨_, _, rfl, rfl, q _ _ (.int fo _)⟩
  · cases hb; obtain rfl := hx.bl; obtain rfl := hy.bl; cases rx; cases ry
    exact add_bool ⟨.int _, H, I.tok _, ⟨_, rfl⟩, q _ _ (.int fo _)⟩
  · cases hb; obtain rfl := hx.int; obtain rfl := hy.bl; cases ry; obtain ⟨t, rfl⟩ := rx
    exact add_int_bool ⟨.int _, H, I.tok _, ⟨_, rfl⟩, q _ _ (.int fo _)⟩
  · split at hb
    · rename_i xs ys hl
      cases hb
      obtain ⟨a, vs, rfl, ha, ra, fa⟩ := hx.tuple
      obtain ⟨b, us, rfl, hb, rb, fb⟩ := hy.tuple
      refine op_catA pins s σ H _ _ v u Q I rx ry ⟨a, b, vs, us, rfl, rfl, .inl ha, .inl hb, lim_line (by rw [ra.length, rb.length]; exact hl), fun e => ?_, fun _ e => ?_, fun _ _ p n => q _ _ (.tup fo n (ra.app rb))⟩
      · subst e
        have : xs = [] := List.eq_nil_of_length_eq_zero ra.length.symm
        subst this
        exact q _ _ (.same fo (.tup fb hb rb))
      · subst e
        have : ys = [] := List.eq_nil_of_length_eq_zero rb.length.symm
        subst this
        rw [List.append_nil] at q
        exact q _ _ (.same fo (.tup fa ha ra))
    · cases hb
  · split at hb
    · rename_i xs ys hl
      cases hb
      obtain ⟨a, vs, rfl, ha, ra⟩ := hx.list
      obtain ⟨b, us, rfl, hb, rb⟩ := hy.list
      exact op_catL pins s σ H _ _ v u Q I rx ry ⟨a, b, vs, us, rfl, rfl, ha, hb, lim_line (by rw [ra.length, rb.length]; exact hl), fun p n => q _ _ (.lst fo n (ra.app rb))⟩
    · cases hb
  · split at hb
    · rename_i hl
      cases hb; obtain rfl := hx.str; obtain rfl := hy.str
      exact op_add_str pins s σ H _ _ v u Q I rx ry ⟨_, _, rfl, rfl, lim_line hl, q _ _ (.same fo (.str _))⟩
    · cases hb
  · cases hb; obtain rfl := hx.int; obtain rfl := hy.int
    exact op_sub pins s σ H _ _ v u Q I rx ry ⟨_, _, rfl, rfl, q _ _ (.int fo _)⟩
  · split at hb
    · rename_i hl
      cases hb; obtain rfl := hx.int; obtain rfl := hy.int
      refine op_mul pins s σ H _ _ v u Q I rx ry ⟨_, _, rfl, rfl, ?_, q _ _ (.int fo _)⟩
      rw [Bool.or_eq_true] at hl
      exact hl.imp small64_pow small64_pow
    · cases hb
  · split at hb
    · rename_i xs n hl
      cases hb; obtain rfl := hy.int
      obtain ⟨a, vs, rfl, ha, ra, fa⟩ := hx.tuple
      refine op_repA pins s σ H _ _ v u Q I rx ry ⟨a, n, vs, rfl, rfl, .inl ha, hl.2.1, hl.1, by rw [ra.length]; exact hl.2.2, fun e => ?_, fun _ p np => q _ _ (.tup fo np (ra.rep _))⟩
      rcases e with e | e
      · subst e
        have : xs = [] := List.eq_nil_of_length_eq_zero ra.length.symm
        subst this
        have e2 : (List.replicate n.toNat ([] : List D)).flatten = [] := by simp
        rw [e2] at q
        exact q _ _ (.same fo (.tup fa ha ra))
      · subst e
        have e2 : (List.replicate (1 : Int).toNat xs).flatten = xs := by simp
        rw [e2] at q
        exact q _ _ (.same fo (.tup fa ha ra))
    · cases hb
  · split at hb
    · rename_i xs n hl
      cases hb; obtain rfl := hy.int
      obtain ⟨a, vs, rfl, ha, ra⟩ := hx.list
      exact op_repL pins s σ H _ _ v u Q I rx ry ⟨a, n, vs, rfl, rfl, ha, by omega, by omega, lim_line (by rw [ra.length]; exact hl.2.2), fun p np => q _ _ (.lst fo np (ra.rep _))⟩
    · cases hb
  · split at hb
    · rename_i hl
      cases hb; obtain rfl := hx.int; obtain rfl := hy.int
      exact op_fdivN pins s σ H _ _ v u Q I rx ry ⟨_, _, rfl, rfl, hl, q _ _ (.int fo _)⟩
    · cases hb
  · split at hb
    · rename_i hl
      cases hb; obtain rfl := hx.int; obtain rfl := hy.int
      exact op_modN pins s σ H _ _ v u Q I rx ry ⟨_, _, rfl, rfl, hl, q _ _ (.int fo _)⟩
    · cases hb
  · split at hb
    · rename_i hl
      cases hb; obtain rfl := hx.int; obtain rfl := hy.int
      exact op_pow pins s σ H _ _ v u Q I rx ry ⟨_, _, rfl, rfl, hl, q _ _ (.int fo _)⟩
    · cases hb
  · split at hb
    · rename_i hl
      cases hb; obtain rfl := hx.int; obtain rfl := hy.int
      exact op_shl pins s σ H _ _ v u Q I rx ry ⟨_, _, rfl, rfl, hl, q _ _ (.int fo _)⟩
    · cases hb
  · cases hb
end
end Nv
end
section
set_option Elab.async false
set_option linter.all false
set_option maxRecDepth 100000
set_option maxHeartbeats 4000000
namespace Nv
open PySem PySem.Spec PyProof.Rows L2

section
variable {F : Addr → Prop} {w : World} {H : Hp} {K : PySem.W.Frag}
mutual
theorem Rp.dp : ∀ {v : V} {d : D}, Rp F w H v d → d.canLay0 = true → Dp K H v d
  | _, _, .non, _ => .non
  | _, _, .bl b, _ => .bl b
  | _, _, .int i, _ => .int i
  | _, _, .str x, _ => .str x
  | _, _, .lst f h r, e => .lst (.inl h) (RpA.dp r (by simpa only [PyData.canLay0] using e))
  | _, _, .tup f h r, e => .tup (.inl h) (RpA.dp r (by simpa only [PyData.canLay0] using e))
  | _, _, .dct f h r, e => by simp [PyData.canLay0] at e
theorem RpA.dp : ∀ {vs : List V} {ds : List D}, RpA F w H vs ds → PyData.canLayAll0 ds = true → DpAll K H vs ds
  | _, _, .nil, _ => .nil
  | _, _, .cons r t, e => by
    simp only [PyData.canLayAll0, Bool.and_eq_true] at e
    exact .cons (Rp.dp r e.1) (RpA.dp t e.2)
end
theorem Vw.dp {v : V} {d : D} (h : Vw F w H v d) (e : d.canLay0 = true) : Dp K H v d := by
  cases h with
  | of r => exact r.dp e
  | lst h r => exact .lst (.inl h) (r.dp (by simpa only [PyData.canLay0] using e))
  | dct h r => simp [PyData.canLay0] at e
end

def cOf : Cop → CmpOp
  | .eq => .Eq | .ne => .NotEq | .lt => .Lt | .le => .LtE | .gt => .Gt | .ge => .GtE | .inn => .In | .nin => .NotIn | .is => .Is | .isnt => .IsNot
def rCmp (w : World) (o : Cop) : R2 := fun x y H Q => ∃ F d e k, Fok F H ∧ Vw F w H x d ∧ Vw F w H y e ∧ cmpD o d e = some k ∧ Q (.bl k) H

section
variable {X : Cx} {pins : List (Addr × Obj)} {s : Shared} {σ : St} {H : Hp} {F : Addr → Prop} {w : World} {x y : V} {v u : Value} {d e : D} {Q : VK}
theorem isl (I : L2.Inv X pins σ H s) {a : Addr} {xs : List V} (h : Rd H a (.lst xs)) : ∃ its : List Value, Vals xs its ∧ s.heap.IsList a its.toArray := by
  obtain ⟨its, r, p, _⟩ := I.list (.inl h)
  exact ⟨its, r, p.isList⟩
theorem ist (I : L2.Inv X pins σ H s) {a : Addr} {xs : List V} (h : Rd H a (.tup xs)) : ∃ its : List Value, Vals xs its ∧ IsTup s.heap a its.toArray := by
  obtain ⟨its, r, p, _⟩ := I.tuple (.inl h)
  exact ⟨its, r, p⟩
theorem len_of {us : List Value} {vs : List V} {ds : List D} (r : Vals vs us) (q : RpA F w H vs ds) : us.toArray.size = ds.length := by
  rw [List.size_toArray, ← r.length, q.length]
theorem isE {α : Type} (l : List α) : l.isEmpty = (l.length == 0) := by cases l <;> rfl
/-- .. against an empty list, an empty tuple -/
theorem eq_empty (I : L2.Inv X pins σ H s) (hu : X.A.units < cLine) (rx : RelV x v) (ry : RelV y u) (hx : Vw F w H x d) (hy : Vw F w H y e) (k : Bool)
    (h : (∃ xs ys, d = .list xs ∧ e = .list ys ∧ (xs = [] ∨ ys = []) ∧ k = (xs.isEmpty && ys.isEmpty)) ∨ (∃ xs ys, d = .tuple xs ∧ e = .tuple ys ∧ (xs = [] ∨ ys = []) ∧ k = (xs.isEmpty && ys.isEmpty))) :
    SeqAt.RcAt X.A s v u k ∧ SeqAt.RcNeAt X.A s v u (!k) := by
  rcases h with ⟨xs, ys, rfl, rfl, hn, rfl⟩ | ⟨xs, ys, rfl, rfl, hn, rfl⟩
  · obtain ⟨a, vs, rfl, ha, ra⟩ := hx.list
    obtain ⟨b, us, rfl, hb, rb⟩ := hy.list
    cases rx; cases ry
    obtain ⟨i1, r1, p1⟩ := isl I ha
    obtain ⟨i2, r2, p2⟩ := isl I hb
    have l1 := len_of r1 ra
    have l2 := len_of r2 rb
    by_cases hl : i1.toArray.size = i2.toArray.size
    · have z1 : xs = [] ∧ ys = [] := by
        rcases hn with z | z
        · refine ⟨z, List.eq_nil_of_length_eq_zero ?_⟩; rw [← l2, ← hl, l1, z]; rfl
        · refine ⟨List.eq_nil_of_length_eq_zero ?_, z⟩; rw [← l1, hl, l2, z]; rfl
      obtain ⟨rfl, rfl⟩ := z1
      have e0 : i1.toArray.size = 0 := l1
      have q1 := SeqAt.RcAt.lists (e := fun _ => true) p1 p2 hl hu fun j h1 _ => absurd h1 (by omega)
      have q2 := SeqAt.RcNeAt.lists (e := fun _ => true) p1 p2 hl hu fun j h1 _ => absurd h1 (by omega)
      rw [e0] at q1 q2
      exact ⟨q1, q2⟩
    · have hne : (i1.toArray.size != i2.toArray.size) = true := by simpa using hl
      have ek : (xs.isEmpty && ys.isEmpty) = false := by
        rw [isE, isE]
        cases h1 : (xs.length == 0) <;> cases h2 : (ys.length == 0) <;> try rfl
        exact absurd (by rw [l1, l2, beq_iff_eq.mp h1, beq_iff_eq.mp h2]) hl
      rw [ek]
      exact ⟨SeqAt.RcAt.lists_lengths p1 p2 hne hu, SeqAt.RcNeAt.lists_lengths p1 p2 hne hu⟩
  · obtain ⟨a, vs, rfl, ha, ra, _⟩ := hx.tuple
    obtain ⟨b, us, rfl, hb, rb, _⟩ := hy.tuple
    cases rx; cases ry
    obtain ⟨i1, r1, p1⟩ := ist I ha
    obtain ⟨i2, r2, p2⟩ := ist I hb
    have l1 := len_of r1 ra
    have l2 := len_of r2 rb
    have m0 : min i1.toArray.size i2.toArray.size = 0 := by
      rw [l1, l2]
      rcases hn with z | z <;> subst z <;> simp
    have q1 := SeqAt.RcAt.tuples (e := fun _ => true) p1 p2 hu fun j h1 h2 => absurd (show j < min i1.toArray.size i2.toArray.size by omega) (by omega)
    have q2 := SeqAt.RcNeAt.tuples (e := fun _ => true) p1 p2 hu fun j h1 h2 => absurd (show j < min i1.toArray.size i2.toArray.size by omega) (by omega)
    rw [m0, l1, l2] at q1 q2
    have ek : ((List.range 0).all (fun _ => true) && xs.length == ys.length) = (xs.isEmpty && ys.isEmpty) := by
      rw [isE, isE]
      rcases hn with z | z <;> subst z
      · cases ys <;> simp
      · cases xs <;> simp
    rw [ek] at q1 q2
    exact ⟨q1, q2⟩
theorem eq_both (I : L2.Inv X pins σ H s) (hu : X.A.units + 64 < cLine) (rx : RelV x v) (ry : RelV y u) (hx : Vw F w H x d) (hy : Vw F w H y e) {k : Bool} (h : eqD d e = some k) :
    SeqAt.RcAt X.A s v u k ∧ SeqAt.RcNeAt X.A s v u (!k) := by
  unfold eqD at h
  split at h
  · cases h; obtain rfl := hx.int; obtain rfl := hy.int
    obtain ⟨t, rfl⟩ := rx; obtain ⟨t', rfl⟩ := ry
    exact ⟨SeqAt.RcAt.int_int _ t _ t', SeqAt.RcNeAt.int_int _ t _ t'⟩
  · cases h; obtain rfl := hx.bl; obtain rfl := hy.bl
    cases rx; cases ry
    exact ⟨SeqAt.RcAt.bool_bool _ _, SeqAt.RcNeAt.bool_bool _ _⟩
  · cases h
    exact eq_empty I (by omega) rx ry hx hy _ (.inl ⟨_, _, rfl, rfl, .inr rfl, by rw [show ([] : List D).isEmpty = true from rfl, Bool.and_true]⟩)
  · cases h
    exact eq_empty I (by omega) rx ry hx hy _ (.inl ⟨_, _, rfl, rfl, .inl rfl, by rw [show ([] : List D).isEmpty = true from rfl, Bool.true_and]⟩)
  · cases h
    exact eq_empty I (by omega) rx ry hx hy _ (.inr ⟨_, _, rfl, rfl, .inr rfl, by rw [show ([] : List D).isEmpty = true from rfl, Bool.and_true]⟩)
  · cases h
    exact eq_empty I (by omega) rx ry hx hy _ (.inr ⟨_, _, rfl, rfl, .inl rfl, by rw [show ([] : List D).isEmpty = true from rfl, Bool.true_and]⟩)
  · split at h
    · rename_i hs
      cases h
      rw [Bool.and_eq_true] at hs
      obtain ⟨as, r1⟩ := Dp.reads I d x v (hx.dp (SeqAt.canLay_of_shaped hs.1)) rx
      obtain ⟨bs, r2⟩ := Dp.reads I e y u (hy.dp (SeqAt.canLay_of_shaped hs.2)) ry
      exact ⟨SeqAt.rcAt_reads r1 r2 (SeqAt.canLay_of_shaped hs.1) (SeqAt.canLay_of_shaped hs.2) (SeqAt.room_of_shaped hs.1 hu), SeqAt.rcNeAt_reads r1 r2 (SeqAt.canLay_of_shaped hs.1) (SeqAt.canLay_of_shaped hs.2) (SeqAt.room_of_shaped hs.1 hu)⟩
    · cases h
/-- all four orders -/
theorem lt_both (I : L2.Inv X pins σ H s) (hu : X.A.units + 64 < cLine) (rx : RelV x v) (ry : RelV y u) (hx : Vw F w H x d) (hy : Vw F w H y e) {k : Bool} (h : ltD d e = some k) :
    wpAny (model X.prog X.w) X.A (compareOp .Lt v u) (fun z s' => z = .bool k ∧ s' = s) X.xe s ∧ wpAny (model X.prog X.w) X.A (compareOp .GtE v u) (fun z s' => z = .bool (!k) ∧ s' = s) X.xe s ∧
    wpAny (model X.prog X.w) X.A (compareOp .Gt u v) (fun z s' => z = .bool k ∧ s' = s) X.xe s ∧ wpAny (model X.prog X.w) X.A (compareOp .LtE u v) (fun z s' => z = .bool (!k) ∧ s' = s) X.xe s := by
  unfold ltD at h
  split at h
  · rename_i i j
    cases h; obtain rfl := hx.int; obtain rfl := hy.int
    obtain ⟨t, rfl⟩ := rx; obtain ⟨t', rfl⟩ := ry
    have e1 : decide (j ≤ i) = !decide (i < j) := by by_cases q : i < j <;> simp [q] <;> omega
    exact ⟨lt_int ⟨rfl, rfl⟩, ge_int ⟨by rw [e1], rfl⟩, gt_int ⟨rfl, rfl⟩, le_int ⟨by rw [e1], rfl⟩⟩
  · cases h
  · split at h
    · rename_i hn _ hs
      cases h
      simp only [Bool.and_eq_true] at hs
      obtain ⟨as, r1⟩ := Dp.reads I d x v (hx.dp (SeqAt.canLay_of_shaped hs.1.2)) rx
      obtain ⟨bs, r2⟩ := Dp.reads I e y u (hy.dp (SeqAt.canLay_of_shaped hs.2)) ry
      have al := hs.1.1
      have al' : W.alike e d = true := by rw [W.alike_comm]; exact al
      have n1 : d ≠ .none := fun z => hn z
      have n2 : e ≠ .none := W.ne_none_both al n1
      have rm := SeqAt.room_of_shaped (db := e) hs.1.2 hu
      have rm' := SeqAt.room_of_shaped (db := d) hs.2 hu
      exact ⟨W.lt_data r1 r2 al n1 rm ⟨rfl, rfl⟩, W.ge_data r1 r2 al n1 rm ⟨rfl, rfl⟩, W.gt_data r2 r1 al' n2 rm' ⟨rfl, rfl⟩, W.le_data r2 r1 al' n2 rm' ⟨rfl, rfl⟩⟩
    · cases h
end
end Nv
end
section
set_option Elab.async false
set_option linter.all false
set_option maxRecDepth 100000
set_option maxHeartbeats 4000000
namespace Nv
open PySem PySem.Spec PyProof.Rows L2

mutual
theorem eqv_kk : ∀ {a b : D} {x y : NestedKey}, kk a = some x → kk b = some y → PyData.eqv a b = NestedKey.beq x y
  | .none, .none, _, _, ha, hb => by cases ha; cases hb; rfl
  | .none, .int _, _, _, ha, hb => by cases ha; cases hb; rfl
  | .none, .str _, _, _, ha, hb => by cases ha; cases hb; rfl
  | .none, .tuple ys, x, y, ha, hb => by
    cases ha
    obtain ⟨ks, h1, rfl⟩ := Option.map_eq_some_iff.mp (show (kkAll ys).map NestedKey.tup = some y from hb)
    rfl
  | .int _, .none, _, _, ha, hb => by cases ha; cases hb; rfl
  | .int i, .int j, _, _, ha, hb => by cases ha; cases hb; simp only [PyData.eqv, NestedKey.beq]; exact Bool.beq_eq_decide_eq i j
  | .int _, .str _, _, _, ha, hb => by cases ha; cases hb; rfl
  | .int _, .tuple ys, x, y, ha, hb => by
    cases ha
    obtain ⟨ks, h1, rfl⟩ := Option.map_eq_some_iff.mp (show (kkAll ys).map NestedKey.tup = some y from hb)
    rfl
  | .str _, .none, _, _, ha, hb => by cases ha; cases hb; rfl
  | .str _, .int _, _, _, ha, hb => by cases ha; cases hb; rfl
  | .str x, .str y, _, _, ha, hb => by cases ha; cases hb; simp only [PyData.eqv, NestedKey.beq]; exact Bool.beq_eq_decide_eq x y
  | .str _, .tuple ys, x, y, ha, hb => by
    cases ha
    obtain ⟨ks, h1, rfl⟩ := Option.map_eq_some_iff.mp (show (kkAll ys).map NestedKey.tup = some y from hb)
    rfl
  | .tuple xs, .tuple ys, x, y, ha, hb => by
    obtain ⟨ks, h1, rfl⟩ := Option.map_eq_some_iff.mp (show (kkAll xs).map NestedKey.tup = some x from ha)
    obtain ⟨ls, h2, rfl⟩ := Option.map_eq_some_iff.mp (show (kkAll ys).map NestedKey.tup = some y from hb)
    simp only [PyData.eqv, NestedKey.beq]
    exact eqv_kkAll h1 h2
  | .tuple xs, .none, x, y, ha, hb => by
    obtain ⟨ks, h1, rfl⟩ := Option.map_eq_some_iff.mp (show (kkAll xs).map NestedKey.tup = some x from ha)
    cases hb; rfl
  | .tuple xs, .int _, x, y, ha, hb => by
    obtain ⟨ks, h1, rfl⟩ := Option.map_eq_some_iff.mp (show (kkAll xs).map NestedKey.tup = some x from ha)
    cases hb; rfl
  | .tuple xs, .str _, x, y, ha, hb => by
    obtain ⟨ks, h1, rfl⟩ := Option.map_eq_some_iff.mp (show (kkAll xs).map NestedKey.tup = some x from ha)
    cases hb; rfl
  | .bool _, _, _, _, ha, _ => by cases ha
  | .list _, _, _, _, ha, _ => by cases ha
  | .dict _, _, _, _, ha, _ => by cases ha
  | _, .bool _, _, _, _, hb => by cases hb
  | _, .list _, _, _, _, hb => by cases hb
  | _, .dict _, _, _, _, hb => by cases hb
theorem eqv_kkAll : ∀ {as bs : List D} {xs ys : List NestedKey}, kkAll as = some xs → kkAll bs = some ys → PyData.eqvAll as bs = NestedKey.beqAll xs ys
  | [], [], _, _, ha, hb => by cases ha; cases hb; rfl
  | [], b :: bs, _, ys, ha, hb => by
    cases ha
    obtain ⟨k, h1, h2⟩ := Option.bind_eq_some_iff.mp (show (kk b).bind (fun k => (kkAll bs).map (k :: ·)) = some ys from hb)
    obtain ⟨ks, h3, rfl⟩ := Option.map_eq_some_iff.mp h2
    rfl
  | a :: as, [], xs, _, ha, hb => by
    cases hb
    obtain ⟨k, h1, h2⟩ := Option.bind_eq_some_iff.mp (show (kk a).bind (fun k => (kkAll as).map (k :: ·)) = some xs from ha)
    obtain ⟨ks, h3, rfl⟩ := Option.map_eq_some_iff.mp h2
    rfl
  | a :: as, b :: bs, xs, ys, ha, hb => by
    obtain ⟨k, h1, h2⟩ := Option.bind_eq_some_iff.mp (show (kk a).bind (fun k => (kkAll as).map (k :: ·)) = some xs from ha)
    obtain ⟨ks, h3, rfl⟩ := Option.map_eq_some_iff.mp h2
    obtain ⟨l, g1, g2⟩ := Option.bind_eq_some_iff.mp (show (kk b).bind (fun k => (kkAll bs).map (k :: ·)) = some ys from hb)
    obtain ⟨ls, g3, rfl⟩ := Option.map_eq_some_iff.mp g2
    simp only [PyData.eqvAll, NestedKey.beqAll]
    rw [eqv_kk h1 g1, eqv_kkAll h3 g3]
end
mutual
theorem kk_of_ok : ∀ {n : Nat} {d : D}, keyOk n d = true → ∃ x, kk d = some x ∧ x.depth ≤ n
  | n, .none, _ => ⟨_, rfl, by simp [NestedKey.depth]⟩
  | n, .int i, _ => ⟨_, rfl, by simp [NestedKey.depth]⟩
  | n, .str i, _ => ⟨_, rfl, by simp [NestedKey.depth]⟩
  | 0, .tuple xs, h => by simp [keyOk] at h
  | n + 1, .tuple xs, h => by
    obtain ⟨ks, e, hd⟩ := kkAll_of_ok (n := n) (ds := xs) (by simpa only [keyOk] using h)
    refine ⟨.tup ks, ?_, by simp only [NestedKey.depth]; omega⟩
    show (kkAll xs).map NestedKey.tup = _
    rw [e]; rfl
  | n, .bool _, h => by cases n <;> simp [keyOk] at h
  | n, .list _, h => by cases n <;> simp [keyOk] at h
  | n, .dict _, h => by cases n <;> simp [keyOk] at h
theorem kkAll_of_ok : ∀ {n : Nat} {ds : List D}, keyOkAll n ds = true → ∃ ks, kkAll ds = some ks ∧ NestedKey.depthAll ks ≤ n
  | n, [], _ => ⟨[], rfl, by simp [NestedKey.depthAll]⟩
  | n, d :: ds, h => by
    simp only [keyOkAll, Bool.and_eq_true] at h
    obtain ⟨k, h1, h2⟩ := kk_of_ok h.1
    obtain ⟨ks, h3, h4⟩ := kkAll_of_ok h.2
    refine ⟨k :: ks, ?_, by simp only [NestedKey.depthAll]; omega⟩
    show (kk d).bind (fun k => (kkAll ds).map (k :: ·)) = _
    rw [h1, h3]; rfl
end
theorem kk_kD (k : Key) : kk (kD k) = some (match k with | .inl i => NestedKey.num i | .inr x => .text x) := by cases k <;> rfl
theorem eqv_kD (a b : Key) : PyData.eqv (kD a) (kD b) = decide (a = b) := by
  rw [eqv_kk (kk_kD a) (kk_kD b), ← NestedKey.decide_eq]
  cases a <;> cases b <;> simp
theorem flat_key {d : D} (h : isFlat d = true) : ∃ k : Key, d = kD k := by
  cases d with
  | int i => exact ⟨.inl i, rfl⟩
  | str x => exact ⟨.inr x, rfl⟩
  | _ => cases h

section
variable {F : Addr → Prop} {w : World} {H : Hp}
theorem dget_cons (p : D × D) (r : List (D × D)) (k : D) : dget (p :: r) k = if PyData.eqv p.1 k = true then some p.2 else dget r k := by
  unfold dget
  rw [List.find?_cons]
  cases h : PyData.eqv p.1 k <;> simp
theorem PK.get : ∀ {kv : List (Key × V)} {kvs : List (D × D)}, PK F w H kv kvs → ∀ k : Key, (match dget kvs (kD k) with | none => valV kv k = none | some d => ∃ v, valV kv k = some v ∧ Rp F w H v d)
  | _, _, .nil, k => rfl
  | (k', v) :: kv, (_, d) :: kvs, .cons r t, k => by
    rw [dget_cons, eqv_kD]
    by_cases e : k' = k
    · rw [if_pos (decide_eq_true e)]
      exact ⟨v, valV_pos (p := (k', v)) e, r⟩
    · rw [if_neg (by rw [decide_eq_false e]; exact Bool.false_ne_true), valV_neg (p := (k', v)) e]
      exact PK.get t k
theorem PK.get_some {kv : List (Key × V)} {kvs : List (D × D)} (h : PK F w H kv kvs) {k : Key} {d : D} (e : dget kvs (kD k) = some d) : ∃ v, valV kv k = some v ∧ Rp F w H v d := by
  have := h.get k
  rw [e] at this
  exact this
theorem PK.get_none {kv : List (Key × V)} {kvs : List (D × D)} (h : PK F w H kv kvs) {k : Key} (e : dget kvs (kD k) = none) : valV kv k = none := by
  have := h.get k
  rw [e] at this
  exact this
theorem PK.app {kv kv' : List (Key × V)} {kvs kvs' : List (D × D)} (h : PK F w H kv kvs) (h' : PK F w H kv' kvs') : PK F w H (kv ++ kv') (kvs ++ kvs') := by
  induction kv generalizing kvs with
  | nil => cases h; exact h'
  | cons p kv ih => cases h with
    | cons r t => exact .cons r (ih t)
theorem PK.put {k : Key} {v : V} {d : D} (r : Rp F w H v d) : ∀ {kv : List (Key × V)} {kvs : List (D × D)}, PK F w H kv kvs → (kv.map (·.1)).Nodup → PK F w H (putK kv k v) (dput kvs (kD k) d)
  | [], [], .nil, _ => .cons r .nil
  | (k', v') :: kv, (_, d') :: kvs, .cons r' t, nd => by
    rw [List.map_cons, List.nodup_cons] at nd
    have ih := PK.put (k := k) r t nd.2
    by_cases e : k' = k
    · subst e
      have e1 : dput ((kD k', d') :: kvs) (kD k') d = (kD k', d) :: kvs := by
        show (if PyData.eqv (kD k') (kD k') = true then _ else _) = _
        rw [eqv_kD, if_pos (decide_eq_true rfl)]
      have e2 : putK ((k', v') :: kv) k' v = (k', v) :: kv := by
        unfold putK
        have h1 : (((k', v') :: kv).any fun x => decide (x.1 = k')) = true := by simp
        rw [if_pos h1, List.map_cons, if_pos rfl]
        congr 1
        refine (List.map_congr_left fun x hx => ?_).trans (List.map_id kv)
        have : x.1 ≠ k' := fun z => nd.1 (by show k' ∈ _; rw [← z]; exact List.mem_map.mpr ⟨x, hx, rfl⟩)
        rw [if_neg this]; rfl
      rw [e1, e2]
      exact .cons r t
    · have e1 : dput ((kD k', d') :: kvs) (kD k) d = (kD k', d') :: dput kvs (kD k) d := by
        show (if PyData.eqv (kD k') (kD k) = true then _ else _) = _
        rw [eqv_kD, if_neg (by rw [decide_eq_false e]; exact Bool.false_ne_true)]
      have e2 : putK ((k', v') :: kv) k v = (k', v') :: putK kv k v := by
        unfold putK
        have h1 : (((k', v') :: kv).any fun x => decide (x.1 = k)) = (kv.any fun x => decide (x.1 = k)) := by rw [List.any_cons, decide_eq_false e, Bool.false_or]
        rw [h1]
        by_cases q : (kv.any fun x => decide (x.1 = k)) = true
        · rw [if_pos q, if_pos q, List.map_cons, if_neg e]
        · rw [if_neg q, if_neg q]; rfl
      rw [e1, e2]
      exact .cons r' ih

/-- the entries with their values as the heap has them -/
abbrev NX : List (NestedKey × Addr × V) → List (NestedKey × Addr × Value) → Prop := Paired fun x y => x.1 = y.1 ∧ x.2.1 = y.2.1 ∧ RelV x.2.2 y.2.2
mutual
theorem Rp.nis {X : Cx} {pins : List (Addr × Obj)} {s : Shared} {σ : St} (I : L2.Inv X pins σ H s) : ∀ {v : V} {d : D} {u : Value} {k : NestedKey}, Rp F w H v d → RelV v u → kk d = some k → NestedIs s.heap k u
  | _, .none, u, _, h, r, e => by cases h; cases r; cases e; exact .none
  | _, .int i, u, _, h, r, e => by cases h; obtain ⟨t, rfl⟩ := r; cases e; exact .int _ _
  | _, .str x, u, _, h, r, e => by cases h; obtain ⟨t, rfl⟩ := r; cases e; exact .text _ _
  | _, .tuple ds, u, k, h, r, e => by
    cases h with
    | tup f h q =>
      cases r
      obtain ⟨its, rv, o, ho, hc, n, hd⟩ := ist I h
      obtain ⟨ks, h1, rfl⟩ := Option.map_eq_some_iff.mp (show (kkAll ds).map NestedKey.tup = some k from e)
      exact .tup ho hc hd (by simpa using RpA.nis I q rv h1)
  | _, .bool _, _, _, _, _, e => by cases e
  | _, .list _, _, _, _, _, e => by cases e
  | _, .dict _, _, _, _, _, e => by cases e
theorem RpA.nis {X : Cx} {pins : List (Addr × Obj)} {s : Shared} {σ : St} (I : L2.Inv X pins σ H s) : ∀ {vs : List V} {ds : List D} {us : List Value} {ks : List NestedKey}, RpA F w H vs ds → Vals vs us → kkAll ds = some ks → NestedAll s.heap ks us
  | _, [], us, _, h, r, e => by cases h; cases r; cases e; exact .nil
  | _, d :: ds, us, ks, h, r, e => by
    cases h with
    | cons h1 h2 =>
      cases r with
      | cons r1 r2 =>
        obtain ⟨k, e1, e2⟩ := Option.bind_eq_some_iff.mp (show (kk d).bind (fun k => (kkAll ds).map (k :: ·)) = some ks from e)
        obtain ⟨ks', e3, rfl⟩ := Option.map_eq_some_iff.mp e2
        exact .cons (Rp.nis I h1 r1 e1) (RpA.nis I h2 r2 e3)
end
theorem PN.all : ∀ {xs : List (NestedKey × Addr × V)} {kvs : List (D × D)}, PN F w H xs kvs → ∀ x ∈ xs, ∃ e, kk e = some x.1 ∧ keyOk 8 e = true ∧ Rp F w H (.ref x.2.1) e
  | _, _, .nil, _, h => by cases h
  | _, _, .cons a b c d e t, x, h => by
    rcases List.mem_cons.mp h with rfl | h
    · exact ⟨_, a, b, d⟩
    · exact PN.all t x h
theorem NX.mem {xs : List (NestedKey × Addr × V)} {ys : List (NestedKey × Addr × Value)} (h : NX xs ys) : ∀ y ∈ ys, ∃ x ∈ xs, x.1 = y.1 ∧ x.2.1 = y.2.1 := by
  unfold NX at h
  induction h with
  | nil => intro y hy; cases hy
  | cons r t ih =>
    intro y hy
    rcases List.mem_cons.mp hy with rfl | hy
    · exact ⟨_, List.mem_cons_self, r.1, r.2.1⟩
    · obtain ⟨x, hx, e⟩ := ih y hy
      exact ⟨x, List.mem_cons_of_mem _ hx, e⟩
theorem NX.keys {xs : List (NestedKey × Addr × V)} {ys : List (NestedKey × Addr × Value)} (h : NX xs ys) : ys.map (·.1) = xs.map (·.1) := by
  unfold NX at h
  induction h with
  | nil => rfl
  | cons r t ih => rw [List.map_cons, List.map_cons, ih, r.1]
theorem nx_of {P : Program} : ∀ {xs : List (NestedKey × Addr × V)} {es : List DictEntry}, Paired (fun (x : NestedKey × Addr × V) (e : DictEntry) => e.hash = x.1.hash w ∧ e.key = .ref x.2.1 ∧ RelV x.2.2 e.val) xs es →
    ∃ ys, NX xs ys ∧ es = ys.map (entryOfKey (nestedKind P w))
  | _, _, .nil => ⟨[], .nil, rfl⟩
  | (k, b, v) :: xs, e :: es, .cons r t => by
    obtain ⟨ys, h1, h2⟩ := nx_of t
    refine ⟨(k, b, e.val) :: ys, .cons ⟨rfl, rfl, r.2.2⟩ h1, ?_⟩
    rw [List.map_cons, ← h2]
    congr 1
    obtain ⟨hh, kk', vv⟩ := e
    obtain ⟨r1, r2, _⟩ := r
    simp only at r1 r2
    subst r1 r2
    rfl
theorem of_nx {P : Program} : ∀ {xs : List (NestedKey × Addr × V)} {ys : List (NestedKey × Addr × Value)}, NX xs ys →
    Paired (fun (x : NestedKey × Addr × V) (e : DictEntry) => e.hash = x.1.hash w ∧ e.key = .ref x.2.1 ∧ RelV x.2.2 e.val) xs (ys.map (entryOfKey (nestedKind P w)))
  | _, _, .nil => .nil
  | (k, b, v) :: xs, (k', b', u) :: ys, .cons r t => by
    obtain ⟨r1, r2, r3⟩ := r
    simp only at r1 r2
    subst r1 r2
    exact .cons ⟨rfl, rfl, r3⟩ (of_nx t)
/-- the dict as one of nested keys -/
theorem nest_of {X : Cx} {pins : List (Addr × Obj)} {s : Shared} {σ : St} (I : L2.Inv X pins σ H s) (hw : X.w = w) {a : Addr} {xs : List (NestedKey × Addr × V)} {kvs : List (D × D)} (hr : Rd H a (.ext (nestD w a xs))) (hp : PN F w H xs kvs) :
    (a == sysModules) = false ∧ xs.length ≤ sizeLine ∧ ∃ ys, NX xs ys ∧ s.heap.DictOfH (nestedKind X.prog X.w) a ys := by
  subst hw
  obtain ⟨⟨z, z2, nd, o, des, ep, ho, hx, hd, hq⟩, _⟩ := hr.ok I.hok
  obtain ⟨ys, h1, h2⟩ := nx_of (P := X.prog) hq
  refine ⟨z2, z, ys, h1, o, des, ep, ho, hx, hd, h2, fun y hy => ?_, by rw [h1.keys]; exact nd⟩
  obtain ⟨x, hx, e1, e2⟩ := h1.mem y hy
  obtain ⟨e, k1, k2, k3⟩ := hp.all x hx
  obtain ⟨k', q1, q2⟩ := kk_of_ok k2
  rw [k1] at q1; cases q1
  rw [← e1, ← e2]
  exact ⟨Rp.nis I k3 rfl k1, q2⟩
/-- an empty dict is one, too -/
theorem nest_empty {X : Cx} {pins : List (Addr × Obj)} {s : Shared} {σ : St} (I : L2.Inv X pins σ H s) {a : Addr} (hr : Rd H a (.dK [])) :
    (a == sysModules) = false ∧ s.heap.DictOfH (nestedKind X.prog X.w) a [] := by
  obtain ⟨z, z2, vs, rel, o, des, ep, ho, hx, hd, h1, h2, h3⟩ := dk_rd I.hok hr
  cases rel
  refine ⟨z2, o, des, ep, ho, hx, hd, ?_, fun x hx => (by cases hx), List.nodup_nil⟩
  generalize des.toList = l at h2
  cases h2
  rfl
theorem PN.get : ∀ {xs : List (NestedKey × Addr × V)} {kvs : List (D × D)} {ys : List (NestedKey × Addr × Value)}, PN F w H xs kvs → NX xs ys → ∀ {e : D} {k : NestedKey}, kk e = some k →
    (match dget kvs e with | none => atKey ys k = none | some d => ∃ p v, atKey ys k = some p ∧ RelV v p.2 ∧ Rp F w H v d)
  | _, _, _, .nil, .nil, e, k, _ => rfl
  | (k', b, v) :: xs, (e', d) :: kvs, (k2, b2, u) :: ys, .cons h1 h2 h3 h4 h5 t, .cons r rs, e, k, he => by
    obtain ⟨r1, r2, r3⟩ := r
    simp only at r1 r2
    subst r1 r2
    rw [dget_cons, eqv_kk h1 he, ← NestedKey.decide_eq]
    by_cases q : k' = k
    · rw [if_pos (decide_eq_true q)]
      exact ⟨(b, u), v, by simp [atKey, q], r3, h5⟩
    · rw [if_neg (by rw [decide_eq_false q]; exact Bool.false_ne_true)]
      have e1 : atKey ((k', b, u) :: ys) k = atKey ys k := by simp [atKey, List.find?_cons, q]
      rw [e1]
      exact PN.get t rs he
/-- an entry stored -/
def putN (xs : List (NestedKey × Addr × V)) (k : NestedKey) (b : Addr) (v : V) : List (NestedKey × Addr × V) :=
  match xs with
  | [] => [(k, b, v)]
  | x :: r => if x.1 = k then (x.1, x.2.1, v) :: r else x :: putN r k b v
theorem putN_ne (xs : List (NestedKey × Addr × V)) (k : NestedKey) (b : Addr) (v : V) : putN xs k b v ≠ [] := by
  cases xs with
  | nil => exact fun z => by cases z
  | cons x r => unfold putN; split <;> exact fun z => by cases z
theorem putN_len (k : NestedKey) (b : Addr) (v : V) : ∀ xs : List (NestedKey × Addr × V), (putN xs k b v).length ≤ xs.length + 1
  | [] => Nat.le_refl _
  | x :: r => by
    unfold putN
    have := putN_len k b v r
    split
    · simp
    · simp only [List.length_cons]; omega
theorem putN_keys (k : NestedKey) (b : Addr) (v : V) : ∀ xs : List (NestedKey × Addr × V), (xs.map (·.1)).Nodup → ((putN xs k b v).map (·.1)).Nodup ∧ ∀ j, j ∈ (putN xs k b v).map (·.1) → j = k ∨ j ∈ xs.map (·.1)
  | [], _ => ⟨by simp [putN], fun j h => .inl (by simpa [putN] using h)⟩
  | x :: r, nd => by
    rw [List.map_cons, List.nodup_cons] at nd
    obtain ⟨i1, i2⟩ := putN_keys k b v r nd.2
    unfold putN
    by_cases e : x.1 = k
    · rw [if_pos e]
      refine ⟨by rw [List.map_cons, List.nodup_cons]; exact nd, fun j h => .inr h⟩
    · rw [if_neg e]
      refine ⟨?_, fun j h => ?_⟩
      · rw [List.map_cons, List.nodup_cons]
        refine ⟨fun z => ?_, i1⟩
        rcases i2 _ z with q | q
        · exact e q
        · exact nd.1 q
      · rw [List.map_cons] at h
        rcases List.mem_cons.mp h with q | q
        · exact .inr (by rw [q]; exact List.mem_cons_self)
        · exact (i2 j q).imp id fun z => List.mem_cons_of_mem _ z
theorem PN.put {e d : D} {k : NestedKey} {b : Addr} {v : V} (h1 : kk e = some k) (h2 : keyOk 8 e = true) (h3 : isTup e = true) (h4 : Rp F w H (.ref b) e) (h5 : Rp F w H v d) :
    ∀ {xs : List (NestedKey × Addr × V)} {kvs : List (D × D)}, PN F w H xs kvs → PN F w H (putN xs k b v) (dput kvs e d)
  | _, _, .nil => .cons h1 h2 h3 h4 h5 .nil
  | (k', b', v') :: xs, (e', d') :: kvs, .cons g1 g2 g3 g4 g5 t => by
    show PN F w H (if k' = k then (k', b', v) :: xs else (k', b', v') :: putN xs k b v) (if PyData.eqv e' e = true then (e', d) :: kvs else (e', d') :: dput kvs e d)
    rw [eqv_kk g1 h1, ← NestedKey.decide_eq]
    by_cases q : k' = k
    · rw [if_pos q, if_pos (decide_eq_true q)]
      exact .cons g1 g2 g3 g4 h5 t
    · rw [if_neg q, if_neg (by rw [decide_eq_false q]; exact Bool.false_ne_true)]
      exact .cons g1 g2 g3 g4 g5 (PN.put h1 h2 h3 h4 h5 t)
theorem atKey_cons {K : Type} [DecidableEq K] (x : K × Addr × Value) (xs : List (K × Addr × Value)) (k : K) : atKey (x :: xs) k = if x.1 = k then some x.2 else atKey xs k := by
  by_cases e : x.1 = k <;> simp [atKey, List.find?_cons, e]
theorem atKey_nin {K : Type} [DecidableEq K] {k : K} : ∀ {ys : List (K × Addr × Value)}, k ∉ ys.map (·.1) → atKey ys k = none
  | [], _ => rfl
  | y :: ys, h => by
    rw [List.map_cons, List.mem_cons, not_or] at h
    rw [atKey_cons, if_neg (fun z => h.1 z.symm)]
    exact atKey_nin h.2
theorem NX.put {k : NestedKey} {b : Addr} {v : V} {u : Value} (rv : RelV v u) : ∀ {xs : List (NestedKey × Addr × V)} {ys : List (NestedKey × Addr × Value)}, NX xs ys → (xs.map (·.1)).Nodup → NX (putN xs k b v) (storedH ys k b u)
  | _, _, .nil, _ => .cons ⟨rfl, rfl, rv⟩ .nil
  | (k', b', v') :: xs, (k2, b2, u') :: ys, .cons r t, nd => by
    obtain ⟨r1, r2, r3⟩ := r
    simp only at r1 r2
    subst r1 r2
    rw [List.map_cons, List.nodup_cons] at nd
    have ih := NX.put (k := k) (b := b) rv t nd.2
    show NX (if k' = k then (k', b', v) :: xs else (k', b', v') :: putN xs k b v) _
    by_cases q : k' = k
    · subst q
      rw [if_pos rfl, storedH_old (p := (b', u')) (by rw [atKey_cons, if_pos rfl]), List.map_cons]
      refine .cons ⟨by simp [putAt], by simp [putAt], by simp [putAt]; exact rv⟩ ?_
      have e2 : ys.map (putAt k' u) = ys := by
        refine (List.map_congr_left fun y hy => ?_).trans (List.map_id ys)
        have : y.1 ≠ k' := fun z => nd.1 (by rw [← NX.keys t, ← z]; exact List.mem_map_of_mem hy)
        simp [putAt, this]
      rw [e2]; exact t
    · rw [if_neg q]
      cases h : atKey ys k with
      | none =>
        rw [storedH_new h] at ih
        rw [storedH_new (by rw [atKey_cons, if_neg q]; exact h), List.cons_append]
        exact .cons ⟨rfl, rfl, r3⟩ ih
      | some p =>
        rw [storedH_old h] at ih
        rw [storedH_old (p := p) (by rw [atKey_cons, if_neg q]; exact h), List.map_cons]
        refine .cons ?_ ih
        simp [putAt, q]; exact r3
end
end Nv
end
section
set_option Elab.async false
set_option linter.all false
set_option maxRecDepth 100000
set_option maxHeartbeats 4000000
namespace Nv
open PySem PySem.Spec PyProof.Rows L2

section
variable {X : Cx} {pins : List (Addr × Obj)} {s : Shared} {σ : St} {H : Hp} {F : Addr → Prop} {w : World} {a : Addr} {uo : HO} {kvs : List (D × D)} {y v : V} {k d : D} {ku vu : Value}

structure NestAt (X : Cx) (F : Addr → Prop) (w : World) (H : Hp) (s : Shared) (a : Addr) (uo : HO) (kvs : List (D × D)) (y : V) (k : D) (b : Addr) (nk : NestedKey) (xs : List (NestedKey × Addr × V)) (ys : List (NestedKey × Addr × Value)) : Prop where
  ey : y = .ref b
  ek : kk k = some nk
  ok : keyOk 8 k = true
  tp : isTup k = true
  sys : (a == sysModules) = false
  len : xs.length ≤ sizeLine
  pn : PN F w H xs kvs
  nx : NX xs ys
  nd : (xs.map (·.1)).Nodup
  dd : s.heap.DictOfH (nestedKind X.prog X.w) a ys
  is : (nestedKind X.prog X.w).is s.heap nk b
  eu : (uo = .dK []) ∨ uo = .ext (nestD w a xs)
/-- which kind of dict is asked -/
theorem dkey (I : L2.Inv X pins σ H s) (hw : X.w = w) (hr : Rd H a uo) (hc : Dc F w H a uo kvs) (hk : Rp F w H y k) (fits : keyFits kvs k = true) :
    (∃ kv key, uo = .dK kv ∧ PK F w H kv kvs ∧ k = kD key ∧ y = kV key) ∨ ∃ b nk xs ys, NestAt X F w H s a uo kvs y k b nk xs ys := by
  unfold keyFits at fits
  rw [Bool.and_eq_true, Bool.or_eq_true, Bool.and_eq_true] at fits
  obtain ⟨f1, f2⟩ := fits
  cases hc with
  | flat hp =>
    rename_i kv
    rcases f1 with f1 | ⟨f1, f3⟩
    · obtain ⟨key, rfl⟩ := flat_key f1
      refine .inl ⟨kv, key, rfl, hp, rfl, ?_⟩
      cases key <;> (cases hk; rfl)
    · cases hp with
      | cons r t =>
        rename_i k0 _ _ _ _
        have f2' : (isTup (kD k0) == isTup k) = true := f2
        rw [f1] at f2'
        cases k0 <;> cases f2'
      | nil =>
        obtain ⟨z2, dd⟩ := nest_empty I hr
        obtain ⟨nk, e1, e2⟩ := kk_of_ok f3
        obtain ⟨b, rfl⟩ : ∃ b, y = .ref b := by
          cases k with
          | tuple xs => cases hk; exact ⟨_, rfl⟩
          | _ => cases f1
        exact .inr ⟨b, nk, [], [], rfl, e1, f3, f1, z2, Nat.zero_le _, .nil, .nil, List.nodup_nil, dd, ⟨Rp.nis I hk rfl e1, e2⟩, .inl rfl⟩
  | nest hne hp =>
    rename_i xs
    obtain ⟨z2, z, ys, hx, dd⟩ := nest_of I hw hr hp
    have tp : isTup k = true ∧ keyOk 8 k = true := by
      cases hp with
      | nil => exact absurd rfl hne
      | cons h1 h2 h3 h4 h5 t =>
        have f2' := beq_iff_eq.mp (show (isTup _ == isTup k) = true from f2)
        rw [h3] at f2'
        refine ⟨f2'.symm, ?_⟩
        rcases f1 with f1 | f1
        · exfalso
          cases k <;> first | exact absurd (show true = false from f2') (by decide) | exact absurd (show false = true from f1) (by decide)
        · exact f1.2
    obtain ⟨nk, e1, e2⟩ := kk_of_ok tp.2
    obtain ⟨b, rfl⟩ : ∃ b, y = .ref b := by
      cases k with
      | tuple xs => cases hk; exact ⟨_, rfl⟩
      | _ => cases tp.1
    obtain ⟨⟨_, _, nd, _⟩, _⟩ := hr.ok I.hok
    exact .inr ⟨b, nk, xs, ys, rfl, e1, tp.2, tp.1, z2, z, hp, hx, nd, dd, ⟨Rp.nis I hk rfl e1, e2⟩, .inr rfl⟩
theorem room8 {A : Around} {P : Program} {w : World} (h : A.units + 64 < cLine) : (nestedKind P w).room A.in1 := by
  show A.units + 1 + 8 < cLine
  omega
theorem NestAt.get {b : Addr} {nk : NestedKey} {xs : List (NestedKey × Addr × V)} {ys : List (NestedKey × Addr × Value)} (n : NestAt X F w H s a uo kvs y k b nk xs ys) :
    (match dget kvs k with | none => atKey ys nk = none | some d => ∃ p v, atKey ys nk = some p ∧ RelV v p.2 ∧ Rp F w H v d) := n.pn.get n.nx n.ek
/-- d[k] -/
theorem d_get (I : L2.Inv X pins σ H s) (hw : X.w = w) (hu : X.A.units + 64 < cLine) (hr : Rd H a uo) (hc : Dc F w H a uo kvs) (hk : Rp F w H y k) (fits : keyFits kvs k = true) (ry : RelV y ku) (e : dget kvs k = some d) :
    wpAny (model X.prog X.w) X.A (getItem (.ref a) ku) (fun u' s' => ∃ v, L2.Inv X pins σ H s' ∧ RelV v u' ∧ Rp F w H v d) X.xe s := by
  rcases dkey I hw hr hc hk fits with ⟨kv, key, rfl, hp, rfl, rfl⟩ | ⟨b, nk, xs, ys, n⟩
  · obtain ⟨v, h1, h2⟩ := hp.get_some e
    exact d_getItem (by omega) I (.inl ⟨kv, key, hr, rfl, h1.symm⟩) ry fun w' s' I' r' => ⟨v, I', r', h2⟩
  · have g := n.get
    rw [e] at g
    obtain ⟨p, v, h1, h2, h3⟩ := g
    obtain rfl := n.ey
    cases ry
    exact wpAny_getItem_heap (room8 hu) n.is n.dd h1 ⟨v, I.tok _, h2, h3⟩
/-- k in d, k not in d -/
theorem d_has (I : L2.Inv X pins σ H s) (hw : X.w = w) (hu : X.A.units + 64 < cLine) (hr : Rd H a uo) (hc : Dc F w H a uo kvs) (hk : Rp F w H y k) (fits : keyFits kvs k = true) (ry : RelV y ku) :
    wpAny (model X.prog X.w) X.A (compareOp .In ku (.ref a)) (fun u' s' => L2.Inv X pins σ H s' ∧ u' = .bool (dget kvs k).isSome) X.xe s ∧
    wpAny (model X.prog X.w) X.A (compareOp .NotIn ku (.ref a)) (fun u' s' => L2.Inv X pins σ H s' ∧ u' = .bool (!(dget kvs k).isSome)) X.xe s := by
  rcases dkey I hw hr hc hk fits with ⟨kv, key, rfl, hp, rfl, rfl⟩ | ⟨b, nk, xs, ys, n⟩
  · have e : (valV kv key).isSome = (dget kvs (kD key)).isSome := by
      cases q : dget kvs (kD key) with
      | none => rw [hp.get_none q]; rfl
      | some d => obtain ⟨v, h1, _⟩ := hp.get_some q; rw [h1]; rfl
    have g : DGet H a (kV key) (valV kv key) := .inl ⟨kv, key, hr, rfl, rfl⟩
    exact ⟨d_in (by omega) I g ry fun s' I' => ⟨I', by rw [e]⟩, d_notIn (by omega) I g ry fun s' I' => ⟨I', by rw [e]⟩⟩
  · have g := n.get
    have e : (atKey ys nk).isSome = (dget kvs k).isSome := by
      cases q : dget kvs k with
      | none => rw [q] at g; rw [g]; rfl
      | some d => rw [q] at g; obtain ⟨p, v, h1, _⟩ := g; rw [h1]; rfl
    obtain rfl := n.ey
    cases ry
    refine ⟨?_, wpAny_notIn_heap (room8 hu) n.is n.sys n.dd ⟨I.tok _, by rw [e]⟩⟩
    show wpAny _ _ (do return Value.bool (← contains (.ref a) (.ref b))) _ _ _
    exact wpAny_bind (wpAny_contains_heap (room8 hu) n.is n.sys n.dd (wpAny_pure ⟨I.tok _, by rw [e]⟩))
/-- d.get(k), d.get(k, x) -/
theorem d_gets (I : L2.Inv X pins σ H s) (hw : X.w = w) (hu : X.A.units + 64 < cLine) (hr : Rd H a uo) (hc : Dc F w H a uo kvs) (hk : Rp F w H y k) (fits : keyFits kvs k = true) (ry : RelV y ku) (hv : Rp F w H v d) (rv : RelV v vu) :
    wpAny (model X.prog X.w) X.A (call (.builtin "dict.get") [.ref a, ku]) (fun u' s' => ∃ v, L2.Inv X pins σ H s' ∧ RelV v u' ∧ Rp F w H v ((dget kvs k).getD .none)) X.xe s ∧
    wpAny (model X.prog X.w) X.A (call (.builtin "dict.get") [.ref a, ku, vu]) (fun u' s' => ∃ v, L2.Inv X pins σ H s' ∧ RelV v u' ∧ Rp F w H v ((dget kvs k).getD d)) X.xe s := by
  rcases dkey I hw hr hc hk fits with ⟨kv, key, rfl, hp, rfl, rfl⟩ | ⟨b, nk, xs, ys, n⟩
  · have g : DGet H a (kV key) (valV kv key) := .inl ⟨kv, key, hr, rfl, rfl⟩
    have all : ∀ {x : V} {e : D}, Rp F w H x e → Rp F w H ((valV kv key).getD x) ((dget kvs (kD key)).getD e) := fun {x e} hx => by
      cases q : dget kvs (kD key) with
      | none => rw [hp.get_none q]; exact hx
      | some d => obtain ⟨v, h1, h2⟩ := hp.get_some q; rw [h1]; exact h2
    exact ⟨d_get1 (by omega) I g ry fun w' s' I' r' => ⟨_, I', r', all .non⟩, d_get2 (by omega) I g ry rv fun w' s' I' r' => ⟨_, I', r', all hv⟩⟩
  · have g := n.get
    obtain rfl := n.ey
    cases ry
    have all : ∀ {x : V} {xu : Value} {e : D}, Rp F w H x e → RelV x xu → ∃ v, RelV v (((atKey ys nk).map (·.2)).getD xu) ∧ Rp F w H v ((dget kvs k).getD e) := fun {x xu e} hx rx => by
      cases q : dget kvs k with
      | none => rw [q] at g; rw [g]; exact ⟨x, rx, hx⟩
      | some d => rw [q] at g; obtain ⟨p, v, h1, h2, h3⟩ := g; rw [h1]; exact ⟨v, h2, h3⟩
    refine ⟨?_, ?_⟩
    · obtain ⟨v1, h1, h2⟩ := all (x := .non) (xu := .none) .non rfl
      exact call_meetsIn PySem.F.slot_dict_get n.dd.typeIs PySem.F.entry_dict_get (PySem.F.args_dict_get_2 _ _) (meetsH_dict_get (nestedKind X.prog X.w) a b n.sys) ⟨room8 hu, nk, ys, n.is, n.dd, v1, I.tok _, h1, h2⟩
    · obtain ⟨v1, h1, h2⟩ := all hv rv
      exact call_meetsIn PySem.F.slot_dict_get n.dd.typeIs PySem.F.entry_dict_get (PySem.F.args_dict_get_3 _ _ _) (meetsH_dict_get_default (nestedKind X.prog X.w) a b n.sys vu) ⟨room8 hu, nk, ys, n.is, n.dd, v1, I.tok _, h1, h2⟩
theorem keep_upd (fo : Fok F H) (nF : ¬ F a) {o : HO} : Keep F H F (upd H a o) := ⟨fun _ h => h, fun x h => upd_ne fun e => nF (by rw [← e]; exact h)⟩
theorem kvs_nd {kv : List (Key × V)} (I : L2.Inv X pins σ H s) (hr : Rd H a (.dK kv)) : (kv.map (·.1)).Nodup := by
  obtain ⟨z, z2, vs, rel, o, des, ep, ho, hx, hd, h1, h2, h3⟩ := dk_rd I.hok hr
  have e : ∀ {l : List (Key × V)} {m : List (Key × Value)}, KV l m → l.map (·.1) = m.map (·.1) := by
    intro l m q
    unfold KV at q
    induction q with
    | nil => rfl
    | cons r t ih => rw [List.map_cons, List.map_cons, ih, r.1]
  rw [e rel]
  exact h3
/-- d[k] = v -/
theorem d_put (I : L2.Inv X pins σ H s) (hw : X.w = w) (hu : X.A.units + 64 < cLine) (fo : Fok F H) (nF : ¬ F a) (hr : H a = some uo) (hc : Dc F w H a uo kvs) (hk : Rp F w H y k) (fits : keyFits kvs k = true) (hl : kvs.length < lim)
    (ry : RelV y ku) (hv : Rp F w H v d) (rv : RelV v vu) :
    wpAny (model X.prog X.w) X.A (setItem (.ref a) ku vu) (fun _ s' => ∃ u', L2.Inv X pins σ (upd H a u') s' ∧ Dc F w (upd H a u') a u' (dput kvs k d)) X.xe s := by
  rcases dkey I hw (.inl hr) hc hk fits with ⟨kv, key, rfl, hp, rfl, rfl⟩ | ⟨b, nk, xs, ys, n⟩
  · refine d_setItem (by omega) I (.inl ⟨kv, key, hr, rfl, ?_, rfl⟩) ry rv fun s' I' => ⟨_, I', ?_⟩
    · rw [hp.length, sizeLine_eq]; exact hl
    · exact .flat ((hp.put hv (kvs_nd I (.inl hr))).stay (keep_upd fo nF))
  · obtain rfl := n.ey
    cases ry
    subst hw
    have lx : ys.length = xs.length := (Paired.length n.nx).symm
    have lk : xs.length < sizeLine := by rw [n.pn.length, sizeLine_eq]; exact hl
    refine wpAny_setItem_heap (hsz := by omega) (room8 hu) n.is n.dd fun h' dd' hs => ⟨_, d_write I ?_ hs ?_ (nestD.obj (w := X.w) (xs := putN xs nk b v) ?_), ?_⟩
    · rw [hr]
      rcases n.eu with e | e <;> rw [e] <;> exact True.intro
    · obtain ⟨q, _, _, hq, _⟩ := dd'; exact ⟨q, hq⟩
    · obtain ⟨q, es, ep, hq, h2, h3, h4, _, h5⟩ := dd'
      refine ⟨?_, n.sys, (putN_keys nk b v xs n.nd).1, q, es, ep, hq, h2, h3, ?_⟩
      · have := putN_len nk b v xs; omega
      · rw [h4]
        exact of_nx (n.nx.put rv n.nd)
    · exact .nest (putN_ne _ _ _ _) ((n.pn.put n.ek n.ok n.tp hk hv).stay (keep_upd fo nF))
/-- len(d) -/
theorem d_lenD (I : L2.Inv X pins σ H s) (hw : X.w = w) (hr : Rd H a uo) (hc : Dc F w H a uo kvs) :
    wpAny (model X.prog X.w) X.A (call (.builtin "len") [.ref a]) (fun u' s' => ∃ t, L2.Inv X pins σ H s' ∧ u' = .int kvs.length t) X.xe s := by
  cases hc with
  | flat hp => rw [← hp.length]; exact d_len I hr fun t s' I' => ⟨t, I', rfl⟩
  | nest hne hp =>
    obtain ⟨z2, z, ys, hx, dd⟩ := nest_of I hw hr hp
    have lx : ys.length = kvs.length := by rw [← hp.length]; exact (Paired.length hx).symm
    have lz : ys.length ≤ sizeLine := by rw [← Paired.length hx]; exact z
    refine PySem.call_len_dictH z2 dd (by rw [sizeLine_eq] at lz; omega) ?_
    rw [lx]
    exact ⟨_, (I.tok _).tok _, rfl⟩
/-- x in l, x not in l -/
theorem in_both (I : L2.Inv X pins σ H s) (hw : X.w = w) (hu : X.A.units + 65 < cLine) {x : V} {e : D} {xu yu : Value} {q : Bool} (rx : RelV x xu) (ry : RelV y yu) (hx : Vw F w H x d) (hy : Vw F w H y e) (h : inD d e = some q) :
    wpAny (model X.prog X.w) X.A (compareOp .In xu yu) (fun u' s' => L2.Inv X pins σ H s' ∧ u' = .bool q) X.xe s ∧
    wpAny (model X.prog X.w) X.A (compareOp .NotIn xu yu) (fun u' s' => L2.Inv X pins σ H s' ∧ u' = .bool (!q)) X.xe s := by
  unfold inD at h
  split at h
  · rename_i xs
    split at h
    · rename_i hs
      cases h
      rw [Bool.and_eq_true] at hs
      obtain ⟨as, r1⟩ := Dp.reads I d x xu (hx.dp (SeqAt.canLay_of_shaped hs.1)) rx
      obtain ⟨bs, r2⟩ := Dp.reads I (.list xs) y yu (hy.dp (SeqAt.canLay_of_shaped hs.2)) ry
      exact ⟨SeqAt.in_list_reads r2 r1 (SeqAt.canLay_of_shaped hs.2) (SeqAt.canLay_of_shaped hs.1) (room_in_shaped hs.1 hu) ⟨I, rfl⟩, SeqAt.notIn_list_reads r2 r1 (SeqAt.canLay_of_shaped hs.2) (SeqAt.canLay_of_shaped hs.1) (room_in_shaped hs.1 hu) ⟨I, rfl⟩⟩
    · cases h
  · rename_i xs
    split at h
    · rename_i hs
      cases h
      rw [Bool.and_eq_true] at hs
      obtain ⟨as, r1⟩ := Dp.reads I d x xu (hx.dp (SeqAt.canLay_of_shaped hs.1)) rx
      obtain ⟨bs, r2⟩ := Dp.reads I (.tuple xs) y yu (hy.dp (SeqAt.canLay_of_shaped hs.2)) ry
      exact ⟨SeqAt.in_tuple_reads r2 r1 (SeqAt.canLay_of_shaped hs.2) (SeqAt.canLay_of_shaped hs.1) (room_in_shaped hs.1 hu) ⟨I, rfl⟩, SeqAt.notIn_tuple_reads r2 r1 (SeqAt.canLay_of_shaped hs.2) (SeqAt.canLay_of_shaped hs.1) (room_in_shaped hs.1 hu) ⟨I, rfl⟩⟩
    · cases h
  · split at h
    · rename_i hs
      cases h
      obtain ⟨b, u, rfl, hr, hc⟩ := hy.dict
      cases ry
      have hk : Rp F w H x d := by
        refine hx.rp (fun xs e => ?_) fun xs e => ?_ <;> (subst e; unfold keyFits at hs; simp [isFlat, isTup] at hs)
      exact d_has I hw (by omega) hr hc hk hs rx
    · cases h
  · cases h
/-- a comparison's answer -/
theorem cmp_ok (I : L2.Inv X pins σ H s) (hw : X.w = w) (hu : X.A.units + 65 < cLine) {x : V} {e : D} {xu yu : Value} {q : Bool} (o : Cop) (rx : RelV x xu) (ry : RelV y yu) (hx : Vw F w H x d) (hy : Vw F w H y e) (h : cmpD o d e = some q) :
    wpAny (model X.prog X.w) X.A (compareOp (cOf o) xu yu) (fun u' s' => L2.Inv X pins σ H s' ∧ u' = .bool q) X.xe s := by
  have neg : ∀ {z : Option Bool}, z.map not = some q → ∃ q', z = some q' ∧ q = !q' := fun {z} hz => by
    obtain ⟨q', e1, e2⟩ := Option.map_eq_some_iff.mp hz
    exact ⟨q', e1, e2.symm⟩
  cases o with
  | eq => exact (eq_both I (by omega) rx ry hx hy h).1 _ _ _ _ ⟨I, rfl⟩
  | ne => obtain ⟨q', e1, rfl⟩ := neg h; exact (eq_both I (by omega) rx ry hx hy e1).2 _ _ _ _ ⟨I, rfl⟩
  | lt => exact thn (lt_both I (by omega) rx ry hx hy h).1 fun _ _ z => ⟨by rw [z.2]; exact I, z.1⟩
  | gt => exact thn (lt_both I (by omega) ry rx hy hx h).2.2.1 fun _ _ z => ⟨by rw [z.2]; exact I, z.1⟩
  | le => obtain ⟨q', e1, rfl⟩ := neg h; exact thn (lt_both I (by omega) ry rx hy hx e1).2.2.2 fun _ _ z => ⟨by rw [z.2]; exact I, z.1⟩
  | ge => obtain ⟨q', e1, rfl⟩ := neg h; exact thn (lt_both I (by omega) rx ry hx hy e1).2.1 fun _ _ z => ⟨by rw [z.2]; exact I, z.1⟩
  | inn => exact (in_both I hw hu rx ry hx hy h).1
  | nin => obtain ⟨q', e1, rfl⟩ := neg h; exact (in_both I hw hu rx ry hx hy e1).2
  | is =>
    cases e with
    | none =>
      obtain rfl := hy.non
      cases ry
      refine is_none_gen ⟨I, ?_⟩
      rw [rx.none_iff]
      cases d <;> (cases h; first
        | (obtain rfl := hx.non; rfl) | (obtain rfl := hx.bl; rfl) | (obtain rfl := hx.int; rfl) | (obtain rfl := hx.str; rfl)
        | (obtain ⟨_, _, rfl, _⟩ := hx.list; rfl) | (obtain ⟨_, _, rfl, _⟩ := hx.tuple; rfl) | (obtain ⟨_, _, rfl, _⟩ := hx.dict; rfl))
    | _ => cases d <;> cases h
  | isnt =>
    cases e with
    | none =>
      obtain rfl := hy.non
      cases ry
      refine isnot_none_gen ⟨I, ?_⟩
      rw [rx.none_iff]
      cases d <;> (cases h; first
        | (obtain rfl := hx.non; rfl) | (obtain rfl := hx.bl; rfl) | (obtain rfl := hx.int; rfl) | (obtain rfl := hx.str; rfl)
        | (obtain ⟨_, _, rfl, _⟩ := hx.list; rfl) | (obtain ⟨_, _, rfl, _⟩ := hx.tuple; rfl) | (obtain ⟨_, _, rfl, _⟩ := hx.dict; rfl))
    | _ => cases d <;> cases h
end
end Nv
end
section
set_option Elab.async false
set_option linter.all false
set_option maxRecDepth 100000
set_option maxHeartbeats 4000000
namespace Nv
open PySem PySem.Spec PyProof.Rows L2

section
variable {X : Cx} {pins : List (Addr × Obj)} {s : Shared} {σ : St} {H : Hp} {F : Addr → Prop} {w : World}

theorem place_at {α : Type} {xs : List α} {i : Int} {k : Nat} {x : α} (h : place xs.length i = some k) (e : xs[k]? = some x) : atI xs i = some x := by
  unfold place at h
  unfold atI ixN
  by_cases h0 : 0 ≤ i
  · rw [if_pos h0] at h ⊢
    split at h
    · rename_i hl
      cases h
      rw [if_pos hl]
      exact e
    · cases h
  · rw [if_neg h0] at h ⊢
    split at h
    · rename_i hl
      cases h
      rw [if_pos (by omega)]
      exact e
    · cases h
theorem place_ix {n : Nat} {i : Int} {k : Nat} (h : place n i = some k) : ixN n i = some k := by
  unfold place at h
  unfold ixN
  by_cases h0 : 0 ≤ i
  · rw [if_pos h0] at h ⊢; exact h
  · rw [if_neg h0] at h ⊢
    split at h
    · rw [if_pos (by omega)]; exact h
    · cases h
/-- the tail of a subscript, from the item -/
theorem tail_of {value slice : Expr} {o i : Value} {T id : String} {Q : Value → Shared → Prop} {E : Value → Shared → Prop} {M : Program} {ww : World} {A : Around} (hT : s.TypeIs o T) (hl : typeLookup (.type T) "__getitem__" = pure (some (.builtin id))) (hs : subscripted slice false o i = operate [o, i] (getItem o i))
    (h : wpAny (model M ww) A (getItem o i) Q E s) : wpAny (model M ww) A (subscriptTail value slice o i) Q E s := by
  unfold subscriptTail
  refine wpAny_bind ?_
  rw [getitemInPython_of_ne hT.not_modules]
  refine wpAny_bind (wpAny_specialOf hT hl ?_)
  have fin : wpAny (model M ww) A (subscripted slice false o i) (fun r s₃ => wpAny (model M ww) A (letTemporaryGo value o r >>= fun _ => pure r) Q E s₃) E s := by
    rw [hs]
    exact wpAny_operating (wpAny_mono h (fun r s₃ h₃ => wpAny_bind (wpAny_letTemporaryGo (wpAny_pure h₃))) fun _ _ x => x)
  first
    | exact wpAny_pure (wpAny_bind fin)
    | exact wpAny_bind (wpAny_pure (wpAny_bind fin))
    | exact wpAny_bind fin
theorem dict_ty (I : L2.Inv X pins σ H s) (hw : X.w = w) {a : Addr} {u : HO} {kvs : List (D × D)} (hr : Rd H a u) (hc : Dc F w H a u kvs) : s.TypeIs (.ref a) "dict" := by
  cases hc with
  | flat hp =>
    obtain ⟨_, _, vs, _, dd⟩ := dk_rd I.hok hr
    exact dd.typeIs
  | nest hne hp =>
    obtain ⟨_, _, ys, _, dd⟩ := nest_of I hw hr hp
    exact dd.typeIs
/-- o[i] as an expression -/
theorem idx_tail (I : L2.Inv X pins σ H s) (hw : X.w = w) (hu : X.A.units + 64 < cLine) {x y : V} {d e r : D} {xu yu : Value} (rx : RelV x xu) (ry : RelV y yu) (hx : Vw F w H x d) (hy : Vw F w H y e) (h : idxD d e = some r)
    (value slice : Expr) (hs : subscripted slice false xu yu = operate [xu, yu] (getItem xu yu)) :
    wpAny (model X.prog X.w) X.A (subscriptTail value slice xu yu) (EP X pins σ fun v' H' => H' = H ∧ Rp F w H v' r) X.xe s := by
  unfold idxD at h
  split at h
  · rename_i xs i
    obtain ⟨k, h1, h2⟩ := Option.bind_eq_some_iff.mp h
    obtain ⟨a, vs, rfl, ha, ra⟩ := hx.list
    obtain rfl := hy.int
    obtain ⟨v, e1, e2⟩ := ra.get h2
    have at_ : atI vs i = some v := place_at (by rw [ra.length]; exact h1) e1
    exact ix_list value slice pins s σ H _ _ xu yu (fun v' H' => H' = H ∧ Rp F w H v' r) I rx ry ⟨a, vs, i, v, rfl, rfl, .inl ha, at_, rfl, e2⟩ hs
  · rename_i xs i
    obtain ⟨k, h1, h2⟩ := Option.bind_eq_some_iff.mp h
    obtain ⟨a, vs, rfl, ha, ra, _⟩ := hx.tuple
    obtain rfl := hy.int
    obtain ⟨v, e1, e2⟩ := ra.get h2
    have at_ : atI vs i = some v := place_at (by rw [ra.length]; exact h1) e1
    exact ix_tup value slice pins s σ H _ _ xu yu (fun v' H' => H' = H ∧ Rp F w H v' r) I rx ry ⟨a, vs, i, v, rfl, rfl, .inl ha, at_, rfl, e2⟩ hs
  · split at h
    · rename_i kvs hk
      obtain ⟨a, u, rfl, hr, hc⟩ := hx.dict
      cases rx
      have hk' : Rp F w H y e := by
        refine hy.rp (fun xs q => ?_) fun xs q => ?_ <;> (subst q; unfold keyFits at hk; simp [isFlat, isTup] at hk)
      refine tail_of (dict_ty I hw hr hc) PySem.F.slot_dict_getitem.lookup hs (thn (d_get I hw hu hr hc hk' hk ry h) fun u' s' ⟨v, I', r', q⟩ => ⟨v, H, I', r', rfl, q⟩)
    · cases h
  · split at h
    · rename_i z i hl
      obtain ⟨k, h1, h2⟩ := Option.bind_eq_some_iff.mp h
      obtain ⟨c, h3, rfl⟩ := Option.map_eq_some_iff.mp h2
      obtain rfl := hx.str
      obtain rfl := hy.int
      have at_ : atI z.cps.toList i = some c := place_at (by rw [Array.length_toList]; exact h1) (by rw [Array.getElem?_toList]; exact h3)
      exact ix_str value slice pins s σ H _ _ xu yu (fun v' H' => H' = H ∧ Rp F w H v' (.str ⟨#[c]⟩)) I rx ry ⟨z, i, c, rfl, rfl, lim_line hl, at_, rfl, .str _⟩ hs
    · cases h
  · cases h
/-- o[i] = v, by values -/
theorem sub_ok (I : L2.Inv X pins σ H s) (hw : X.w = w) (hu : X.A.units + 64 < cLine) (fo : Fok F H) {a : Addr} {y z : V} {d e g r : D} {yu zu : Value} (nF : ¬ F a) (ry : RelV y yu) (rz : RelV z zu) (ho : Own F w H a d) (hy : Rp F w H y e) (hz : Rp F w H z g) (h : subD d e g = some r) :
    wpAny (model X.prog X.w) X.A (setItem (.ref a) yu zu) (fun _ s' => ∃ o', L2.Inv X pins σ (upd H a o') s' ∧ Own F w (upd H a o') a r) X.xe s := by
  unfold subD at h
  split at h
  · split at h
    · rename_i kvs k v hs
      cases h
      rw [Bool.and_eq_true] at hs
      cases ho with
      | dct hr hc =>
        exact thn (d_put I hw hu fo nF hr hc hy hs.1 (of_decide_eq_true hs.2) ry hz rz) fun _ s' ⟨u', I', c'⟩ => ⟨u', I', .dct upd_same c'⟩
    · cases h
  · rename_i xs i
    obtain ⟨k, h1, rfl⟩ := Option.map_eq_some_iff.mp h
    cases ho with
    | lst ha ra =>
      rename_i vs
      cases hy
      refine thn (set_list pins s σ H (.ref a) (.int i) z (.ref a) yu zu (fun H' => H' = upd H a (.lst (vs.set k z))) I rfl ry rz ⟨a, vs, i, k, rfl, rfl, ha, place_ix (by rw [ra.length]; exact h1), rfl⟩) fun _ s' ⟨H', I', e'⟩ => ?_
      subst e'
      exact ⟨_, I', .lst upd_same ((ra.set hz k).stay (keep_upd fo nF))⟩
  · cases h
end
end Nv
namespace Nv
open PySem PySem.Spec PyProof.Rows L2
section
variable {X : Cx} {pins : List (Addr × Obj)} {s : Shared} {σ : St} {H : Hp} {F : Addr → Prop} {w : World}
theorem bnd_sIx (n dflt : Nat) (o : Option Int) : bnd n dflt (o.map PyData.int) = some (HT.sIx n dflt o) := by
  cases o with
  | none => rfl
  | some i =>
    show some _ = some _
    congr 1
    unfold HT.sIx
    by_cases h : i < 0
    · rw [if_neg (by omega)]
      simp only [h, if_true, ↓reduceIte]
    · rw [if_pos (by omega)]
      simp only [h, if_false, ↓reduceIte]
theorem cut_cutV {xs : List V} {n m : Nat} (lo hi : Option Int) (h1 : n = HT.sIx xs.length 0 lo) (h2 : m = HT.sIx xs.length xs.length hi) : cut xs n m = cutV xs lo hi := by
  subst h1 h2
  rfl
theorem bnd_int {n dflt : Nat} {o : Option D} {a : Nat} (h : bnd n dflt o = some a) : ∃ i : Option Int, o = i.map PyData.int ∧ a = HT.sIx n dflt i := by
  cases o with
  | none => exact ⟨none, rfl, (Option.some.inj ((bnd_sIx n dflt none).symm.trans h)).symm⟩
  | some d =>
    cases d with
    | int i => exact ⟨some i, rfl, (Option.some.inj ((bnd_sIx n dflt (some i)).symm.trans h)).symm⟩
    | _ => cases h
def rSlc (w : World) : V → Option Int → Option Int → Hp → VK → Prop := fun x lo hi H Q => ∃ F d r, Fok F H ∧ Vw F w H x d ∧ slcD d (lo.map PyData.int) (hi.map PyData.int) = some r ∧ ∀ v H', QN F w H r v H' → Q v H'
theorem sl_any : SlR X (rSlc w) := by
  intro pins s σ H x v vl vu lo hi sl Q I rx hs pl pu h
  obtain ⟨F, d, r, fo, hx, hd, q⟩ := h
  unfold slcD at hd
  split at hd
  · rename_i xs
    rw [bnd_sIx, bnd_sIx] at hd
    obtain ⟨a, vs, rfl, ha, ra⟩ := hx.list
    refine sl_list pins s σ H _ v vl vu lo hi sl Q I rx hs pl pu ⟨a, vs, rfl, .inl ha, fun p n => q _ _ ?_⟩
    cases hd
    unfold cutV
    rw [ra.length]
    exact .lst fo n ((ra.drop _).take _)
  · rename_i xs
    rw [bnd_sIx, bnd_sIx] at hd
    obtain ⟨a, vs, rfl, ha, ra, fa⟩ := hx.tuple
    refine sl_tupA pins s σ H _ v vl vu lo hi sl Q I rx hs pl pu ⟨a, vs, rfl, .inl ha, fun e => q _ _ ?_, fun _ p n => q _ _ ?_⟩
    · cases hd
      have e2 : cut xs (HT.sIx xs.length 0 lo) (HT.sIx xs.length xs.length hi) = xs := by
        rw [← ra.length, e.1, e.2]
        unfold cut
        rw [List.drop_zero, Nat.sub_zero, ra.length, List.take_length]
      rw [e2]
      exact .same fo (.tup fa ha ra)
    · cases hd
      unfold cutV
      rw [ra.length]
      exact .tup fo n ((ra.drop _).take _)
  · cases hd
end
end Nv
end
section
set_option Elab.async false
set_option linter.all false
set_option maxRecDepth 100000
set_option maxHeartbeats 4000000
namespace Nv
open PySem PySem.Spec PyProof.Rows L2

section
variable (F : Addr → Prop) (w : World) (H : Hp)
/-- several values, as they stand -/
inductive VwA : List V → List D → Prop
  | nil : VwA [] []
  | cons {v : V} {vs : List V} {d : D} {ds : List D} : Vw F w H v d → VwA vs ds → VwA (v :: vs) (d :: ds)
end
theorem VwA.one {F : Addr → Prop} {w : World} {H : Hp} {vs : List V} {d : D} (h : VwA F w H vs [d]) : ∃ v, vs = [v] ∧ Vw F w H v d := by
  cases h with
  | cons g t => cases t; exact ⟨_, rfl, g⟩
theorem VwA.two {F : Addr → Prop} {w : World} {H : Hp} {vs : List V} {d e : D} (h : VwA F w H vs [d, e]) : ∃ v u, vs = [v, u] ∧ Vw F w H v d ∧ Vw F w H u e := by
  cases h with
  | cons g t => obtain ⟨u, rfl, k⟩ := t.one; exact ⟨_, _, rfl, g, k⟩
/-- a call of one name -/
def bltPlain : Blt → Bool
  | .sset => false | .lset => false | .rlist1 => false | .rlist2 => false | .rtup1 => false | .rtup2 => false
  | _ => true
def bltV : Blt → Value
  | .len => .builtin "len" | .tuple => .type "tuple" | .list => .type "list" | .int => .type "int" | .abs => .builtin "abs" | .sum => .builtin "sum" | .max => .builtin "max" | .min => .builtin "min"
  | .max2 => .builtin "max" | .min2 => .builtin "min" | .max3 => .builtin "max" | .min3 => .builtin "min" | .all => .builtin "all" | .any => .builtin "any" | .sorted => .builtin "sorted"
  | .dict => .type "dict" | .str => .type "str" | .sset => .none | .lset => .none | .rlist1 => .none | .rlist2 => .none | .rtup1 => .none | .rtup2 => .none
section
variable {X : Cx} {pins : List (Addr × Obj)} {s : Shared} {σ : St} {H : Hp} {F : Addr → Prop} {w : World}
theorem RpA.ints : ∀ {vs : List V} {ds : List D} {is : List Int}, RpA F w H vs ds → intsOf ds = some is → vs = is.map V.int
  | _, _, _, .nil, e => by cases e; rfl
  | _, _, is, .cons (d := d) r t, e => by
    cases d with
    | int i =>
      obtain ⟨js, e1, rfl⟩ := Option.map_eq_some_iff.mp (show (intsOf _).map (i :: ·) = some is from e)
      cases r
      rw [RpA.ints t e1]; rfl
    | _ => cases e
theorem RpA.bools : ∀ {vs : List V} {ds : List D} {is : List Bool}, RpA F w H vs ds → bools ds = some is → vs = is.map V.bl
  | _, _, _, .nil, e => by cases e; rfl
  | _, _, is, .cons (d := d) r t, e => by
    cases d with
    | bool i =>
      obtain ⟨js, e1, rfl⟩ := Option.map_eq_some_iff.mp (show (Nv.bools _).map (i :: ·) = some is from e)
      cases r
      rw [RpA.bools t e1]; rfl
    | _ => cases e
theorem sortable_shaped {xs : List D} (h : sortable xs = true) : ∀ x ∈ xs, SeqAt.shaped x = true := by
  unfold sortable at h
  simp only [Bool.and_eq_true, List.all_eq_true] at h
  exact h.1.1
theorem sortable_alike {xs : List D} (h : sortable xs = true) : ∀ x ∈ xs, ∀ y ∈ xs, W.alike x y = true := by
  unfold sortable allAlike at h
  simp only [Bool.and_eq_true, List.all_eq_true] at h
  exact h.1.2
theorem sortable_kind {xs : List D} (h : sortable xs = true) : W.Sortable xs := by
  unfold sortable at h
  simp only [Bool.and_eq_true, Bool.or_eq_true, List.all_eq_true] at h
  rcases h.2 with h | h
  · refine .inl fun d hd => ?_
    have := h d hd
    cases d with
    | tuple ys => cases ys with
      | nil => cases this
      | cons a r => exact ⟨a, r, rfl⟩
    | _ => cases this
  · refine .inr fun d hd => ?_
    have := h d hd
    cases d with
    | none => cases this
    | tuple ys => cases this
    | bool b => exact ⟨nofun, nofun⟩
    | int b => exact ⟨nofun, nofun⟩
    | str b => exact ⟨nofun, nofun⟩
    | list b => exact ⟨nofun, nofun⟩
    | dict b => exact ⟨nofun, nofun⟩
theorem canLayAll_of {xs : List D} (h : ∀ x ∈ xs, SeqAt.shaped x = true) : PyData.canLayAll0 xs = true := by
  induction xs with
  | nil => rfl
  | cons x r ih =>
    simp only [PyData.canLayAll0, Bool.and_eq_true]
    exact ⟨SeqAt.canLay_of_shaped (h x List.mem_cons_self), ih fun y hy => h y (List.mem_cons_of_mem _ hy)⟩
theorem depthAll_of {xs : List D} (h : ∀ x ∈ xs, SeqAt.shaped x = true) : PyData.depthAll xs ≤ 64 := by
  induction xs with
  | nil => exact Nat.zero_le _
  | cons x r ih =>
    simp only [PyData.depthAll]
    exact Nat.max_le.mpr ⟨SeqAt.depth_of_shaped (h x List.mem_cons_self), ih fun y hy => h y (List.mem_cons_of_mem _ hy)⟩
theorem RpA.readsAll (I : L2.Inv X pins σ H s) {vs : List V} {ds : List D} {us : List Value} (r : RpA F w H vs ds) (rv : Vals vs us) (h : ∀ x ∈ ds, SeqAt.shaped x = true) : ∃ as, ReadsAll s.heap us ds as :=
  Dp.readsAll I ds vs us (r.dp (canLayAll_of h)) rv
theorem each_of {vs : List V} {ds : List D} {us : List Value} (r : RpA F w H vs ds) (rv : Vals vs us) : PySem.W.EachIs (fun u d => ∃ v, RelV v u ∧ Rp F w H v d) us ds := by
  induction vs generalizing ds us with
  | nil => cases r; cases rv; exact .nil
  | cons v vs ih =>
    cases r with
    | cons r1 r2 => cases rv with
      | cons q1 q2 => exact .cons ⟨v, q1, r1⟩ (ih r2 q2)
theorem of_each : ∀ {us : List Value} {ds : List D}, PySem.W.EachIs (fun u d => ∃ v, RelV v u ∧ Rp F w H v d) us ds → ∃ vs, Vals vs us ∧ RpA F w H vs ds
  | _, _, .nil => ⟨[], .nil, .nil⟩
  | _, _, .cons h t => by
    obtain ⟨v, h1, h2⟩ := h
    obtain ⟨vs, h3, h4⟩ := of_each t
    exact ⟨v :: vs, .cons h1 h3, .cons h2 h4⟩
theorem each_reads (I : L2.Inv X pins σ H s) : ∀ {us : List Value} {ds : List D}, PySem.W.EachIs (fun u d => ∃ v, RelV v u ∧ Rp F w H v d) us ds → (∀ x ∈ ds, SeqAt.shaped x = true) → PySem.W.EachIs (fun u d => ∃ as, Reads s.heap u d as) us ds
  | _, _, .nil, _ => .nil
  | _, _, .cons h t, hs => by
    obtain ⟨v, h1, h2⟩ := h
    exact .cons (Dp.reads I _ v _ (h2.dp (SeqAt.canLay_of_shaped (hs _ List.mem_cons_self))) h1) (each_reads I t fun x hx => hs x (List.mem_cons_of_mem _ hx))
theorem dataLe_sortD (xs : List D) : xs.mergeSort (W.dataLe false id) = sortD xs := rfl
theorem sorted_ok (I : L2.Inv X pins σ H s) (hu : X.A.units + 70 < cLine) (fo : Fok F H) {v : V} {u : Value} {ds : List D} (rv : RelV v u) (hv : Vw F w H v (.list ds)) (hs : sortable ds = true) :
    wpAny (model X.prog X.w) X.A (call (.builtin "sorted") [u]) (EP X pins σ (QN F w H (.tm (.list (sortD ds))))) X.xe s := by
  obtain ⟨a, vs, rfl, ha, ra⟩ := hv.list
  cases rv
  obtain ⟨us, r1, hl⟩ := isl I ha
  have sh := sortable_shaped hs
  have e := each_of ra r1
  have hz : ds.length ≤ sizeLine := by rw [← ra.length]; exact (Inv.lstR I ha).1
  have er := each_reads I e sh
  refine W.sorted_data (R := fun u d => ∃ v, RelV v u ∧ Rp F w H v d) (enc := id) hl e er ?_ ?_ hz (fun b hb => ?_) fun out h1 h2 => ?_
  · rw [List.map_id]; exact sortable_alike hs
  · rw [List.map_id]; exact sortable_kind hs
  · have := SeqAt.depth_of_shaped (sh b hb)
    show X.A.units + 2 + PyData.depth b < cLine
    omega
  · obtain ⟨ws, g1, g2⟩ := of_each h2
    obtain ⟨ep, he'⟩ := PyProof.Rows.sortedAll_at s.heap us out.toArray
    refine ⟨.ref _, upd H (s.heap.objs.size + 1) (.lst ws), I.laid (t' := s.toks) (fun _ _ => PyProof.Rows.sortedAll_old) (Nat.le_succ _) ⟨?_, out, ep, g1, he'⟩, rfl, .lst fo (I.hok.fresh (Nat.le_succ _)) g2⟩
    rw [g1.length, h1]; exact hz
theorem items_of {d : D} {xs : List D} (h : items d = some xs) : d = .list xs ∨ d = .tuple xs := by
  cases d with
  | list ys => cases h; exact .inl rfl
  | tuple ys => cases h; exact .inr rfl
  | _ => cases h
theorem alikeAll_of {xs : List D} (h : sortable xs = true) (hn : ∀ x ∈ xs, x ≠ .none) : W.AlikeAll xs := ⟨sortable_alike h, hn⟩
theorem sortable_nn {xs : List D} (h : sortable xs = true) : ∀ x ∈ xs, x ≠ .none := by
  intro x hx
  rcases sortable_kind h with k | k
  · obtain ⟨y, r, e⟩ := k x hx
    rw [e]; exact nofun
  · exact (k x hx).1
theorem foldl_pick (f : D → D → Bool) (g : D → D → D) (hg : ∀ a y, g a y = a ∨ g a y = y) : ∀ (ys : List D) (y : D), ys.foldl g y ∈ y :: ys
  | [], y => List.mem_cons_self
  | z :: zs, y => by
    rw [List.foldl_cons]
    have := foldl_pick f g hg zs (g y z)
    rcases List.mem_cons.mp this with e | e
    · rw [e]
      rcases hg y z with q | q <;> rw [q] <;> simp
    · exact List.mem_cons_of_mem _ (List.mem_cons_of_mem _ e)
theorem maxD_mem (y : D) (ys : List D) : W.maxD y ys ∈ y :: ys := foldl_pick (fun _ _ => true) _ (fun a z => by split <;> simp) ys y
theorem minD_mem (y : D) (ys : List D) : W.minD y ys ∈ y :: ys := foldl_pick (fun _ _ => true) _ (fun a z => by split <;> simp) ys y
/-- an item that reads as d -/
theorem pick_ok (I : L2.Inv X pins σ H s) (fo : Fok F H) {vs : List V} {us : List Value} {ds : List D} {as bs : List Addr} {d : D} {i : Nat} {v : Value} {h' : Heap} {tk : Nat} (ra : RpA F w H vs ds) (r1 : Vals vs us) (hr : ReadsAll s.heap us ds as) (sh : ∀ x ∈ ds, SeqAt.shaped x = true)
    (hi : us.toArray[i]? = some v) (hm : Reads h' v d bs) (hk : ∀ b o, s.heap.get? b = some o → h'.get? b = some o) (hd : d ∈ ds) : EP X pins σ (QN F w H (.im d)) v { s with heap := h', toks := tk } := by
  have hi' : us[i]? = some v := by simpa using hi
  have hl : us.length = ds.length := by rw [← r1.length, ra.length]
  have hlt : i < ds.length := by rw [← hl]; exact (List.getElem?_eq_some_iff.mp hi').1
  obtain ⟨x, e1, e2⟩ := ra.get (List.getElem?_eq_getElem hlt)
  obtain ⟨u, e3, e4⟩ := r1.get e1
  rw [hi'] at e3
  obtain rfl := Option.some.inj e3
  have sx := sh _ (List.getElem_mem hlt)
  obtain ⟨cs, rx⟩ := Dp.reads I _ x v (e2.dp (K := X.K) (SeqAt.canLay_of_shaped sx)) e4
  have q1 := SeqAt.readOf_eq (SeqAt.canLay_of_shaped sx) (PyProof.Rows.Reads.keeps hk rx)
  have q2 := SeqAt.readOf_eq (SeqAt.canLay_of_shaped (sh _ hd)) hm
  have e : d = ds[i] := q2.symm.trans q1
  rw [e]
  exact ⟨x, H, I.kept hk, e4, .same fo e2⟩
theorem blt_ok (I : L2.Inv X pins σ H s) (hw : X.w = w) (hc : X.calm = true) (hu : X.A.units + 70 < cLine) (fo : Fok F H) (b : Blt) {vs : List V} {us : List Value} {ds : List D} {r : R} (rv : Vals vs us) (hv : VwA F w H vs ds) (h : bltD b ds = some r)
    (hb : bltPlain b = true) :
    wpAny (model X.prog X.w) X.A (call (bltV b) us) (EP X pins σ (QN F w H r)) X.xe s := by
  have hh := I.ok.hd hc
  unfold bltD at h
  split at h
  · cases h; obtain ⟨v1, rfl, h1⟩ := hv.one; obtain ⟨a, xs, rfl, ha, ra⟩ := h1.list
    exact call_len_seq pins s σ H _ us _ I rv ⟨a, xs, rfl, .inl (.inl ha), by rw [ra.length]; exact .int fo _⟩
  · cases h; obtain ⟨v1, rfl, h1⟩ := hv.one; obtain ⟨a, xs, rfl, ha, ra, _⟩ := h1.tuple
    exact call_len_seq pins s σ H _ us _ I rv ⟨a, xs, rfl, .inr (.inl ha), by rw [ra.length]; exact .int fo _⟩
  · cases h; obtain ⟨v1, rfl, h1⟩ := hv.one; obtain ⟨a, u, rfl, ha, hd⟩ := h1.dict
    obtain rfl := rv.ref1
    exact thn (d_lenD I hw ha hd) fun _ _ ⟨t, I', e⟩ => ⟨.int _, H, I', ⟨t, e⟩, .int fo _⟩
  · split at h
    · rename_i hl
      cases h; obtain ⟨v1, rfl, h1⟩ := hv.one; obtain rfl := h1.str
      exact call_len_str pins s σ H _ us _ I rv ⟨_, rfl, lim_line hl, .int fo _⟩
    · cases h
  · cases h; obtain ⟨v1, rfl, h1⟩ := hv.one; obtain ⟨a, xs, rfl, ha, ra⟩ := h1.list
    exact call_tuple_of pins s σ H _ us _ I rv ⟨a, xs, rfl, .inl ⟨.inl ha, fun l n => .tup fo n ra⟩⟩
  · cases h; obtain ⟨v1, rfl, h1⟩ := hv.one; obtain ⟨a, xs, rfl, ha, ra, fa⟩ := h1.tuple
    exact call_tuple_of pins s σ H _ us _ I rv ⟨a, xs, rfl, .inr ⟨.inl ha, .same fo (.tup fa ha ra)⟩⟩
  · cases h; obtain ⟨v1, rfl, h1⟩ := hv.one; obtain ⟨a, xs, rfl, ha, ra⟩ := h1.list
    exact call_list_of pins s σ H _ us _ I rv ⟨a, xs, rfl, .inl (.inl ha), fun l n => .lst fo n ra⟩
  · cases h; obtain ⟨v1, rfl, h1⟩ := hv.one; obtain ⟨a, xs, rfl, ha, ra, fa⟩ := h1.tuple
    exact call_list_of pins s σ H _ us _ I rv ⟨a, xs, rfl, .inr (.inl ha), fun l n => .lst fo n ra⟩
  · cases h; obtain ⟨v1, rfl, h1⟩ := hv.one; obtain rfl := h1.int
    exact call_int1 pins s σ H _ us _ I rv (.inl ⟨_, rfl, .int fo _⟩)
  · cases h; obtain ⟨v1, rfl, h1⟩ := hv.one; obtain rfl := h1.bl
    exact call_int1 pins s σ H _ us _ I rv (.inr ⟨_, rfl, .int fo _⟩)
  · cases h; obtain ⟨v1, rfl, h1⟩ := hv.one; obtain rfl := h1.int
    exact call_abs pins s σ H _ us _ I rv ⟨_, rfl, .int fo _⟩
  · obtain ⟨xs, h1, h2⟩ := Option.bind_eq_some_iff.mp h
    obtain ⟨is, h3, rfl⟩ := Option.map_eq_some_iff.mp h2
    obtain ⟨v1, rfl, g⟩ := hv.one; rcases items_of h1 with e | e
    · subst e
      obtain ⟨a, vs, rfl, ha, ra⟩ := g.list
      obtain rfl := ra.ints h3
      exact cr_sum hc pins s σ H _ us _ I rv ⟨a, is, rfl, .inl ha, .int fo _⟩
    · subst e
      obtain ⟨a, vs, rfl, ha, ra, _⟩ := g.tuple
      obtain rfl := ra.ints h3
      obtain rfl := rv.ref1
      obtain ⟨its, r1, ht⟩ := ist I ha
      obtain ⟨ps, e⟩ := (Vals.ints r1).allInts.items
      have hn : numsOf (intItems ps).toList = is := by rw [← e]; exact (Vals.ints r1).numsOf
      rw [nums_intItems] at hn
      rw [e] at ht
      refine W.ktm_sumG hh ht fun h' tk t' hk => ⟨.int is.sum, H, I.kept hk, ⟨t', ?_⟩, .int fo _⟩
      rw [preSum_eq, List.take_of_length_le (by simp), hn]
  · obtain ⟨xs, h1, h2⟩ := Option.bind_eq_some_iff.mp h
    split at h2
    · rename_i hs
      obtain ⟨m, h3, rfl⟩ := Option.map_eq_some_iff.mp h2
      obtain ⟨v1, rfl, g⟩ := hv.one
      obtain ⟨y, ys, rfl, rfl⟩ : ∃ y ys, xs = y :: ys ∧ m = W.maxD y ys := by
        cases xs with
        | nil => cases h3
        | cons y ys => exact ⟨y, ys, rfl, (Option.some.inj h3).symm⟩
      have sh := sortable_shaped hs
      have dp := depthAll_of sh
      have fin : ∀ {vs : List V} {us : List Value} {as : List Addr} (ra : RpA F w H vs (y :: ys)) (r1 : Vals vs us) (hr : ReadsAll s.heap us (y :: ys) as) (i : Nat) (v : Value) (h' : Heap) (tk : Nat) (bs : List Addr), us.toArray[i]? = some v → Reads h' v (W.maxD y ys) bs →
          (∀ b o, s.heap.get? b = some o → h'.get? b = some o) → EP X pins σ (QN F w H (.im (W.maxD y ys))) v { s with heap := h', toks := tk } := by
        intro vs us as ra r1 hr i v h' tk bs hi hm hk
        exact pick_ok I fo ra r1 hr sh hi hm hk (maxD_mem y ys)
      rcases items_of h1 with e | e
      · subst e
        obtain ⟨a, vs, rfl, ha, ra⟩ := g.list
        obtain rfl := rv.ref1
        obtain ⟨us, r1, hl⟩ := isl I ha
        obtain ⟨as, hr⟩ := ra.readsAll I r1 sh
        exact W.max_list_data hh hl hr (alikeAll_of hs (sortable_nn hs)) (by omega) fun i v h' tk bs => fin ra r1 hr i v h' tk bs
      · subst e
        obtain ⟨a, vs, rfl, ha, ra, _⟩ := g.tuple
        obtain rfl := rv.ref1
        obtain ⟨us, r1, hl⟩ := ist I ha
        obtain ⟨as, hr⟩ := ra.readsAll I r1 sh
        exact W.max_tuple_data hh hl hr (alikeAll_of hs (sortable_nn hs)) (by omega) fun i v h' tk bs => fin ra r1 hr i v h' tk bs
    · cases h2
  · obtain ⟨xs, h1, h2⟩ := Option.bind_eq_some_iff.mp h
    split at h2
    · rename_i hs
      obtain ⟨m, h3, rfl⟩ := Option.map_eq_some_iff.mp h2
      obtain ⟨v1, rfl, g⟩ := hv.one
      obtain ⟨y, ys, rfl, rfl⟩ : ∃ y ys, xs = y :: ys ∧ m = W.minD y ys := by
        cases xs with
        | nil => cases h3
        | cons y ys => exact ⟨y, ys, rfl, (Option.some.inj h3).symm⟩
      have sh := sortable_shaped hs
      have dp := depthAll_of sh
      have fin : ∀ {vs : List V} {us : List Value} {as : List Addr} (ra : RpA F w H vs (y :: ys)) (r1 : Vals vs us) (hr : ReadsAll s.heap us (y :: ys) as) (i : Nat) (v : Value) (h' : Heap) (tk : Nat) (bs : List Addr), us.toArray[i]? = some v → Reads h' v (W.minD y ys) bs →
          (∀ b o, s.heap.get? b = some o → h'.get? b = some o) → EP X pins σ (QN F w H (.im (W.minD y ys))) v { s with heap := h', toks := tk } := by
        intro vs us as ra r1 hr i v h' tk bs hi hm hk
        exact pick_ok I fo ra r1 hr sh hi hm hk (minD_mem y ys)
      rcases items_of h1 with e | e
      · subst e
        obtain ⟨a, vs, rfl, ha, ra⟩ := g.list
        obtain rfl := rv.ref1
        obtain ⟨us, r1, hl⟩ := isl I ha
        obtain ⟨as, hr⟩ := ra.readsAll I r1 sh
        exact W.min_list_data hh hl hr (alikeAll_of hs (sortable_nn hs)) (by omega) fun i v h' tk bs => fin ra r1 hr i v h' tk bs
      · subst e
        obtain ⟨a, vs, rfl, ha, ra, _⟩ := g.tuple
        obtain rfl := rv.ref1
        obtain ⟨us, r1, hl⟩ := ist I ha
        obtain ⟨as, hr⟩ := ra.readsAll I r1 sh
        exact W.min_tuple_data hh hl hr (alikeAll_of hs (sortable_nn hs)) (by omega) fun i v h' tk bs => fin ra r1 hr i v h' tk bs
    · cases h2
  · cases h; obtain ⟨v1, v2, rfl, h1, h2⟩ := hv.two; obtain rfl := h1.int; obtain rfl := h2.int
    exact call_max2 hc pins s σ H _ us _ I rv ⟨_, _, rfl, .int fo _⟩
  · cases h; obtain ⟨v1, v2, rfl, h1, h2⟩ := hv.two; obtain rfl := h1.int; obtain rfl := h2.int
    exact call_min2 hc pins s σ H _ us _ I rv ⟨_, _, rfl, .int fo _⟩
  · obtain ⟨bs, h3, rfl⟩ := Option.map_eq_some_iff.mp h
    obtain ⟨v1, rfl, g⟩ := hv.one; obtain ⟨a, vs, rfl, ha, ra⟩ := g.list
    obtain rfl := ra.bools h3
    exact cr_all hc pins s σ H _ us _ I rv ⟨a, bs, rfl, .inl ha, .bl fo _⟩
  · obtain ⟨bs, h3, rfl⟩ := Option.map_eq_some_iff.mp h
    obtain ⟨v1, rfl, g⟩ := hv.one; obtain ⟨a, vs, rfl, ha, ra⟩ := g.list
    obtain rfl := ra.bools h3
    exact cr_any hc pins s σ H _ us _ I rv ⟨a, bs, rfl, .inl ha, .bl fo _⟩
  · split at h
    · rename_i hs
      cases h
      obtain ⟨v1, rfl, g⟩ := hv.one
      obtain ⟨a, vs, rfl, ha, ra⟩ := id g.list
      obtain rfl := rv.ref1
      exact sorted_ok I hu fo (show RelV (.ref a) (.ref a) from rfl) g hs
    · cases h
  · exact absurd hb Bool.false_ne_true
  · exact absurd hb Bool.false_ne_true
  · exact absurd hb Bool.false_ne_true
  · exact absurd hb Bool.false_ne_true
  · cases h
end
end Nv
end
section
set_option Elab.async false
set_option linter.all false
set_option maxRecDepth 100000
set_option maxHeartbeats 4000000
namespace Nv
open PySem PySem.Spec PyProof.Rows L2
section
variable {X : Cx} {pins : List (Addr × Obj)} {s : Shared} {σ : St} {H : Hp} {F : Addr → Prop} {w : World}
theorem VwA.zero {vs : List V} (h : VwA F w H vs []) : vs = [] := by cases h; rfl
theorem findIdx_spec (p : D → Bool) : ∀ (xs : List D) (k : Nat), xs.findIdx? p = some k → ∃ z, xs[k]? = some z ∧ p z = true ∧ ∀ (m : Nat) z', m < k → xs[m]? = some z' → p z' = false
  | [], k, h => by cases h
  | x :: xs, k, h => by
    rw [List.findIdx?_cons] at h
    by_cases hp : p x = true
    · rw [if_pos hp] at h
      cases h
      exact ⟨x, rfl, hp, fun m z' hm => absurd hm (by omega)⟩
    · rw [if_neg hp] at h
      obtain ⟨j, h1, rfl⟩ := Option.map_eq_some_iff.mp h
      obtain ⟨z, e1, e2, e3⟩ := findIdx_spec p xs j h1
      refine ⟨z, by simpa using e1, e2, fun m z' hm hz => ?_⟩
      cases m with
      | zero => simp at hz; subst hz; simpa using hp
      | succ m => exact e3 m z' (by omega) (by simpa using hz)
def mthV : Mth → String × String
  | .get1 => ("dict", "dict.get") | .get2 => ("dict", "dict.get") | .index => ("list", "list.index")
/-- a method that changes nothing -/
theorem mth_ok (I : L2.Inv X pins σ H s) (hw : X.w = w) (hu : X.A.units + 70 < cLine) (fo : Fok F H) (m : Mth) {v : V} {u : Value} {vs : List V} {us : List Value} {d : D} {ds : List D} {r : R} (rv : RelV v u) (rs : Vals vs us) (hv : Vw F w H v d) (hs : RpA F w H vs ds) (h : mthD m d ds = some r) :
    ∃ T id, s.TypeIs u T ∧ (∀ a, u = .ref a → ∃ ob, s.heap.get? a = some ob ∧ ob.dict = none) ∧ ((m = .get1 ∧ T = "dict" ∧ id = "dict.get") ∨ (m = .get2 ∧ T = "dict" ∧ id = "dict.get") ∨ (m = .index ∧ T = "list" ∧ id = "list.index")) ∧
      wpAny (model X.prog X.w) X.A (call (.builtin id) (u :: us)) (EP X pins σ (QN F w H r)) X.xe s := by
  have dd : ∀ {a : Addr} {uo : HO} {kvs : List (D × D)}, Rd H a uo → Dc F w H a uo kvs → s.TypeIs (.ref a) "dict" ∧ ∀ b, Value.ref a = .ref b → ∃ ob, s.heap.get? b = some ob ∧ ob.dict = none := by
    intro a uo kvs hr hc
    refine ⟨dict_ty I hw hr hc, fun b e => ?_⟩
    cases e
    cases hc with
    | flat hp => obtain ⟨_, _, vs, _, o, des, ep, ho, hx, _⟩ := dk_rd I.hok hr; exact ⟨o, ho, hx.2.1⟩
    | nest hne hp => obtain ⟨_, _, ys, _, o, des, ep, ho, hx, _⟩ := nest_of I hw hr hp; exact ⟨o, ho, hx.2.1⟩
  unfold mthD at h
  split at h
  · split at h
    · rename_i kvs k hk
      cases h
      obtain ⟨a, uo, rfl, hr, hc⟩ := hv.dict
      cases rv
      cases hs with
      | cons h1 t =>
        cases t
        obtain ⟨ku, rfl, rk⟩ := rs.one
        have g := (d_gets I hw (by omega) hr hc h1 hk rk (d := .none) (v := .non) (vu := .none) .non rfl).1
        exact ⟨"dict", "dict.get", (dd hr hc).1, (dd hr hc).2, .inl ⟨rfl, rfl, rfl⟩, thn g fun u' s' ⟨v, I', r', q⟩ => ⟨v, H, I', r', .same fo q⟩⟩
    · cases h
  · split at h
    · rename_i kvs k x hk
      cases h
      obtain ⟨a, uo, rfl, hr, hc⟩ := hv.dict
      cases rv
      cases hs with
      | cons h1 t =>
        cases t with
        | cons h2 t =>
          cases t
          obtain ⟨ku, xu, rfl, rk, rx⟩ := rs.two
          have g := (d_gets I hw (by omega) hr hc h1 hk rk h2 rx).2
          exact ⟨"dict", "dict.get", (dd hr hc).1, (dd hr hc).2, .inr (.inl ⟨rfl, rfl, rfl⟩), thn g fun u' s' ⟨v, I', r', q⟩ => ⟨v, H, I', r', .same fo q⟩⟩
    · cases h
  · split at h
    · rename_i xs x hk
      rw [Bool.and_eq_true] at hk
      obtain ⟨k, h3, rfl⟩ := Option.map_eq_some_iff.mp h
      obtain ⟨z, e1, e2, e3⟩ := findIdx_spec _ xs k h3
      cases hs with
      | cons h1 t =>
        cases t
        have hl := hv.dp (K := X.K) (SeqAt.canLay_of_shaped hk.2)
        obtain ⟨a, ws, rfl, ha, ra⟩ := id hv.list
        refine ⟨"list", "list.index", ?_, fun b e => ?_, .inr (.inr ⟨rfl, rfl, rfl⟩), mt_indexD (by omega) pins s σ H _ _ u us _ I rv rs ⟨a, _, x, xs, k, z, rfl, rfl, hl, h1.dp (SeqAt.canLay_of_shaped hk.1), hk.2, hk.1, e1, e2, e3, .int fo _⟩⟩
        · cases rv; exact (isl I ha).elim fun its q => q.2.typeIs
        · cases rv; cases e
          obtain ⟨_, its, n, _, _, e⟩ := Inv.lstR I ha
          exact ⟨_, e, rfl⟩
    · cases h
  · cases h
def mutId : Mut → String
  | .append => "list.append" | .extend => "list.extend" | .pop0 => "list.pop" | .pop1 => "list.pop" | .remove => "list.remove"
theorem place_seq {n : Nat} {i : Int} {k : Nat} (h : place n i = some k) : seqIndex? i n = some k ∧ k < n ∧ -(n : Int) ≤ i ∧ i < n := ixN_seq (place_ix h)
/-- a method that changes its list: what it hands back, what becomes of the list -/
theorem mut_ok (I : L2.Inv X pins σ H s) (fo : Fok F H) (m : Mut) {a : Addr} {vs : List V} {us : List Value} {d d' x : D} {ds : List D} (nF : ¬ F a) (rs : Vals vs us) (ho : Own F w H a d) (hs : VwA F w H vs ds) (h1 : m ≠ .extend → RpA F w H vs ds) (h : mutD m d ds = some (d', x)) :
    wpAny (model X.prog X.w) X.A (call (.builtin (mutId m)) (.ref a :: us)) (EP X pins σ fun v' H' => ∃ xs, H' = upd H a (.lst xs) ∧ Own F w H' a d' ∧ Rp F w H' v' x) X.xe s := by
  have kp : ∀ o, Keep F H F (upd H a o) := fun o => keep_upd fo nF
  unfold mutD at h
  split at h
  · split at h
    · rename_i xs x0 hl
      cases h
      have hr := h1 nofun
      cases ho with
      | lst ha ra =>
        cases hr with
        | cons r1 t =>
          cases t
          exact mt_append pins s σ H (.ref a) _ (.ref a) us _ I rfl rs ⟨a, _, _, rfl, rfl, ha, by rw [ra.length, sizeLine_eq]; exact hl, _, rfl, .lst upd_same ((ra.app (.cons r1 .nil)).stay (kp _)), .non⟩
    · cases h
  · split at h
    · rename_i xs ys hl
      cases h
      obtain ⟨v1, rfl, g⟩ := hs.one
      cases ho with
      | lst ha ra =>
        obtain ⟨b, ws, rfl, hb, rb⟩ := g.list
        rcases hb with hb | ⟨o, hb⟩
        · exact mt_extend pins s σ H (.ref a) _ (.ref a) us _ I rfl rs ⟨a, b, _, ws, rfl, rfl, ha, hb, lim_line (by rw [ra.length, rb.length]; exact hl), _, rfl, .lst upd_same ((ra.app rb).stay (kp _)), .non⟩
        · obtain rfl := rs.ref1
          obtain ⟨z, its, n, r, hl1, e⟩ := I.lstM ha
          obtain ⟨z2, its2, n2, r2, hl2, e2⟩ := Inv.lstR I (.inr ⟨o, hb⟩)
          have hsz : its.toArray.size + its2.toArray.size ≤ sizeLine := by
            rw [List.size_toArray, List.size_toArray, ← hl1, ← hl2, ra.length, rb.length]; exact lim_line hl
          have hlong : ¬ (!its.toArray.isEmpty && Builtin.List.listTooLong (its.toArray.size + its2.toArray.size)) = true := by
            rw [notLongL hsz, Bool.and_false]; exact Bool.false_ne_true
          refine call_meets PySem.F.slot_list_extend ⟨_, e, rfl⟩ PySem.F.entry_list_extend (PySem.F.args_list_extend_2 _ _)
            (AutoSeq1.list_extend_list_list_0 a its.toArray n b its2.toArray n2 hlong (by rw [List.size_toArray]; omega) (by omega)) ⟨e, e2, .non, _, I.lset (its' := its ++ its2) ha e (by simp) (r.append r2) ?_, rfl, _, rfl, .lst upd_same ((ra.app rb).stay (kp _)), .non⟩
          rw [List.length_append, ra.length, rb.length]; exact lim_line hl
    · cases h
  · rename_i xs
    obtain ⟨y, h2, h3⟩ := Option.map_eq_some_iff.mp h
    cases h3
    obtain rfl := hs.zero
    cases ho with
    | lst ha ra =>
      rw [List.getLast?_eq_getElem?] at h2
      obtain ⟨v, e1, e2⟩ := ra.get h2
      exact mt_pop pins s σ H (.ref a) _ (.ref a) us _ I rfl rs ⟨a, _, v, rfl, rfl, ha, by rw [ra.length]; exact e1, _, rfl, .lst upd_same (ra.dropLast.stay (kp _)), e2.stay (kp _)⟩
  · rename_i xs i
    obtain ⟨k, h2, h3⟩ := Option.bind_eq_some_iff.mp h
    obtain ⟨y, h4, h5⟩ := Option.map_eq_some_iff.mp h3
    cases h5
    obtain ⟨v1, rfl, g⟩ := hs.one
    obtain rfl := g.int
    cases ho with
    | lst ha ra =>
      obtain ⟨q1, q2, q3, q4⟩ := place_seq h2
      obtain ⟨v, e1, e2⟩ := ra.get h4
      have hz : xs.length ≤ sizeLine := by rw [← ra.length]; exact (I.lstM ha).1
      have := line63
      exact mt_popAt pins s σ H (.ref a) _ (.ref a) us _ I rfl rs ⟨a, _, i, k, v, rfl, rfl, ha, by omega, by omega, by rw [ra.length]; exact q1, e1, _, rfl, .lst upd_same ((ra.erase k).stay (kp _)), e2.stay (kp _)⟩
  · cases h
end
end Nv
end
section
set_option Elab.async false
set_option linter.all false
set_option maxRecDepth 100000
set_option maxHeartbeats 4000000
namespace Nv
open PySem PySem.Spec PyProof.Rows L2

theorem _root_.L2.PE.imp {X : Cx} {e : Expr} {t t' : TE} (h : PE X e t) (f : ∀ σ H Q, t' σ H Q → t σ H Q) : PE X e t' := ⟨fun pins s σ H Q I q => h.run pins s σ H Q I (f σ H Q q)⟩
theorem _root_.L2.PT.imp {X : Cx} {e : Expr} {t t' : TT} (h : PT X e t) (f : ∀ σ H Q, t' σ H Q → t σ H Q) : PT X e t' := ⟨fun pins s σ H Q I q => h.run pins s σ H Q I (f σ H Q q)⟩
theorem _root_.L2.PW.imp {X : Cx} {e : Expr} {t t' : TT} (h : PW X e t) (f : ∀ σ H Q, t' σ H Q → t σ H Q) : PW X e t' := ⟨fun wh pins s σ H Q I q => h.run wh pins s σ H Q I (f σ H Q q)⟩
theorem _root_.L2.PA.imp {X : Cx} {es : List Expr} {t t' : TA} (h : PA X es t) (f : ∀ σ H Q, t' σ H Q → t σ H Q) : PA X es t' := ⟨fun pos pins s σ H Q I q => h.run pos pins s σ H Q I (f σ H Q q)⟩

section
variable {F : Addr → Prop} {w : World} {H : Hp} {σ : St} {st : Sg}
/-- behind an operation that makes at most something new -/
theorem QN.aft {r : R} {v : V} {H' : Hp} (fo : Fok F H) (rl : Rl F w H σ st) (q : QN F w H r v H') : ∃ F', Aft F w H σ st F' H' st ∧ RR F' w H' σ st v r ∧ Nw H v r := by
  obtain ⟨F', sp, fo', rn⟩ := q
  have rl' := rl.stp fo sp fun a h => h.elim False.elim False.elim
  refine ⟨F', ⟨sp.mono (fun _ h => h.elim) (fun _ h => h.elim), rl', fo', fun _ h => h, fun _ h => h, fun _ h => h⟩, ?_⟩
  cases r with
  | im d => exact ⟨rn, trivial⟩
  | tm d =>
    obtain ⟨a, e, o, n, m⟩ := rn
    exact ⟨⟨a, e, o, n, fun z => (rl.wo z).1 m⟩, fun x ex => by rw [e] at ex; cases ex; exact m⟩
  | sl i => exact rn.elim
section
variable (F : Addr → Prop) (w : World) (H : Hp) (σ : St) (st : Sg)
inductive RRs : List V → List R → Prop
  | nil : RRs [] []
  | cons {v : V} {r : R} {vs : List V} {rs : List R} : RR F w H σ st v r → RRs vs rs → RRs (v :: vs) (r :: rs)
/-- a call's arguments: the slots that are handed over, the kept values -/
inductive AA : List V → List (Sum Nat D) → Prop
  | nil : AA [] []
  | io {v : V} {i : Nat} {vs : List V} {as : List (Sum Nat D)} : σ[i]? = some (some v) → AA vs as → AA (v :: vs) (.inl i :: as)
  | im {v : V} {d : D} {vs : List V} {as : List (Sum Nat D)} : Rp F w H v d → AA vs as → AA (v :: vs) (.inr d :: as)
end
variable {F1 : Addr → Prop} {H1 : Hp} {st1 : Sg}
theorem RRs.stay {vs : List V} {rs : List R} (fo : Fok F H) (rl : Rl F w H σ st) (a : Aft F w H σ st F1 H1 st1) (h : RRs F w H σ st vs rs) : RRs F1 w H1 σ st1 vs rs := by
  induction h with
  | nil => exact .nil
  | cons r t ih => exact .cons (r.stay fo rl a) ih
theorem RRs.vw (rl : Rl F w H σ st) : ∀ {vs : List V} {rs : List R} {ds : List D}, RRs F w H σ st vs rs → drs st rs = some ds → VwA F w H vs ds
  | _, _, _, .nil, e => by cases e; exact .nil
  | _, _, ds, .cons (r := r) (rs := rs) h t, e => by
    obtain ⟨d, e1, e2⟩ := Option.bind_eq_some_iff.mp (show (dr st r).bind (fun d => (drs st rs).map (d :: ·)) = some ds from e)
    obtain ⟨es, e3, rfl⟩ := Option.map_eq_some_iff.mp e2
    exact .cons (h.vw rl e1) (RRs.vw rl t e3)
theorem AA.stay {vs : List V} {as : List (Sum Nat D)} (k : Keep F H F1 H1) (h : AA F w H σ vs as) : AA F1 w H1 σ vs as := by
  induction h with
  | nil => exact .nil
  | io e t ih => exact .io e ih
  | im r t ih => exact .im (r.stay k) ih

theorem own_sl {i : Nat} {d : D} (rl : Rl F w H σ st) (h : sget st i = .ow d) : ∃ a, σ[i]? = some (some (.ref a)) ∧ Own F w H a d ∧ ¬ F a := by
  have := rl.ok i
  rw [h] at this
  exact this
theorem stp_plus {a : Addr} {W O : Addr → Prop} (h : H a ≠ none) (ho : O a) : Stp F H W O (plus F a) H := ⟨fun _ z => .inl z, fun x z => z.elim .inl fun e => .inr (.inr (e ▸ ho)), fun _ _ _ => rfl, fun _ z => z⟩
theorem stp_frz {a : Addr} {W O : Addr → Prop} {o : HO} (ho : O a) (hw : W a) : Stp F H W O (plus F a) (upd H a o) :=
  ⟨fun _ z => .inl z, fun x z => z.elim .inl fun e => .inr (.inr (e ▸ ho)), fun x _ n => upd_ne fun e => n (e ▸ hw), fun x z => by
    by_cases e : x = a
    · rw [e, upd_same]; exact fun z => by cases z
    · rw [upd_ne e]; exact z⟩
theorem keep_frz {a : Addr} {o : HO} (n : ¬ F a) : Keep F H (plus F a) (upd H a o) := ⟨fun _ z => .inl z, fun x h => upd_ne fun e => n (e ▸ h)⟩
/-- the slots, where the one at i is kept from now on -/
theorem Rl.fz {F' : Addr → Prop} {H' : Hp} {i : Nat} {a : Addr} {d : D} (rl : Rl F w H σ st) (k : Keep F H F' H') (ei : σ[i]? = some (some (.ref a))) (oi : (sget st i).owned) (hF : ∀ x, F' x → F x ∨ x = a) (hH : ∀ x, x ≠ a → H' x = H x) (nF : ¬ F a) (rp : Rp F' w H' (.ref a) d) :
    Rl F' w H' σ (st.set i (.im d)) ∧ (∀ x, (sget (st.set i (.im d)) x).open → (sget st x).open) ∧ (∀ x, (sget (st.set i (.im d)) x).owned → (sget st x).owned) ∧ ∀ j, sget st j ≠ .un → sget (st.set i (.im d)) j ≠ .un := by
  have hl : i < st.length := sget_lt fun e => by rw [e] at oi; exact oi
  have ne : ∀ j x, j ≠ i → (sget st j).owned → σ[j]? = some (some (.ref x)) → x ≠ a := fun j x hj ho e z => hj (rl.inj j i a ho oi (z ▸ e) ei)
  have gs : ∀ j, sget (st.set i (.im d)) j = if i = j then .im d else sget st j := fun j => by
    rw [sget_set]
    by_cases e : i = j
    · rw [if_pos ⟨e, hl⟩, if_pos e]
    · rw [if_neg fun z => e z.1, if_neg e]
  refine ⟨⟨by rw [List.length_set]; exact rl.len, fun j => ?_, fun j l x h1 h2 e1 e2 => ?_⟩, fun j h1 => ?_, fun j h1 => ?_, fun j hj => ?_⟩
  · rw [gs]
    by_cases e : i = j
    · subst e; rw [if_pos rfl]; exact ⟨_, ei, rp⟩
    · rw [if_neg e]
      refine (rl.ok j).stay k fun x ho ex => ?_
      have q := ne j x (fun z => e z.symm) ho ex
      refine ⟨hH x q, fun z => ?_⟩
      rcases hF x z with y | y
      · exact (rl.wo ⟨j, ho, ex⟩).2 y
      · exact q y
  · rw [gs] at h1 h2
    by_cases e : i = j
    · rw [if_pos e] at h1; exact h1.elim
    · by_cases e' : i = l
      · rw [if_pos e'] at h2; exact h2.elim
      · rw [if_neg e] at h1; rw [if_neg e'] at h2
        exact rl.inj j l x h1 h2 e1 e2
  · rw [gs] at h1
    by_cases e : i = j
    · rw [if_pos e] at h1; exact h1.elim
    · rw [if_neg e] at h1; exact h1
  · rw [gs] at h1
    by_cases e : i = j
    · rw [if_pos e] at h1; exact h1.elim
    · rw [if_neg e] at h1; exact h1
  · rw [gs]
    by_cases e : i = j
    · rw [if_pos e]; exact fun z => by cases z
    · rw [if_neg e]; exact hj
theorem dc_mut {a : Addr} {u : HO} {kvs : List (D × D)} (h : Dc F w H a u kvs) : L2.Mut (some u) := by cases h <;> exact True.intro
/-- what was given is kept from now on: a dict is locked for good -/
theorem fz_ok {X : Cx} {pins : List (Addr × Obj)} {s : Shared} (I : L2.Inv X pins σ H s) (fo : Fok F H) (rl : Rl F w H σ st) {r : R} {v : V} {d : D} {st' : Sg} (rr : RR F w H σ st v r) (h : fz st r = some (d, st')) :
    ∃ F' H', L2.Inv X pins σ H' s ∧ (∀ W O, (∀ x, Wo σ st x → O x) → (∀ x, Wr σ st x → W x) → (∀ x, (∃ d, r = .tm d) → v = .ref x → W x ∧ O x) → Stp F H W O F' H') ∧ Fok F' H' ∧ Rl F' w H' σ st' ∧ (∀ x, (sget st' x).open → (sget st x).open) ∧ (∀ x, (sget st' x).owned → (sget st x).owned) ∧ (∀ j, sget st j ≠ .un → sget st' j ≠ .un) ∧ Rp F' w H' v d := by
  cases r with
  | im d0 => cases h; exact ⟨F, H, I, fun _ _ _ _ _ => .refl, fo, rl, fun _ h => h, fun _ h => h, fun _ h => h, rr⟩
  | tm d0 =>
    cases h
    obtain ⟨a, rfl, o, n, m⟩ := rr
    cases o with
    | lst ha ra =>
      have rp : Rp (plus F a) w H (.ref a) _ := .lst (.inr rfl) (.inl ha) (ra.stay keep_plus)
      refine ⟨plus F a, H, I, fun W O _ _ hx => stp_plus (by rw [ha]; exact nofun) (hx a ⟨_, rfl⟩ rfl).2, fok_plus fo (by rw [ha]; exact nofun), rl.stay keep_plus fun x hx => ⟨rfl, fun z => ?_⟩, fun _ h => h, fun _ h => h, fun _ h => h, rp⟩
      rcases z with z | z
      · exact (rl.wo hx).2 z
      · exact m (z ▸ hx)
    | dct ha hc =>
      rename_i u0 _
      obtain ⟨od, I'⟩ := I.lock ha (dc_mut hc)
      have k : Keep F H (plus F a) (upd H a (.frz od u0)) := keep_frz n
      refine ⟨plus F a, _, I', fun W O _ _ hx => stp_frz (hx a ⟨_, rfl⟩ rfl).2 (hx a ⟨_, rfl⟩ rfl).1, fok_plus (fok_new fo) (by rw [upd_same]; exact nofun), rl.stay k fun x hx => ?_, fun _ h => h, fun _ h => h, fun _ h => h, .dct (.inr rfl) upd_same (hc.stay k)⟩
      have q : x ≠ a := fun z => m (z ▸ hx)
      refine ⟨upd_ne q, fun z => ?_⟩
      rcases z with z | z
      · exact (rl.wo hx).2 z
      · exact q z
  | sl i =>
    obtain ⟨e, hn⟩ := rr
    have ok := rl.ok i
    cases hx : sget st i with
    | un => exact absurd hx hn
    | im d0 =>
      simp only [Nv.fz, hx, Option.some.injEq, Prod.mk.injEq] at h
      obtain ⟨rfl, rfl⟩ := h
      rw [hx] at ok
      obtain ⟨v', e', rp⟩ := ok
      rw [e] at e'; cases e'
      exact ⟨F, H, I, fun _ _ _ _ _ => .refl, fo, rl, fun _ h => h, fun _ h => h, fun _ h => h, rp⟩
    | ow d0 =>
      simp only [Nv.fz, hx, Option.some.injEq, Prod.mk.injEq] at h
      obtain ⟨rfl, rfl⟩ := h
      rw [hx] at ok
      obtain ⟨a, e', o, n⟩ := ok
      rw [e] at e'; cases e'
      have oi : (sget st i).owned := by rw [hx]; exact True.intro
      have op : (sget st i).open := by rw [hx]; exact True.intro
      cases o with
      | lst ha ra =>
        obtain ⟨g1, g2, g3, g4⟩ := rl.fz keep_plus e oi (fun _ z => z) (fun _ _ => rfl) n (d := _) (.lst (.inr rfl) (.inl ha) (ra.stay keep_plus))
        exact ⟨plus F a, H, I, fun W O ho _ _ => stp_plus (by rw [ha]; exact nofun) (ho a ⟨i, oi, e⟩), fok_plus fo (by rw [ha]; exact nofun), g1, g2, g3, g4, .lst (.inr rfl) (.inl ha) (ra.stay keep_plus)⟩
      | dct ha hc =>
        rename_i u0 _
        obtain ⟨od, I'⟩ := I.lock ha (dc_mut hc)
        have k : Keep F H (plus F a) (upd H a (.frz od u0)) := keep_frz n
        obtain ⟨g1, g2, g3, g4⟩ := rl.fz k e oi (fun _ z => z) (fun x hx => upd_ne hx) n (d := _) (.dct (.inr rfl) upd_same (hc.stay k))
        exact ⟨plus F a, _, I', fun W O ho hw _ => stp_frz (ho a ⟨i, oi, e⟩) (hw a ⟨i, op, e⟩), fok_plus (fok_new fo) (by rw [upd_same]; exact nofun), g1, g2, g3, g4, .dct (.inr rfl) upd_same (hc.stay k)⟩
    | lk d0 =>
      simp only [Nv.fz, hx, Option.some.injEq, Prod.mk.injEq] at h
      obtain ⟨rfl, rfl⟩ := h
      rw [hx] at ok
      obtain ⟨a, e', o, n⟩ := ok
      rw [e] at e'; cases e'
      have oi : (sget st i).owned := by rw [hx]; exact True.intro
      cases o with
      | lst ha ra =>
        obtain ⟨g1, g2, g3, g4⟩ := rl.fz keep_plus e oi (fun _ z => z) (fun _ _ => rfl) n (d := _) (.lst (.inr rfl) (.inl ha) (ra.stay keep_plus))
        exact ⟨plus F a, H, I, fun W O ho _ _ => stp_plus (by rw [ha]; exact nofun) (ho a ⟨i, oi, e⟩), fok_plus fo (by rw [ha]; exact nofun), g1, g2, g3, g4, .lst (.inr rfl) (.inl ha) (ra.stay keep_plus)⟩
      | dct ha hc =>
        obtain ⟨g1, g2, g3, g4⟩ := rl.fz keep_plus e oi (fun _ z => z) (fun _ _ => rfl) n (d := _) (.dct (.inr rfl) ha (hc.stay keep_plus))
        exact ⟨plus F a, H, I, fun W O ho _ _ => stp_plus (by rw [ha]; exact nofun) (ho a ⟨i, oi, e⟩), fok_plus fo (by rw [ha]; exact nofun), g1, g2, g3, g4, .dct (.inr rfl) ha (hc.stay keep_plus)⟩
/-- .. behind the expression that gave it -/
theorem fz_aft {X : Cx} {pins : List (Addr × Obj)} {s : Shared} {F0 : Addr → Prop} {H0 : Hp} {st0 : Sg} (fo0 : Fok F0 H0) (rl0 : Rl F0 w H0 σ st0) (a0 : Aft F0 w H0 σ st0 F H st) (I : L2.Inv X pins σ H s) {r : R} {v : V} {d : D} {st' : Sg} (rr : RR F w H σ st v r) (hf : ∀ x, (∃ d, r = .tm d) → v = .ref x → H0 x = none) (h : fz st r = some (d, st')) :
    ∃ F' H', L2.Inv X pins σ H' s ∧ Aft F0 w H0 σ st0 F' H' st' ∧ Rp F' w H' v d := by
  obtain ⟨F', H', I', sp, fo', rl', g1, g2, g3, rp⟩ := fz_ok I a0.fo a0.rl rr h
  refine ⟨F', H', I', ⟨?_, rl', fo', fun x z => a0.opn x (g1 x z), fun x z => a0.own x (g2 x z), fun i z => g3 i (a0.un i z)⟩, rp⟩
  refine a0.stp.trans (sp (fun x => Wr σ st x ∨ H0 x = none) (fun x => Wo σ st x ∨ H0 x = none) (fun x h => .inl h) (fun x h => .inl h) fun x h1 h2 => ⟨.inr (hf x h1 h2), .inr (hf x h1 h2)⟩) (fun x h => h.imp (a0.wr x) id) fun x h => h.imp (a0.wo x) id
end

def tL (w : World) (f : Sg → Option (List R × Sg)) : TA := fun σ H Q => ∃ F st rs st', Fok F H ∧ Rl F w H σ st ∧ f st = some (rs, st') ∧
  ∀ vs F' H', Aft F w H σ st F' H' st' → RRs F' w H' σ st' vs rs → Q vs H'
def tF (w : World) (f : Sg → Option (List D × Sg)) : TA := fun σ H Q => ∃ F st ds st', Fok F H ∧ Rl F w H σ st ∧ f st = some (ds, st') ∧
  ∀ vs F' H', Aft F w H σ st F' H' st' → RpA F' w H' vs ds → Q vs H'
def tA (w : World) (f : Sg → Option (List (Sum Nat D) × Sg)) : TA := fun σ H Q => ∃ F st as st', Fok F H ∧ Rl F w H σ st ∧ f st = some (as, st') ∧
  ∀ vs F' H', Aft F w H σ st F' H' st' → AA F' w H' σ vs as → Q vs H'
def tK (w : World) (f : Sg → Option (R × Sg)) : TE := fun σ H Q => ∃ F st d st', Fok F H ∧ Rl F w H σ st ∧ ((f st).bind fun p => fz p.2 p.1) = some (d, st') ∧
  ∀ v F' H', Aft F w H σ st F' H' st' → Rp F' w H' v d → Q v H'
end Nv
end
section
set_option Elab.async false
set_option linter.all false
set_option maxRecDepth 100000
set_option maxHeartbeats 4000000
namespace Nv
open PySem PySem.Spec PyProof.Rows L2

section
variable {X : Cx} {w : World} {a b c : Expr} {pos : Pos} {fa fb fc : Sg → Option (R × Sg)}
/-- the parts of a run -/
theorem bnd1 {α β : Type} {x : Option α} {f : α → Option β} {y : β} (h : x.bind f = some y) : ∃ z, x = some z ∧ f z = some y := Option.bind_eq_some_iff.mp h
theorem map1 {α β : Type} {x : Option α} {f : α → β} {y : β} (h : x.map f = some y) : ∃ z, x = some z ∧ f z = y := Option.map_eq_some_iff.mp h
/-- a step that gives a value that stands, nothing changed -/
theorem fin_im {F F1 : Addr → Prop} {H H1 : Hp} {σ : St} {st st1 : Sg} {d : D} {v : V} {Q : VK} (A : Aft F w H σ st F1 H1 st1) (r : Rp F1 w H1 v d)
    (q : ∀ v F' H', Aft F w H σ st F' H' st1 → RR F' w H' σ st1 v (.im d) → Nw H v (.im d) → Q v H') : Q v H1 := q v F1 H1 A r trivial
theorem r_bin (o : Bop) (ha : PE X a (tS w fa)) (hb : PE X b (tS w fb)) :
    PE X (.BinOp a (opOf o) b pos) (tS w fun st => (fa st).bind fun p => (fb p.2).bind fun q => (dr q.2 p.1).bind fun x => (dr q.2 q.1).bind fun y => (binD o x y).map fun r => (r, q.2)) := by
  refine (pe_op (op_bin o w) ha hb).imp fun σ H Q h => ?_
  obtain ⟨F, st, r, st', fo, rl, hf, q⟩ := h
  obtain ⟨p, h1, hf⟩ := bnd1 hf
  obtain ⟨p2, h2, hf⟩ := bnd1 hf
  obtain ⟨x, h3, hf⟩ := bnd1 hf
  obtain ⟨y, h4, hf⟩ := bnd1 hf
  obtain ⟨r', h5, hf⟩ := map1 hf
  cases hf
  refine ⟨F, st, p.1, p.2, fo, rl, h1, fun v1 F1 H1 A1 R1 N1 => ⟨F1, p.2, p2.1, p2.2, A1.fo, A1.rl, h2, fun v2 F2 H2 A2 R2 N2 => ?_⟩⟩
  have R1' := R1.stay A1.fo A1.rl A2
  refine ⟨F2, x, y, r, A2.fo, R1'.vw A2.rl h3, R2.vw A2.rl h4, h5, fun v H' qn => ?_⟩
  obtain ⟨F3, A3, R3, N3⟩ := qn.aft A2.fo A2.rl
  exact q v F3 H' ((A1.trans A2).trans A3) R3 (N3.back (A1.trans A2))
/-- two operands, an answer -/
def f_cmp (o : Cop) (fa fb : Sg → Option (R × Sg)) : Sg → Option (R × Sg) := fun st => (fa st).bind fun p => (fb p.2).bind fun q => (dr q.2 p.1).bind fun x => (dr q.2 q.1).bind fun y => (cmpD o x y).map fun r => (notR r, q.2)
def rCmpE (w : World) (o : Cop) : R2 := fun x y H Q => ∃ F d e k, Fok F H ∧ Vw F w H x d ∧ Vw F w H y e ∧ cmpD o d e = some k ∧ Q (.bl k) H
theorem op_cmp (hw : X.w = w) (hu : X.A.units + 65 < cLine) (o : Cop) : OpR X (compareOp (cOf o)) (rCmpE w o) := by
  intro pins s σ H x y v u Q I rx ry h
  obtain ⟨F, d, e, k, fo, hx, hy, hc, q⟩ := h
  exact thn (cmp_ok I hw hu o rx ry hx hy hc) fun z s' ⟨I', ez⟩ => ⟨.bl k, H, I', ez, q⟩
theorem i_cmp (o : Cop) {σ : St} {H : Hp} {Q : VK} (h : tS w (f_cmp o fa fb) σ H Q) : tOp (rCmpE w o) (tS w fa) (tS w fb) σ H Q := by
  obtain ⟨F, st, r, st', fo, rl, hf, q⟩ := h
  obtain ⟨p, h1, hf⟩ := bnd1 hf
  obtain ⟨p2, h2, hf⟩ := bnd1 hf
  obtain ⟨x, h3, hf⟩ := bnd1 hf
  obtain ⟨y, h4, hf⟩ := bnd1 hf
  obtain ⟨k, h5, hf⟩ := map1 hf
  cases hf
  refine ⟨F, st, p.1, p.2, fo, rl, h1, fun v1 F1 H1 A1 R1 N1 => ⟨F1, p.2, p2.1, p2.2, A1.fo, A1.rl, h2, fun v2 F2 H2 A2 R2 N2 => ?_⟩⟩
  have R1' := R1.stay A1.fo A1.rl A2
  exact ⟨F2, x, y, k, A2.fo, R1'.vw A2.rl h3, R2.vw A2.rl h4, h5, fin_im (A1.trans A2) (.bl k) q⟩
theorem r_cmp (hw : X.w = w) (hu : X.A.units + 65 < cLine) (o : Cop) (ha : PE X a (tS w fa)) (hb : PE X b (tS w fb)) (hm : behindInMarks (cOf o) b = false) : PE X (.Compare a [cOf o] [b] pos) (tS w (f_cmp o fa fb)) :=
  (pe_cmpR (op_cmp hw hu o) ha hb hm).imp fun σ H Q h => i_cmp o h
theorem t_cmp (hw : X.w = w) (hu : X.A.units + 65 < cLine) (o : Cop) (ha : PE X a (tS w fa)) (hb : PE X b (tS w fb)) (hm : behindInMarks (cOf o) b = false) : PT X (.Compare a [cOf o] [b] pos) (tTest (tS w (f_cmp o fa fb))) :=
  (pt_cmpR (op_cmp hw hu o) ha hb hm).imp fun σ H Q h => i_cmp o h
def f_chn (o1 o2 : Cop) (fa fb fc : Sg → Option (R × Sg)) : Sg → Option (R × Sg) := fun st => (fa st).bind fun p => (fb p.2).bind fun q => (dr q.2 p.1).bind fun x => (dr q.2 q.1).bind fun y => (cmpD o1 x y).bind fun r =>
  bif r then (fc q.2).bind fun u => (dr u.2 q.1).bind fun y => (dr u.2 u.1).bind fun z => (cmpD o2 y z).map fun r => (notR r, u.2) else some (notR false, q.2)
theorem i_chn (o1 o2 : Cop) {σ : St} {H : Hp} {Q : VK} (h : tS w (f_chn o1 o2 fa fb fc) σ H Q) : tChain (rCmpE w o1) (rCmpE w o2) (tS w fa) (tS w fb) (tS w fc) σ H Q := by
  obtain ⟨F, st, r, st', fo, rl, hf, q⟩ := h
  obtain ⟨p, h1, hf⟩ := bnd1 hf
  obtain ⟨p2, h2, hf⟩ := bnd1 hf
  obtain ⟨x, h3, hf⟩ := bnd1 hf
  obtain ⟨y, h4, hf⟩ := bnd1 hf
  obtain ⟨k, h5, hf⟩ := bnd1 hf
  refine ⟨F, st, p.1, p.2, fo, rl, h1, fun v1 F1 H1 A1 R1 N1 => ⟨F1, p.2, p2.1, p2.2, A1.fo, A1.rl, h2, fun v2 F2 H2 A2 R2 N2 => ?_⟩⟩
  have R1' := R1.stay A1.fo A1.rl A2
  refine ⟨F2, x, y, k, A2.fo, R1'.vw A2.rl h3, R2.vw A2.rl h4, h5, k, rfl, ?_⟩
  cases k with
  | false =>
    cases hf
    exact iteF (fin_im (A1.trans A2) (.bl false) q)
  | true =>
    obtain ⟨p3, h6, hf⟩ := bnd1 (show (fc p2.2).bind _ = _ from hf)
    obtain ⟨y', h7, hf⟩ := bnd1 hf
    obtain ⟨z, h8, hf⟩ := bnd1 hf
    obtain ⟨k', h9, hf⟩ := map1 hf
    cases hf
    refine iteT ⟨F2, p2.2, p3.1, p3.2, A2.fo, A2.rl, h6, fun v3 F3 H3 A3 R3 N3 => ?_⟩
    have R2' := R2.stay A2.fo A2.rl A3
    exact ⟨F3, y', z, k', A3.fo, R2'.vw A3.rl h7, R3.vw A3.rl h8, h9, fin_im ((A1.trans A2).trans A3) (.bl k') q⟩
theorem r_chn (hw : X.w = w) (hu : X.A.units + 65 < cLine) (o1 o2 : Cop) (ha : PE X a (tS w fa)) (hb : PE X b (tS w fb)) (hc : PE X c (tS w fc)) (hm : lastMarks [cOf o1, cOf o2] [b, c] = false) : PE X (.Compare a [cOf o1, cOf o2] [b, c] pos) (tS w (f_chn o1 o2 fa fb fc)) :=
  (pe_chain (op_cmp hw hu o1) (op_cmp hw hu o2) ha hb hc hm).imp fun σ H Q h => i_chn o1 o2 h
theorem t_chn (hw : X.w = w) (hu : X.A.units + 65 < cLine) (o1 o2 : Cop) (ha : PE X a (tS w fa)) (hb : PE X b (tS w fb)) (hc : PE X c (tS w fc)) (hm : lastMarks [cOf o1, cOf o2] [b, c] = false) : PT X (.Compare a [cOf o1, cOf o2] [b, c] pos) (tTest (tS w (f_chn o1 o2 fa fb fc))) :=
  (pt_chain (op_cmp hw hu o1) (op_cmp hw hu o2) ha hb hc hm).imp fun σ H Q h => i_chn o1 o2 h
theorem boolOf_eq {d : D} {k : Bool} (h : boolOf d = some k) : d = .bool k := by
  cases d with
  | bool b => cases h; rfl
  | _ => cases h
theorem r_neg (ha : PE X a (tS w fa)) : PE X (.UnaryOp .USub a pos) (tS w fun st => (fa st).bind fun p => (dr p.2 p.1).bind fun x => (intOf x).bind fun i => if isInt x then some (.im (.int (-i)), p.2) else none) := by
  refine (pe_un un_neg ha).imp fun σ H Q h => ?_
  obtain ⟨F, st, r, st', fo, rl, hf, q⟩ := h
  obtain ⟨p, h1, hf⟩ := bnd1 hf
  obtain ⟨x, h3, hf⟩ := bnd1 hf
  obtain ⟨i, h4, hf⟩ := bnd1 hf
  split at hf
  · rename_i hi
    cases x with
    | int j =>
      cases h4
      cases hf
      exact ⟨F, st, p.1, p.2, fo, rl, h1, fun v1 F1 H1 A1 R1 N1 => ⟨i, (R1.vw A1.rl h3).int, fin_im A1 (.int _) q⟩⟩
    | _ => cases hi
  · cases hf
theorem r_not (ha : PE X a (tS w fa)) : PE X (.UnaryOp .Not a pos) (tS w fun st => (fa st).bind fun p => (dr p.2 p.1).bind fun x => (boolOf x).map fun k => (notR (!k), p.2)) := by
  refine (pe_not ha).imp fun σ H Q h => ?_
  obtain ⟨F, st, r, st', fo, rl, hf, q⟩ := h
  obtain ⟨p, h1, hf⟩ := bnd1 hf
  obtain ⟨x, h3, hf⟩ := bnd1 hf
  obtain ⟨k, h4, hf⟩ := map1 hf
  cases hf
  obtain rfl := boolOf_eq h4
  exact ⟨F, st, p.1, p.2, fo, rl, h1, fun v1 F1 H1 A1 R1 N1 => ⟨k, (R1.vw A1.rl h3).bl, fin_im A1 (.bl _) q⟩⟩
theorem r_and {rest : List Expr} (ha : PE X a (tS w fa)) (hb : PE X (.BoolOp .And (b :: rest) pos) (tS w fb)) : PE X (.BoolOp .And (a :: b :: rest) pos) (tS w fun st => (fa st).bind fun p => (dr p.2 p.1).bind fun x => (boolOf x).bind fun k => bif k then fb p.2 else some (notR false, p.2)) := by
  refine (pe_and ha hb).imp fun σ H Q h => ?_
  obtain ⟨F, st, r, st', fo, rl, hf, q⟩ := h
  obtain ⟨p, h1, hf⟩ := bnd1 hf
  obtain ⟨x, h3, hf⟩ := bnd1 hf
  obtain ⟨k, h4, hf⟩ := bnd1 hf
  obtain rfl := boolOf_eq h4
  refine ⟨F, st, p.1, p.2, fo, rl, h1, fun v1 F1 H1 A1 R1 N1 => ⟨k, (R1.vw A1.rl h3).bl, ?_⟩⟩
  cases k with
  | false => cases hf; exact iteF (fin_im A1 (.bl false) q)
  | true => exact iteT ⟨F1, p.2, r, st', A1.fo, A1.rl, hf, fun v2 F2 H2 A2 R2 N2 => q v2 F2 H2 (A1.trans A2) R2 (N2.back A1)⟩
theorem r_or {rest : List Expr} (ha : PE X a (tS w fa)) (hb : PE X (.BoolOp .Or (b :: rest) pos) (tS w fb)) : PE X (.BoolOp .Or (a :: b :: rest) pos) (tS w fun st => (fa st).bind fun p => (dr p.2 p.1).bind fun x => (boolOf x).bind fun k => bif k then some (notR true, p.2) else fb p.2) := by
  refine (pe_or ha hb).imp fun σ H Q h => ?_
  obtain ⟨F, st, r, st', fo, rl, hf, q⟩ := h
  obtain ⟨p, h1, hf⟩ := bnd1 hf
  obtain ⟨x, h3, hf⟩ := bnd1 hf
  obtain ⟨k, h4, hf⟩ := bnd1 hf
  obtain rfl := boolOf_eq h4
  refine ⟨F, st, p.1, p.2, fo, rl, h1, fun v1 F1 H1 A1 R1 N1 => ⟨k, (R1.vw A1.rl h3).bl, ?_⟩⟩
  cases k with
  | true => cases hf; exact iteT (fin_im A1 (.bl true) q)
  | false => exact iteF ⟨F1, p.2, r, st', A1.fo, A1.rl, hf, fun v2 F2 H2 A2 R2 N2 => q v2 F2 H2 (A1.trans A2) R2 (N2.back A1)⟩
theorem r_ife {fc : Sg → Option (Bool × Sg)} (hc : PT X c (tB' w fc)) (ha : PE X a (tS w fa)) (hb : PE X b (tS w fb)) : PE X (.IfExp c a b pos) (tS w fun st => (fc st).bind fun p => bif p.1 then fa p.2 else fb p.2) := by
  refine (pe_ifExp hc ha hb).imp fun σ H Q h => ?_
  obtain ⟨F, st, r, st', fo, rl, hf, q⟩ := h
  obtain ⟨p, h1, hf⟩ := bnd1 hf
  refine ⟨F, st, p.1, p.2, fo, rl, h1, fun F1 H1 A1 => ?_⟩
  cases hk : p.1 with
  | true => rw [hk] at hf; exact iteT ⟨F1, p.2, r, st', A1.fo, A1.rl, hf, fun v2 F2 H2 A2 R2 N2 => q v2 F2 H2 (A1.trans A2) R2 (N2.back A1)⟩
  | false => rw [hk] at hf; exact iteF ⟨F1, p.2, r, st', A1.fo, A1.rl, hf, fun v2 F2 H2 A2 R2 N2 => q v2 F2 H2 (A1.trans A2) R2 (N2.back A1)⟩
end
end Nv
end
section
set_option Elab.async false
set_option linter.all false
set_option maxRecDepth 100000
set_option maxHeartbeats 4000000
namespace Nv
open PySem PySem.Spec PyProof.Rows L2

section
variable {X : Cx} {w : World} {a b c : Expr} {es : List Expr} {pos : Pos} {fa fb fc : Sg → Option (R × Sg)}
variable {ga gb : Sg → Option (Bool × Sg)}
theorem t_not (ha : PT X a (tB' w ga)) : PT X (.UnaryOp .Not a pos) (tB' w fun st => (ga st).map fun p => (!p.1, p.2)) := by
  refine (pt_not ha).imp fun σ H Q h => ?_
  obtain ⟨F, st, b, st', fo, rl, hf, q⟩ := h
  obtain ⟨p, h1, hf⟩ := map1 hf
  cases hf
  exact ⟨F, st, p.1, p.2, fo, rl, h1, q⟩
theorem t_and1 (ha : PT X a (tB' w ga)) : PW X (.BoolOp .And [a] pos) (tB' w ga) := pw_and1 ha
theorem t_or1 (ha : PT X a (tB' w ga)) : PW X (.BoolOp .Or [a] pos) (tB' w ga) := pw_or1 ha
theorem t_and {rest : List Expr} (ha : PT X a (tB' w ga)) (hb : PW X (.BoolOp .And (b :: rest) pos) (tB' w gb)) : PW X (.BoolOp .And (a :: b :: rest) pos) (tB' w fun st => (ga st).bind fun p => bif p.1 then gb p.2 else some (false, p.2)) := by
  refine (pw_and ha hb).imp fun σ H Q h => ?_
  obtain ⟨F, st, k, st', fo, rl, hf, q⟩ := h
  obtain ⟨p, h1, hf⟩ := bnd1 hf
  refine ⟨F, st, p.1, p.2, fo, rl, h1, fun F1 H1 A1 => ?_⟩
  cases hk : p.1 with
  | true => rw [hk] at hf; exact iteT ⟨F1, p.2, k, st', A1.fo, A1.rl, hf, fun F2 H2 A2 => q F2 H2 (A1.trans A2)⟩
  | false => rw [hk] at hf; cases hf; exact iteF (q F1 H1 A1)
theorem t_or {rest : List Expr} (ha : PT X a (tB' w ga)) (hb : PW X (.BoolOp .Or (b :: rest) pos) (tB' w gb)) : PW X (.BoolOp .Or (a :: b :: rest) pos) (tB' w fun st => (ga st).bind fun p => bif p.1 then some (true, p.2) else gb p.2) := by
  refine (pw_or ha hb).imp fun σ H Q h => ?_
  obtain ⟨F, st, k, st', fo, rl, hf, q⟩ := h
  obtain ⟨p, h1, hf⟩ := bnd1 hf
  refine ⟨F, st, p.1, p.2, fo, rl, h1, fun F1 H1 A1 => ?_⟩
  cases hk : p.1 with
  | false => rw [hk] at hf; exact iteF ⟨F1, p.2, k, st', A1.fo, A1.rl, hf, fun F2 H2 A2 => q F2 H2 (A1.trans A2)⟩
  | true => rw [hk] at hf; cases hf; exact iteT (q F1 H1 A1)
theorem tru_ok' {K : PySem.W.Frag} {F : Addr → Prop} {H : Hp} {v : V} {d : D} {k : Bool} (h : Vw F w H v d) (e : tru d = some k) : TruV K v H k := by
  cases d with
  | none => cases e; obtain rfl := h.non; exact (rfl : false = false)
  | bool b => cases e; obtain rfl := h.bl; exact (rfl : _ = _)
  | int i => cases e; obtain rfl := h.int; exact (rfl : _ = _)
  | str x =>
    obtain rfl := h.str
    have e : (if x.cps.size ≤ lim then some (x.cps.size != 0) else none) = some k := e
    split at e
    · rename_i hl
      cases e
      refine ⟨lim_line hl, ?_⟩
      show (x.cps.size != 0) = ((x.cps.size : Int) != 0)
      cases hx : x.cps.size with
      | zero => rfl
      | succ n => simp; omega
    · cases e
  | list xs =>
    cases e
    obtain ⟨a, vs, rfl, ha, ra⟩ := h.list
    refine .inl ⟨vs, .inl ha, ?_⟩
    cases ra <;> rfl
  | tuple xs =>
    cases e
    obtain ⟨a, vs, rfl, ha, ra, _⟩ := h.tuple
    refine .inr (.inl ⟨vs, .inl ha, ?_⟩)
    cases ra <;> rfl
  | dict kvs => cases e
def f_of (fa : Sg → Option (R × Sg)) : Sg → Option (Bool × Sg) := fun st => (fa st).bind fun p => (dr p.2 p.1).bind fun d => (tru d).map fun b => (b, p.2)
theorem t_of (ha : PE X a (tS w fa)) (he : ∀ whole, isTrue a X.env whole = (do let v ← whole; standAt a.pos; holding [v] (truthy v))) : PT X a (tB' w (f_of fa)) := by
  refine (pt_truth ha he).imp fun σ H Q h => ?_
  obtain ⟨F, st, k, st', fo, rl, hf, q⟩ := h
  obtain ⟨p, h1, hf⟩ := bnd1 hf
  obtain ⟨d, h2, hf⟩ := bnd1 hf
  obtain ⟨k', h3, hf⟩ := map1 hf
  cases hf
  exact ⟨F, st, p.1, p.2, fo, rl, h1, fun v1 F1 H1 A1 R1 N1 => ⟨_, tru_ok' (R1.vw A1.rl h2) h3, q F1 H1 A1⟩⟩
/-- a comparison as a test -/
theorem t_ofT {f : Sg → Option (R × Sg)} (hb : ∀ st r st', f st = some (r, st') → ∃ k, r = notR k) (h : PT X a (tTest (tS w f))) : PT X a (tB' w (f_of f)) := by
  refine h.imp fun σ H Q h => ?_
  obtain ⟨F, st, k, st', fo, rl, hf, q⟩ := h
  obtain ⟨p, h1, hf⟩ := bnd1 hf
  obtain ⟨k', e⟩ := hb st p.1 p.2 h1
  rw [e] at hf
  cases hf
  refine ⟨F, st, p.1, p.2, fo, rl, h1, fun v1 F1 H1 A1 R1 N1 => ?_⟩
  rw [e] at R1
  cases R1
  exact ⟨k, rfl, q F1 H1 A1⟩
theorem cmp_bool {o : Cop} {st st' : Sg} {r : R} (h : f_cmp o fa fb st = some (r, st')) : ∃ k, r = notR k := by
  obtain ⟨p, h1, hf⟩ := bnd1 h
  obtain ⟨p2, h2, hf⟩ := bnd1 hf
  obtain ⟨x, h3, hf⟩ := bnd1 hf
  obtain ⟨y, h4, hf⟩ := bnd1 hf
  obtain ⟨k, h5, hf⟩ := map1 hf
  cases hf
  exact ⟨k, rfl⟩
theorem chn_bool {o1 o2 : Cop} {st st' : Sg} {r : R} (h : f_chn o1 o2 fa fb fc st = some (r, st')) : ∃ k, r = notR k := by
  obtain ⟨p, h1, hf⟩ := bnd1 h
  obtain ⟨p2, h2, hf⟩ := bnd1 hf
  obtain ⟨x, h3, hf⟩ := bnd1 hf
  obtain ⟨y, h4, hf⟩ := bnd1 hf
  obtain ⟨k, h5, hf⟩ := bnd1 hf
  cases k with
  | false => cases hf; exact ⟨_, rfl⟩
  | true =>
    obtain ⟨p3, h6, hf⟩ := bnd1 (show (fc p2.2).bind _ = _ from hf)
    obtain ⟨y', h7, hf⟩ := bnd1 hf
    obtain ⟨z, h8, hf⟩ := bnd1 hf
    obtain ⟨k', h9, hf⟩ := map1 hf
    cases hf
    exact ⟨_, rfl⟩
variable {gl : Sg → Option (List R × Sg)} {gf : Sg → Option (List D × Sg)} {gs : Sg → Option (List (Sum Nat D) × Sg)}
theorem a_nilL : PA X [] (tL w fun st => some ([], st)) := pa_nil.imp fun σ H Q h => by
  obtain ⟨F, st, rs, st', fo, rl, hf, q⟩ := h
  cases hf
  exact q [] F H (.refl fo rl) .nil
theorem a_nilF : PA X [] (tF w fun st => some ([], st)) := pa_nil.imp fun σ H Q h => by
  obtain ⟨F, st, rs, st', fo, rl, hf, q⟩ := h
  cases hf
  exact q [] F H (.refl fo rl) .nil
theorem a_nilA : PA X [] (tA w fun st => some ([], st)) := pa_nil.imp fun σ H Q h => by
  obtain ⟨F, st, rs, st', fo, rl, hf, q⟩ := h
  cases hf
  exact q [] F H (.refl fo rl) .nil
theorem a_consL (ha : PE X a (tS w fa)) (hr : PA X es (tL w gl)) (hs : starEach (a :: es) X.env = (false, eval a X.env) :: starEach es X.env) : PA X (a :: es) (tL w fun st => (fa st).bind fun p => (gl p.2).map fun q => (p.1 :: q.1, q.2)) :=
  (pa_cons ha hr hs).imp fun σ H Q h => by
    obtain ⟨F, st, rs, st', fo, rl, hf, q⟩ := h
    obtain ⟨p, h1, hf⟩ := bnd1 hf
    obtain ⟨p2, h2, hf⟩ := map1 hf
    cases hf
    exact ⟨F, st, p.1, p.2, fo, rl, h1, fun v1 F1 H1 A1 R1 N1 => ⟨F1, p.2, p2.1, p2.2, A1.fo, A1.rl, h2, fun vs F2 H2 A2 R2 => q (v1 :: vs) F2 H2 (A1.trans A2) (.cons (R1.stay A1.fo A1.rl A2) R2)⟩⟩
/-- an expression whose value is kept -/
theorem r_keep (ha : PE X a (tS w fa)) : PE X a (tK w fa) := by
  refine ⟨fun pins s σ H Q I h => ?_⟩
  obtain ⟨F, st, d, st', fo, rl, hf, q⟩ := h
  obtain ⟨p, h1, hf⟩ := bnd1 hf
  refine thn (ha.run pins s σ H (fun v H1 => ∃ F1, Aft F w H σ st F1 H1 p.2 ∧ RR F1 w H1 σ p.2 v p.1 ∧ Nw H v p.1) I ⟨F, st, p.1, p.2, fo, rl, h1, fun v F1 H1 A R N => ⟨F1, A, R, N⟩⟩) fun u s1 ⟨v, H1, I1, r1, F1, A1, R1, N1⟩ => ?_
  obtain ⟨F2, H2, I2, A2, rp⟩ := fz_aft fo rl A1 I1 R1 (fun x ⟨d, e⟩ ev => by rw [e] at N1; exact N1 x ev) hf
  exact ⟨v, H2, I2, r1, q v F2 H2 A2 rp⟩
theorem a_consF (ha : PE X a (tS w fa)) (hr : PA X es (tF w gf)) (hs : starEach (a :: es) X.env = (false, eval a X.env) :: starEach es X.env) : PA X (a :: es) (tF w fun st => (fa st).bind fun p => (fz p.2 p.1).bind fun u => (gf u.2).map fun q => (u.1 :: q.1, q.2)) :=
  (pa_cons (r_keep ha) hr hs).imp fun σ H Q h => by
    obtain ⟨F, st, rs, st', fo, rl, hf, q⟩ := h
    obtain ⟨p, h1, hf⟩ := bnd1 hf
    obtain ⟨u, h2, hf⟩ := bnd1 hf
    obtain ⟨p2, h3, hf⟩ := map1 hf
    cases hf
    exact ⟨F, st, u.1, u.2, fo, rl, by rw [h1]; exact h2, fun v1 F1 H1 A1 R1 => ⟨F1, u.2, p2.1, p2.2, A1.fo, A1.rl, h3, fun vs F2 H2 A2 R2 => q (v1 :: vs) F2 H2 (A1.trans A2) (.cons (R1.stay (A2.keep A1.fo A1.rl)) R2)⟩⟩
theorem a_consA (ha : PE X a (tS w fa)) (hr : PA X es (tA w gs)) (hs : starEach (a :: es) X.env = (false, eval a X.env) :: starEach es X.env) : PA X (a :: es) (tA w fun st => (fa st).bind fun p => (fz p.2 p.1).bind fun u => (gs u.2).map fun q => (.inr u.1 :: q.1, q.2)) :=
  (pa_cons (r_keep ha) hr hs).imp fun σ H Q h => by
    obtain ⟨F, st, rs, st', fo, rl, hf, q⟩ := h
    obtain ⟨p, h1, hf⟩ := bnd1 hf
    obtain ⟨u, h2, hf⟩ := bnd1 hf
    obtain ⟨p2, h3, hf⟩ := map1 hf
    cases hf
    exact ⟨F, st, u.1, u.2, fo, rl, by rw [h1]; exact h2, fun v1 F1 H1 A1 R1 => ⟨F1, u.2, p2.1, p2.2, A1.fo, A1.rl, h3, fun vs F2 H2 A2 R2 => q (v1 :: vs) F2 H2 (A1.trans A2) (.im (R1.stay (A2.keep A1.fo A1.rl)) R2)⟩⟩
theorem r_tup {k : Nat} (h : PA X es (tF w gf)) : PE X (.Tuple es k pos) (tS w fun st => (gf st).bind fun p => if p.1.length ≤ lim then some (.im (.tuple p.1), p.2) else none) :=
  (pe_tup h).imp fun σ H Q h => by
    obtain ⟨F, st, r, st', fo, rl, hf, q⟩ := h
    obtain ⟨p, h1, hf⟩ := bnd1 hf
    split at hf
    · rename_i hl
      cases hf
      refine ⟨F, st, p.1, p.2, fo, rl, h1, fun vs F1 H1 A1 R1 => ⟨lim_line (by rw [R1.length]; exact hl), fun x hx => ?_⟩⟩
      obtain ⟨F2, A2, R2, N2⟩ := (QN.tup A1.fo hx R1).aft A1.fo A1.rl
      exact q _ F2 _ (A1.trans A2) R2 (N2.back A1)
    · cases hf
theorem r_lst (h : PA X es (tF w gf)) : PE X (.List es pos) (tS w fun st => (gf st).bind fun p => if p.1.length ≤ lim then some (.tm (.list p.1), p.2) else none) :=
  (pe_lst h).imp fun σ H Q h => by
    obtain ⟨F, st, r, st', fo, rl, hf, q⟩ := h
    obtain ⟨p, h1, hf⟩ := bnd1 hf
    split at hf
    · rename_i hl
      cases hf
      refine ⟨F, st, p.1, p.2, fo, rl, h1, fun vs F1 H1 A1 R1 => ⟨lim_line (by rw [R1.length]; exact hl), fun x hx => ?_⟩⟩
      obtain ⟨F2, A2, R2, N2⟩ := (QN.lst A1.fo hx R1).aft A1.fo A1.rl
      exact q _ F2 _ (A1.trans A2) R2 (N2.back A1)
    · cases hf
theorem r_idx (hw : X.w = w) (hu : X.A.units + 65 < cLine) (ha : PE X a (tS w fa)) (hb : PE X b (tS w fb)) (hs : PlainIx b) :
    PE X (.Subscript a b pos) (tS w fun st => (fa st).bind fun p => (fb p.2).bind fun q => (dr q.2 p.1).bind fun x => (dr q.2 q.1).bind fun y => (idxD x y).map fun d => (.im d, q.2)) := by
  refine ⟨fun pins s σ H Q I h => ?_⟩
  obtain ⟨F, st, r, st', fo, rl, hf, q⟩ := h
  obtain ⟨p, h1, hf⟩ := bnd1 hf
  obtain ⟨p2, h2, hf⟩ := bnd1 hf
  obtain ⟨x, h3, hf⟩ := bnd1 hf
  obtain ⟨y, h4, hf⟩ := bnd1 hf
  obtain ⟨d, h5, hf⟩ := map1 hf
  cases hf
  refine Subscript_ (binT ha hb I (R := fun v1 v2 H2 => ∃ F1 F2 H1, Aft F w H σ st F1 H1 p.2 ∧ RR F1 w H1 σ p.2 v1 p.1 ∧ Aft F1 w H1 σ p.2 F2 H2 p2.2 ∧ RR F2 w H2 σ p2.2 v2 p2.1)
    ⟨F, st, p.1, p.2, fo, rl, h1, fun v1 F1 H1 A1 R1 N1 => ⟨F1, p.2, p2.1, p2.2, A1.fo, A1.rl, h2, fun v2 F2 H2 A2 R2 N2 => ⟨F1, F2, H1, A1, R1, A2, R2⟩⟩⟩ fun v u s2 x1 y1 H2 I2 rx ry ⟨F1, F2, H1, A1, R1, A2, R2⟩ => ?_)
  have R1' := R1.stay A1.fo A1.rl A2
  refine thn (idx_tail I2 hw (by omega) rx ry (R1'.vw A2.rl h3) (R2.vw A2.rl h4) h5 a b (hs _ _)) fun u' s' ⟨v', H', I', r', e, rp⟩ => ⟨v', H', I', r', ?_⟩
  subst e
  exact fin_im (A1.trans A2) rp q
def tO (w : World) (f : Sg → Option (Option D × Sg)) : TO := fun σ H Q => ∃ F st d st', Fok F H ∧ Rl F w H σ st ∧ f st = some (d, st') ∧
  ∃ i : Option Int, d = i.map PyData.int ∧ ∀ F' H', Aft F w H σ st F' H' st' → Q i H'
theorem _root_.L2.PO.imp {e : Option Expr} {t t' : TO} (h : PO X e t) (f : ∀ σ H Q, t' σ H Q → t σ H Q) : PO X e t' := ⟨fun pins s σ H Q I q => h.run pins s σ H Q I (f σ H Q q)⟩
theorem o_no : PO X none (tO w fun st => some (none, st)) := po_none.imp fun σ H Q h => by
  obtain ⟨F, st, d, st', fo, rl, hf, i, ei, q⟩ := h
  cases hf
  cases i with
  | none => exact q F H (.refl fo rl)
  | some i => cases ei
theorem o_so (ha : PE X a (tS w fa)) : PO X (some a) (tO w fun st => (fa st).bind fun p => (dr p.2 p.1).map fun d => (some d, p.2)) := (po_some ha).imp fun σ H Q h => by
  obtain ⟨F, st, d, st', fo, rl, hf, i, ei, q⟩ := h
  obtain ⟨p, h1, hf⟩ := bnd1 hf
  obtain ⟨x, h2, hf⟩ := map1 hf
  cases hf
  cases i with
  | none => cases ei
  | some i =>
    cases ei
    exact ⟨F, st, p.1, p.2, fo, rl, h1, fun v1 F1 H1 A1 R1 N1 => ⟨i, (R1.vw A1.rl h2).int, q F1 H1 A1⟩⟩
theorem slc_int {d : D} {lo hi : Option D} {r : R} (h : slcD d lo hi = some r) : (∃ i : Option Int, lo = i.map PyData.int) ∧ ∃ j : Option Int, hi = j.map PyData.int := by
  unfold slcD at h
  split at h
  · obtain ⟨a, h1, h2⟩ := bnd1 h
    obtain ⟨b, h3, h4⟩ := bnd1 h2
    obtain ⟨i, e, _⟩ := bnd_int h1
    obtain ⟨j, e', _⟩ := bnd_int h3
    exact ⟨⟨i, e⟩, j, e'⟩
  · obtain ⟨a, h1, h2⟩ := bnd1 h
    obtain ⟨b, h3, h4⟩ := bnd1 h2
    obtain ⟨i, e, _⟩ := bnd_int h1
    obtain ⟨j, e', _⟩ := bnd_int h3
    exact ⟨⟨i, e⟩, j, e'⟩
  · cases h
theorem r_slc {lo hi : Option Expr} {p2 : Pos} {fl fh : Sg → Option (Option D × Sg)} (ha : PE X a (tS w fa)) (hl : PO X lo (tO w fl)) (hh : PO X hi (tO w fh)) :
    PE X (.Subscript a (.Slice lo hi none p2) pos) (tS w fun st => (fa st).bind fun p => (fl p.2).bind fun l => (fh l.2).bind fun h => (dr h.2 p.1).bind fun x => (slcD x l.1 h.1).map fun r => (r, h.2)) := by
  refine (pe_slice (sl_any (w := w)) ha hl hh).imp fun σ H Q h => ?_
  obtain ⟨F, st, r, st', fo, rl, hf, q⟩ := h
  obtain ⟨p, h1, hf⟩ := bnd1 hf
  obtain ⟨l, h2, hf⟩ := bnd1 hf
  obtain ⟨u, h3, hf⟩ := bnd1 hf
  obtain ⟨x, h4, hf⟩ := bnd1 hf
  obtain ⟨r', h5, hf⟩ := map1 hf
  cases hf
  obtain ⟨⟨i, ei⟩, j, ej⟩ := slc_int h5
  refine ⟨F, st, p.1, p.2, fo, rl, h1, fun v1 F1 H1 A1 R1 N1 => ⟨F1, p.2, l.1, l.2, A1.fo, A1.rl, h2, i, ei, fun F2 H2 A2 => ⟨F2, l.2, u.1, u.2, A2.fo, A2.rl, h3, j, ej, fun F3 H3 A3 => ?_⟩⟩⟩
  have R1' := (R1.stay A1.fo A1.rl A2).stay A2.fo A2.rl A3
  refine ⟨F3, x, r, A3.fo, R1'.vw A3.rl h4, by rw [← ei, ← ej]; exact h5, fun v H' qn => ?_⟩
  obtain ⟨F4, A4, R4, N4⟩ := qn.aft A3.fo A3.rl
  exact q v F4 H' (((A1.trans A2).trans A3).trans A4) R4 (N4.back ((A1.trans A2).trans A3))
end
end Nv
end
section
set_option Elab.async false
set_option linter.all false
set_option maxRecDepth 100000
set_option maxHeartbeats 4000000
namespace Nv
open PySem PySem.Spec PyProof.Rows L2

/-- no star among the arguments -/
def Pl (es : List Expr) : Prop := ∀ env, starEach es env = es.map fun e => (false, eval e env)
theorem Pl.cons {a : Expr} {es : List Expr} (h : Pl (a :: es)) (h' : Pl es) (env : Env) : starEach (a :: es) env = (false, eval a env) :: starEach es env := by
  rw [h, h' env]; rfl
theorem Pl.any {es : List Expr} (h : Pl es) (pos : Pos) (env : Env) : (backTo pos (starEach es env)).any (·.1) = false := by
  rw [h env]
  unfold backTo
  induction es with
  | nil => rfl
  | cons a r ih => simp
theorem Pl.few {es : List Expr} (h : Pl es) (pos : Pos) (env : Env) (hl : es.length < 30) : ((backTo pos (starEach es env)).all (fun x => !x.1) && (backToKw pos (keywordEach [] env)).all (fun x => x.1.isSome)
      && decide (es.length + ([] : List Keyword).length + (if ([] : List Keyword).isEmpty then 0 else 1) < 30)) = true := by
  rw [h env]
  have e1 : (backTo pos (es.map fun e => (false, eval e env))).all (fun x => !x.1) = true := by
    unfold backTo
    rw [List.map_map, List.all_map]
    simp
  rw [e1]
  simp [keywordEach, backToKw]
  omega
section
variable {X : Cx} {w : World} {a b c : Expr} {es : List Expr} {pos p0 : Pos} {fa fb fc : Sg → Option (R × Sg)}
variable {gl : Sg → Option (List R × Sg)} {gf : Sg → Option (List D × Sg)} {gs : Sg → Option (List (Sum Nat D) × Sg)}
def rBlt (w : World) (b : Blt) : List V → Hp → VK → Prop := fun vs H Q => ∃ F ds r, Fok F H ∧ VwA F w H vs ds ∧ bltD b ds = some r ∧ ∀ v H', QN F w H r v H' → Q v H'
theorem call_blt (hw : X.w = w) (hc : X.calm = true) (hu : X.A.units + 70 < cLine) (b : Blt) (hb : bltPlain b = true) : CallR X (bltV b) (rBlt w b) := by
  intro pins s σ H xs us Q I rv h
  obtain ⟨F, ds, r, fo, hv, e, q⟩ := h
  exact thn (blt_ok I hw hc hu fo b rv hv e hb) fun u s' ⟨v, H', I', r', q'⟩ => ⟨v, H', I', r', q v H' q'⟩
/-- the names of the built-ins that are called -/
theorem blt_tab : ∀ p ∈ bltTab, bootBuiltins p.1 = some (bltV p.2.2) ∧ bltPlain p.2.2 = true ∧ p.1 ≠ "__name__" ∧ p.2.1 ≠ 0 ∧ (p.1 == ("__debug__" : Str)) = false := by
  intro p hp
  simp only [bltTab, List.mem_cons, List.not_mem_nil, or_false] at hp
  rcases hp with rfl | rfl | rfl | rfl | rfl | rfl | rfl | rfl | rfl | rfl | rfl | rfl | rfl | rfl <;>
    exact ⟨by decide +kernel, rfl, by decide +kernel, by decide, by decide +kernel⟩
theorem blt_boot {x : Str} {k : Nat} {b : Blt} (h : bltOf x k = some b) : bootBuiltins x = some (bltV b) ∧ bltPlain b = true ∧ x ≠ "__name__" ∧ k ≠ 0 ∧ (x == ("__debug__" : Str)) = false := by
  unfold bltOf at h
  cases hf : bltTab.find? fun p => x == p.1 && k == p.2.1 with
  | none => rw [hf] at h; cases h
  | some p =>
    rw [hf] at h; cases h
    have h1 := List.find?_some hf
    simp only [Bool.and_eq_true, beq_iff_eq] at h1
    obtain ⟨rfl, rfl⟩ := h1
    exact blt_tab p (List.mem_of_find?_eq_some hf)
theorem r_blt {x : Str} {b : Blt} (hw : X.w = w) (hc : X.calm = true) (hu : X.A.units + 70 < cLine) (hg : Gl X x) (hm : X.mg x = none) (hx : bltOf x (a :: es).length = some b) (hdb : (x == ("__debug__" : Str)) = false) (h1 : Pl (a :: es)) (h2 : Pl es) (ha : PA X (a :: es) (tL w gl)) :
    PE X (.Call (.Name x p0) (a :: es) [] pos) (tS w fun st => (gl st).bind fun p => (drs p.2 p.1).bind fun ds => (bltD b ds).map fun r => (r, p.2)) := by
  obtain ⟨e1, e2, e3, _⟩ := blt_boot hx
  have go : PE X (.Call (.Name x p0) (a :: es) [] pos) (tCB (rBlt w b) (tL w gl)) := by
    have hC := call_blt hw hc hu b e2
    cases b with
    | len => exact pe_callB hC hg hm e1 ha e3 hdb (h1.cons h2 _) (h2.any _ _)
    | abs => exact pe_callB hC hg hm e1 ha e3 hdb (h1.cons h2 _) (h2.any _ _)
    | sum => exact pe_callB hC hg hm e1 ha e3 hdb (h1.cons h2 _) (h2.any _ _)
    | max => exact pe_callB hC hg hm e1 ha e3 hdb (h1.cons h2 _) (h2.any _ _)
    | min => exact pe_callB hC hg hm e1 ha e3 hdb (h1.cons h2 _) (h2.any _ _)
    | max2 => exact pe_callB hC hg hm e1 ha e3 hdb (h1.cons h2 _) (h2.any _ _)
    | min2 => exact pe_callB hC hg hm e1 ha e3 hdb (h1.cons h2 _) (h2.any _ _)
    | max3 => exact pe_callB hC hg hm e1 ha e3 hdb (h1.cons h2 _) (h2.any _ _)
    | min3 => exact pe_callB hC hg hm e1 ha e3 hdb (h1.cons h2 _) (h2.any _ _)
    | all => exact pe_callB hC hg hm e1 ha e3 hdb (h1.cons h2 _) (h2.any _ _)
    | any => exact pe_callB hC hg hm e1 ha e3 hdb (h1.cons h2 _) (h2.any _ _)
    | sorted => exact pe_callB hC hg hm e1 ha e3 hdb (h1.cons h2 _) (h2.any _ _)
    | tuple => exact pe_callTy hC hg hm e1 ha e3 hdb (h1.cons h2 _) (h2.any _ _)
    | list => exact pe_callTy hC hg hm e1 ha e3 hdb (h1.cons h2 _) (h2.any _ _)
    | int => exact pe_callTy hC hg hm e1 ha e3 hdb (h1.cons h2 _) (h2.any _ _)
    | dict => exact pe_callTy hC hg hm e1 ha e3 hdb (h1.cons h2 _) (h2.any _ _)
    | str => exact pe_callTy hC hg hm e1 ha e3 hdb (h1.cons h2 _) (h2.any _ _)
    | sset => cases e2
    | lset => cases e2
    | rlist1 => cases e2
    | rlist2 => cases e2
    | rtup1 => cases e2
    | rtup2 => cases e2
  refine go.imp fun σ H Q h => ?_
  obtain ⟨F, st, r, st', fo, rl, hf, q⟩ := h
  obtain ⟨p, h3, hf⟩ := bnd1 hf
  obtain ⟨ds, h4, hf⟩ := bnd1 hf
  obtain ⟨r', h5, hf⟩ := map1 hf
  cases hf
  refine ⟨F, st, p.1, p.2, fo, rl, h3, fun vs F1 H1 A1 R1 => ⟨F1, ds, r, A1.fo, R1.vw A1.rl h4, h5, fun v H' qn => ?_⟩⟩
  obtain ⟨F2, A2, R2, N2⟩ := qn.aft A1.fo A1.rl
  exact q v F2 H' (A1.trans A2) R2 (N2.back A1)
def tyName : Ty → String
  | .tuple => "tuple" | .list => "list" | .dict => "dict" | .int => "int" | .bool => "bool" | .str => "str"
theorem ty_tab : ∀ p ∈ tyTab, bootBuiltins p.1 = some (.type (tyName p.2)) ∧ p.1 ≠ "__name__" ∧ (p.1 == ("__debug__" : Str)) = false := by
  intro p hp
  simp only [tyTab, List.mem_cons, List.not_mem_nil, or_false] at hp
  rcases hp with rfl | rfl | rfl | rfl | rfl | rfl <;> exact ⟨by decide +kernel, by decide +kernel, by decide +kernel⟩
theorem ty_boot {x : Str} {t : Ty} (h : tyOf x = some t) : bootBuiltins x = some (.type (tyName t)) ∧ x ≠ "__name__" ∧ (x == ("__debug__" : Str)) = false := by
  unfold tyOf at h
  cases hf : tyTab.find? fun p => x == p.1 with
  | none => rw [hf] at h; cases h
  | some p =>
    rw [hf] at h; cases h
    have h1 := List.find?_some hf
    simp only [beq_iff_eq] at h1
    obtain rfl := h1
    exact ty_tab p (List.mem_of_find?_eq_some hf)
def dTy : D → String
  | .none => "NoneType" | .bool _ => "bool" | .int _ => "int" | .str _ => "str" | .list _ => "list" | .tuple _ => "tuple" | .dict _ => "dict"
theorem kitc_NoneType_tuple : kitB "NoneType" "tuple" = some false := by decide +kernel
theorem kitc_NoneType_list : kitB "NoneType" "list" = some false := by decide +kernel
theorem kitc_NoneType_dict : kitB "NoneType" "dict" = some false := by decide +kernel
theorem kitc_NoneType_int : kitB "NoneType" "int" = some false := by decide +kernel
theorem kitc_NoneType_bool : kitB "NoneType" "bool" = some false := by decide +kernel
theorem kitc_NoneType_str : kitB "NoneType" "str" = some false := by decide +kernel
theorem kitc_bool_tuple : kitB "bool" "tuple" = some false := by decide +kernel
theorem kitc_bool_list : kitB "bool" "list" = some false := by decide +kernel
theorem kitc_bool_dict : kitB "bool" "dict" = some false := by decide +kernel
theorem kitc_bool_int : kitB "bool" "int" = some true := by decide +kernel
theorem kitc_bool_bool : kitB "bool" "bool" = some true := by decide +kernel
theorem kitc_bool_str : kitB "bool" "str" = some false := by decide +kernel
theorem kitc_int_tuple : kitB "int" "tuple" = some false := by decide +kernel
theorem kitc_int_list : kitB "int" "list" = some false := by decide +kernel
theorem kitc_int_dict : kitB "int" "dict" = some false := by decide +kernel
theorem kitc_int_int : kitB "int" "int" = some true := by decide +kernel
theorem kitc_int_bool : kitB "int" "bool" = some false := by decide +kernel
theorem kitc_int_str : kitB "int" "str" = some false := by decide +kernel
theorem kitc_str_tuple : kitB "str" "tuple" = some false := by decide +kernel
theorem kitc_str_list : kitB "str" "list" = some false := by decide +kernel
theorem kitc_str_dict : kitB "str" "dict" = some false := by decide +kernel
theorem kitc_str_int : kitB "str" "int" = some false := by decide +kernel
theorem kitc_str_bool : kitB "str" "bool" = some false := by decide +kernel
theorem kitc_str_str : kitB "str" "str" = some true := by decide +kernel
theorem kitc_list_tuple : kitB "list" "tuple" = some false := by decide +kernel
theorem kitc_list_list : kitB "list" "list" = some true := by decide +kernel
theorem kitc_list_dict : kitB "list" "dict" = some false := by decide +kernel
theorem kitc_list_int : kitB "list" "int" = some false := by decide +kernel
theorem kitc_list_bool : kitB "list" "bool" = some false := by decide +kernel
theorem kitc_list_str : kitB "list" "str" = some false := by decide +kernel
theorem kitc_tuple_tuple : kitB "tuple" "tuple" = some true := by decide +kernel
theorem kitc_tuple_list : kitB "tuple" "list" = some false := by decide +kernel
theorem kitc_tuple_dict : kitB "tuple" "dict" = some false := by decide +kernel
theorem kitc_tuple_int : kitB "tuple" "int" = some false := by decide +kernel
theorem kitc_tuple_bool : kitB "tuple" "bool" = some false := by decide +kernel
theorem kitc_tuple_str : kitB "tuple" "str" = some false := by decide +kernel
theorem kitc_dict_tuple : kitB "dict" "tuple" = some false := by decide +kernel
theorem kitc_dict_list : kitB "dict" "list" = some false := by decide +kernel
theorem kitc_dict_dict : kitB "dict" "dict" = some true := by decide +kernel
theorem kitc_dict_int : kitB "dict" "int" = some false := by decide +kernel
theorem kitc_dict_bool : kitB "dict" "bool" = some false := by decide +kernel
theorem kitc_dict_str : kitB "dict" "str" = some false := by decide +kernel
theorem isi_kit (d : D) (t : Ty) : kitB (dTy d) (tyName t) = some (isTy d t) := by
  cases d with
  | none => cases t with | tuple => exact kitc_NoneType_tuple | list => exact kitc_NoneType_list | dict => exact kitc_NoneType_dict | int => exact kitc_NoneType_int | bool => exact kitc_NoneType_bool | str => exact kitc_NoneType_str
  | bool _ => cases t with | tuple => exact kitc_bool_tuple | list => exact kitc_bool_list | dict => exact kitc_bool_dict | int => exact kitc_bool_int | bool => exact kitc_bool_bool | str => exact kitc_bool_str
  | int _ => cases t with | tuple => exact kitc_int_tuple | list => exact kitc_int_list | dict => exact kitc_int_dict | int => exact kitc_int_int | bool => exact kitc_int_bool | str => exact kitc_int_str
  | str _ => cases t with | tuple => exact kitc_str_tuple | list => exact kitc_str_list | dict => exact kitc_str_dict | int => exact kitc_str_int | bool => exact kitc_str_bool | str => exact kitc_str_str
  | list _ => cases t with | tuple => exact kitc_list_tuple | list => exact kitc_list_list | dict => exact kitc_list_dict | int => exact kitc_list_int | bool => exact kitc_list_bool | str => exact kitc_list_str
  | tuple _ => cases t with | tuple => exact kitc_tuple_tuple | list => exact kitc_tuple_list | dict => exact kitc_tuple_dict | int => exact kitc_tuple_int | bool => exact kitc_tuple_bool | str => exact kitc_tuple_str
  | dict _ => cases t with | tuple => exact kitc_dict_tuple | list => exact kitc_dict_list | dict => exact kitc_dict_dict | int => exact kitc_dict_int | bool => exact kitc_dict_bool | str => exact kitc_dict_str
theorem kit_vw {pins : List (Addr × Obj)} {s : Shared} {σ : St} {H : Hp} {F : Addr → Prop} {v : V} {u : Value} {d : D} (I : L2.Inv X pins σ H s) (hw : X.w = w) (rv : RelV v u) (h : Vw F w H v d) :
    ∃ P : Heap → Prop, PySem.W.KitX X.K u (.type (dTy d)) P ∧ P s.heap ∧ u ≠ .builtin "__main__.__loader__#opaque" := by
  cases d with
  | none => obtain rfl := h.non; exact kit_of I rv (.base .non)
  | bool b => obtain rfl := h.bl; exact kit_of I rv (.base (.bl b))
  | int b => obtain rfl := h.int; exact kit_of I rv (.base (.int b))
  | str b => obtain rfl := h.str; exact kit_of I rv (.base (.str b))
  | list xs =>
    obtain ⟨a, vs, rfl, ha, ra⟩ := h.list
    rcases ha with ha | ⟨o, ha⟩
    · exact kit_of I rv (.base (.lst ha))
    · exact kit_of I rv (.base (.frz ha))
  | tuple xs =>
    obtain ⟨a, vs, rfl, ha, ra, _⟩ := h.tuple
    rcases ha with ha | ⟨o, ha⟩
    · exact kit_of I rv (.base (.tup ha))
    · exact kit_of I rv (.fTuple ha)
  | dict kvs =>
    obtain ⟨a, u, rfl, hr, hc⟩ := h.dict
    cases rv
    cases hc with
    | flat hp =>
      obtain ⟨_, _, vs, _, o, des, ep, ho, hx, _⟩ := dk_rd I.hok hr
      exact ⟨_, PySem.W.kitx_dict, ⟨o, ho, hx.1⟩, nofun⟩
    | nest hne hp =>
      obtain ⟨_, _, ys, _, o, des, ep, ho, hx, _⟩ := nest_of I hw hr hp
      exact ⟨_, PySem.W.kitx_dict, ⟨o, ho, hx.1⟩, nofun⟩
def rIsiD (w : World) (t : Ty) : List V → Hp → VK → Prop := fun vs H Q => ∃ F d v, Fok F H ∧ vs = [v, .ty (tyName t)] ∧ Vw F w H v d ∧ Q (.bl (isTy d t)) H
theorem call_isiD (hw : X.w = w) (t : Ty) : CallR X (.builtin "isinstance") (rIsiD w t) := by
  intro pins s σ H xs us Q I rv h
  obtain ⟨F, d, v, fo, rfl, hv, q⟩ := h
  obtain ⟨u1, u2, rfl, r1, r2⟩ := vals2 rv
  cases r2
  obtain ⟨P, Z, p, hx⟩ := kit_vw I hw r1 hv
  exact PySem.W.kia_one Z I.kIn p (kit_ty (isi_kit d t)) hx fun tk => ⟨.bl _, H, I.tok tk, rfl, q⟩
theorem r_isi {y : Str} {t : Ty} (hw : X.w = w) (hg : Gl X "isinstance") (hm : X.mg "isinstance" = none) (hy : tyOf y = some t) (hgy : Gl X y) (hmy : X.mg y = none) (hs : Pl [a, .Name y p0]) (hs2 : Pl [.Name y p0]) (ha : PE X a (tS w fa)) {p1 : Pos} :
    PE X (.Call (.Name "isinstance" p1) [a, .Name y p0] [] pos) (tS w fun st => (fa st).bind fun p => (dr p.2 p.1).map fun x => (notR (isTy x t), p.2)) := by
  obtain ⟨e1, e2, e3⟩ := ty_boot hy
  have hty : PE X (.Name y p0) (tC (.ty (tyName t))) := pe_bltn hgy hmy e1 rfl e2 e3
  refine (pe_callB (call_isiD hw t) hg hm PyProof.Rows.boot_isinstance (pa_cons ha (pa_cons hty pa_nil) (hs.cons hs2 _)) (by decide +kernel) (by decide +kernel) (hs.cons hs2 _) (hs2.any _ _)).imp fun σ H Q h => ?_
  obtain ⟨F, st, r, st', fo, rl, hf, q⟩ := h
  obtain ⟨p, h1, hf⟩ := bnd1 hf
  obtain ⟨x, h2, hf⟩ := map1 hf
  cases hf
  exact ⟨F, st, p.1, p.2, fo, rl, h1, fun v1 F1 H1 A1 R1 N1 => ⟨F1, x, v1, A1.fo, rfl, R1.vw A1.rl h2, fin_im A1 (.bl _) q⟩⟩
end
end Nv
end
section
set_option Elab.async false
set_option linter.all false
set_option maxRecDepth 100000
set_option maxHeartbeats 4000000
namespace Nv
open PySem PySem.Spec PyProof.Rows L2

section
variable {X : Cx} {w : World} {a b c : Expr} {es : List Expr} {pos p0 apos cpos : Pos} {fa fb fc : Sg → Option (R × Sg)}
variable {gl : Sg → Option (List R × Sg)} {gf : Sg → Option (List D × Sg)} {gs : Sg → Option (List (Sum Nat D) × Sg)}
def f_var (i : Nat) : Sg → Option (R × Sg) := fun st => match sget st i with
  | .un => none
  | .im d => some (.im d, st)
  | .ow _ => some (.sl i, st)
  | .lk _ => some (.sl i, st)
theorem rr_var {F : Addr → Prop} {H : Hp} {σ : St} {st st' : Sg} {r : R} {i : Nat} (rl : Rl F w H σ st) (h : f_var i st = some (r, st')) : st' = st ∧ ∃ v, σ[i]? = some (some v) ∧ RR F w H σ st v r ∧ Nw H v r := by
  have ok := rl.ok i
  unfold f_var at h
  cases e : sget st i with
  | un => rw [e] at h; cases h
  | im d =>
    rw [e] at h ok
    cases h
    obtain ⟨v, e1, e2⟩ := ok
    exact ⟨rfl, v, e1, e2, trivial⟩
  | ow d =>
    rw [e] at h ok
    cases h
    obtain ⟨b, e1, e2⟩ := ok
    exact ⟨rfl, _, e1, ⟨e1, by rw [e]; exact nofun⟩, trivial⟩
  | lk d =>
    rw [e] at h ok
    cases h
    obtain ⟨b, e1, e2⟩ := ok
    exact ⟨rfl, _, e1, ⟨e1, by rw [e]; exact nofun⟩, trivial⟩
theorem r_var {i : Nat} {x : Str} (hN : X.N[i]? = some x) (hv : Vis X.env.scope x) (hf : fineName x = true) : PE X (.Name x pos) (tS w (f_var i)) := by
  unfold fineName at hf
  rw [Bool.and_eq_true, Bool.not_eq_true', Bool.not_eq_true'] at hf
  refine (pe_var hN hv hf.1 hf.2).imp fun σ H Q h => ?_
  obtain ⟨F, st, r, st', fo, rl, hf, q⟩ := h
  obtain ⟨rfl, v, e1, e2, e3⟩ := rr_var rl hf
  exact ⟨v, e1, q v F H (.refl fo rl) e2 e3⟩
theorem r_cst {k : Const} {d : D} {x1 : Nat} (h : constOf k = some d) : PE X (.Constant k x1 pos) (tS w fun st => some (.im d, st)) := by
  have fin : ∀ {v : V} {σ : St} {H : Hp} {Q : VK}, (∀ F H', Rp F w H' v d) → tS w (fun st => some (.im d, st)) σ H Q → Q v H := fun {v σ H Q} hv h => by
    obtain ⟨F, st, r, st', fo, rl, hf, q⟩ := h
    cases hf
    exact q v F H (.refl fo rl) (hv F H) trivial
  cases k with
  | none => cases h; exact pe_non.imp fun σ H Q h => fin (fun _ _ => .non) h
  | bool b => cases h; exact pe_bl.imp fun σ H Q h => fin (fun _ _ => .bl b) h
  | int b => cases h; exact pe_int.imp fun σ H Q h => fin (fun _ _ => .int b) h
  | str b => cases h; exact pe_str.imp fun σ H Q h => fin (fun _ _ => .str b) h
  | _ => cases h

theorem mthK_ty {pins : List (Addr × Obj)} {s : Shared} {σ : St} {H : Hp} {F : Addr → Prop} {v : V} {u : Value} {d : D} {m : Mth} (I : L2.Inv X pins σ H s) (hw : X.w = w) (rv : RelV v u) (hv : Vw F w H v d) (h : mthK m d = true) :
    s.TypeIs u (mthV m).1 ∧ ∀ a, u = .ref a → ∃ ob, s.heap.get? a = some ob ∧ ob.dict = none := by
  have dd : ∀ {a : Addr} {uo : HO} {kvs : List (D × D)}, Rd H a uo → Dc F w H a uo kvs → s.TypeIs (.ref a) "dict" ∧ ∀ b, Value.ref a = .ref b → ∃ ob, s.heap.get? b = some ob ∧ ob.dict = none := by
    intro a uo kvs hr hc
    refine ⟨dict_ty I hw hr hc, fun b e => ?_⟩
    cases e
    cases hc with
    | flat hp => obtain ⟨_, _, vs, _, o, des, ep, ho, hx, _⟩ := dk_rd I.hok hr; exact ⟨o, ho, hx.2.1⟩
    | nest hne hp => obtain ⟨_, _, ys, _, o, des, ep, ho, hx, _⟩ := nest_of I hw hr hp; exact ⟨o, ho, hx.2.1⟩
  have ll : ∀ {a : Addr} {xs : List V}, Rd H a (.lst xs) → s.TypeIs (.ref a) "list" ∧ ∀ b, Value.ref a = .ref b → ∃ ob, s.heap.get? b = some ob ∧ ob.dict = none := by
    intro a xs ha
    obtain ⟨_, its, n, _, _, e⟩ := Inv.lstR I ha
    refine ⟨?_, fun b q => ?_⟩
    · exact (isl I ha).elim fun its q => q.2.typeIs
    · cases q
      exact ⟨_, e, rfl⟩
  cases m with
  | get1 => cases d with
    | dict kvs => obtain ⟨a, uo, rfl, hr, hc⟩ := hv.dict; cases rv; exact dd hr hc
    | _ => cases h
  | get2 => cases d with
    | dict kvs => obtain ⟨a, uo, rfl, hr, hc⟩ := hv.dict; cases rv; exact dd hr hc
    | _ => cases h
  | index => cases d with
    | list xs => obtain ⟨a, ws, rfl, ha, ra⟩ := hv.list; cases rv; exact ll ha
    | _ => cases h
/-- a method's name, where it stands -/
def mthN : Mth → Str
  | .get1 => "get" | .get2 => "get" | .index => "index"
theorem mth_name {x : Str} {k : Nat} {m : Mth} (h : mthOf x k = some m) : x = mthN m ∧ k ≠ 0 := by
  unfold mthOf at h
  split at h
  · rename_i hx
    rw [Bool.and_eq_true, beq_iff_eq, beq_iff_eq] at hx
    cases h
    exact ⟨hx.1, by omega⟩
  · split at h
    · rename_i hx
      rw [Bool.and_eq_true, beq_iff_eq, beq_iff_eq] at hx
      cases h
      exact ⟨hx.1, by omega⟩
    · split at h
      · rename_i hx
        rw [Bool.and_eq_true, beq_iff_eq, beq_iff_eq] at hx
        cases h
        exact ⟨hx.1, by omega⟩
      · cases h
theorem RpA.vwA {F : Addr → Prop} {H : Hp} : ∀ {vs : List V} {ds : List D}, RpA F w H vs ds → VwA F w H vs ds
  | _, _, .nil => .nil
  | _, _, .cons r t => .cons (.of r) (RpA.vwA t)
/-- o.m(e, ..): the receiver, its type, the arguments, then the method -/
theorem meth_run {pins : List (Addr × Obj)} {s : Shared} {σ : St} {H : Hp} {Q : VK} {e : Expr} {name : Str} {T id : String} {ta : TE} {t : TA} (pa : PlainAttrs T) (slot : PySem.Slot T name id) (hty : typeOf (.builtin id) = pure (.type "method_descriptor")) (I : L2.Inv X pins σ H s) (ho : PE X a ta)
    (hbase : attributeBase a name X.env (eval a X.env) = eval a X.env) (hline : (apos.endLine == cpos.line) = true) (ha : PA X (e :: es) t) (hp : Pl (e :: es)) (hp2 : Pl es) (hl : (e :: es).length < 30)
    (q : ta σ H fun x H1 => (∀ s1 u, L2.Inv X pins σ H1 s1 → RelV x u → s1.TypeIs u T ∧ ∀ b, u = .ref b → ∃ ob, s1.heap.get? b = some ob ∧ ob.dict = none) ∧ t σ H1 fun vs H2 => ∀ s2 u us, L2.Inv X pins σ H2 s2 → RelV x u → Vals vs us →
      wpAny (model X.prog X.w) X.A (call (.builtin id) (u :: us)) (EP X pins σ Q) X.xe s2) :
    wpAny (model X.prog X.w) X.A (eval (.Call (.Attribute a name apos) (e :: es) [] cpos) X.env) (EP X pins σ Q) X.xe s := by
  refine wpAny_Call_method_late hbase (hp.few cpos X.env hl) hline rfl (thn (ho.run pins s σ H _ I q) fun v s1 ⟨x, H1, I1, r1, ty, q1⟩ => ?_)
  obtain ⟨h1, h2⟩ := ty s1 v I1 r1
  refine ⟨T, id, pa, slot, hty, h1, h2, ?_⟩
  have hs := hp.cons hp2 X.env
  have hA := ha.run cpos pins s1 σ H1 _ I1 q1
  rw [hs] at hA ⊢
  refine Calls.callWith_builtin (by show (false || (backTo cpos (starEach es X.env)).any (·.1)) = false; rw [hp2.any] <;> rfl) (Calls.evalArgs_plain ?_)
  exact thn hA fun us s2 ⟨vs, H2, I2, r2, q2⟩ => q2 s2 v us I2 r1 r2
theorem meth_run0 {pins : List (Addr × Obj)} {s : Shared} {σ : St} {H : Hp} {Q : VK} {name : Str} {T id : String} {ta : TE} (pa : PlainAttrs T) (slot : PySem.Slot T name id) (hty : typeOf (.builtin id) = pure (.type "method_descriptor")) (I : L2.Inv X pins σ H s) (ho : PE X a ta)
    (hbase : attributeBase a name X.env (eval a X.env) = eval a X.env) (hline : (apos.endLine == cpos.line) = true)
    (q : ta σ H fun x H1 => (∀ s1 u, L2.Inv X pins σ H1 s1 → RelV x u → s1.TypeIs u T ∧ ∀ b, u = .ref b → ∃ ob, s1.heap.get? b = some ob ∧ ob.dict = none) ∧ ∀ s2 u, L2.Inv X pins σ H1 s2 → RelV x u →
      wpAny (model X.prog X.w) X.A (call (.builtin id) [u]) (EP X pins σ Q) X.xe s2) :
    wpAny (model X.prog X.w) X.A (eval (.Call (.Attribute a name apos) [] [] cpos) X.env) (EP X pins σ Q) X.xe s := by
  refine wpAny_Call_method0_late hbase hline (thn (ho.run pins s σ H _ I q) fun v s1 ⟨x, H1, I1, r1, ty, q1⟩ => ?_)
  obtain ⟨h1, h2⟩ := ty s1 v I1 r1
  exact ⟨T, id, pa, slot, hty, h1, h2, Calls.callWith_builtin rfl (PySem.evalArgs_none (q1 s1 v I1 r1))⟩
theorem mth_slot (m : Mth) : PlainAttrs (mthV m).1 ∧ PySem.Slot (mthV m).1 (mthN m) (mthV m).2 ∧ typeOf (.builtin (mthV m).2) = pure (.type "method_descriptor") := by
  cases m with
  | get1 => exact ⟨PySem.F.plainAttrs_dict, PySem.F.slot_dict_get, PySem.F.type_dict_get⟩
  | get2 => exact ⟨PySem.F.plainAttrs_dict, PySem.F.slot_dict_get, PySem.F.type_dict_get⟩
  | index => exact ⟨PySem.F.plainAttrs_list, PySem.F.slot_list_index, PySem.F.type_list_index⟩
theorem r_mth {e : Expr} {m : Mth} (hw : X.w = w) (hu : X.A.units + 70 < cLine) (ha : PE X a (tS w fa)) (hbase : attributeBase a (mthN m) X.env (eval a X.env) = eval a X.env) (hline : (apos.endLine == cpos.line) = true) (hb : PA X (e :: es) (tF w gf)) (hp : Pl (e :: es)) (hp2 : Pl es) (hl : (e :: es).length < 30) :
    PE X (.Call (.Attribute a (mthN m) apos) (e :: es) [] cpos) (tS w fun st => (fa st).bind fun p => (dr p.2 p.1).bind fun x0 => if mthK m x0 then (gf p.2).bind fun q => (dr q.2 p.1).bind fun x => (mthD m x q.1).map fun r => (r, q.2) else none) := by
  refine ⟨fun pins s σ H Q I h => ?_⟩
  obtain ⟨F, st, r, st', fo, rl, hf, q⟩ := h
  obtain ⟨p, h1, hf⟩ := bnd1 hf
  obtain ⟨x0, h2, hf⟩ := bnd1 hf
  split at hf
  case isFalse => cases hf
  rename_i hk
  obtain ⟨p2, h3, hf⟩ := bnd1 hf
  obtain ⟨x, h4, hf⟩ := bnd1 hf
  obtain ⟨r', h5, hf⟩ := map1 hf
  cases hf
  obtain ⟨k1, k2, k3⟩ := mth_slot m
  refine meth_run k1 k2 k3 I ha hbase hline hb hp hp2 hl ⟨F, st, p.1, p.2, fo, rl, h1, fun v1 F1 H1 A1 R1 N1 => ⟨fun s1 u I1 ru => mthK_ty I1 hw ru (R1.vw A1.rl h2) hk, F1, p.2, p2.1, p2.2, A1.fo, A1.rl, h3, fun vs F2 H2 A2 R2 s2 u us I2 ru rs => ?_⟩⟩
  have R1' := R1.stay A1.fo A1.rl A2
  obtain ⟨_, id, _, _, hid, g⟩ := mth_ok I2 hw hu A2.fo m ru rs (R1'.vw A2.rl h4) R2 h5
  have e : id = (mthV m).2 := by rcases hid with ⟨rfl, _, rfl⟩ | ⟨rfl, _, rfl⟩ | ⟨rfl, _, rfl⟩ <;> rfl
  subst e
  refine thn g fun u' s' ⟨v, H', I', r', qn⟩ => ⟨v, H', I', r', ?_⟩
  obtain ⟨F3, A3, R3, N3⟩ := qn.aft A2.fo A2.rl
  exact q v F3 H' ((A1.trans A2).trans A3) R3 (N3.back (A1.trans A2))
def mutN : Mut → Str
  | .append => "append" | .extend => "extend" | .pop0 => "pop" | .pop1 => "pop" | .remove => "remove"
theorem mut_name {x : Str} {k : Nat} {m : Mut} (h : mutOf x k = some m) : x = mutN m ∧ ((k = 0 ∧ m = .pop0) ∨ k ≠ 0) := by
  unfold mutOf at h
  split at h
  · rename_i hx
    rw [Bool.and_eq_true, beq_iff_eq, beq_iff_eq] at hx
    cases h
    exact ⟨hx.1, .inr (by omega)⟩
  · split at h
    · rename_i hx
      rw [Bool.and_eq_true, beq_iff_eq, beq_iff_eq] at hx
      cases h
      exact ⟨hx.1, .inr (by omega)⟩
    · split at h
      · rename_i hx
        rw [Bool.and_eq_true, beq_iff_eq, beq_iff_eq] at hx
        cases h
        exact ⟨hx.1, .inl ⟨hx.2, rfl⟩⟩
      · split at h
        · rename_i hx
          rw [Bool.and_eq_true, beq_iff_eq, beq_iff_eq] at hx
          cases h
          exact ⟨hx.1, .inr (by omega)⟩
        · cases h
theorem mut_slot (m : Mut) (h : m ≠ .remove) : PySem.Slot "list" (mutN m) (mutId m) ∧ typeOf (.builtin (mutId m)) = pure (.type "method_descriptor") := by
  cases m with
  | append => exact ⟨PySem.F.slot_list_append, PySem.F.type_list_append⟩
  | extend => exact ⟨PySem.F.slot_list_extend, PySem.F.type_list_extend⟩
  | pop0 => exact ⟨PySem.F.slot_list_pop, PySem.F.type_list_pop⟩
  | pop1 => exact ⟨PySem.F.slot_list_pop, PySem.F.type_list_pop⟩
  | remove => exact absurd rfl h
/-- the slot's object changed -/
theorem Aft.chg {F : Addr → Prop} {H : Hp} {σ : St} {st : Sg} {i : Nat} {a : Addr} {d d' : D} {o : HO} (fo : Fok F H) (rl : Rl F w H σ st) (hs : sget st i = .ow d) (ei : σ[i]? = some (some (.ref a))) (no : Own F w (upd H a o) a d') :
    Aft F w H σ st F (upd H a o) (st.set i (.ow d')) := by
  obtain ⟨b, e, ho, nF⟩ := own_sl rl hs
  rw [ei] at e; cases e
  have op : (sget st i).open := by rw [hs]; exact True.intro
  have oi : (sget st i).owned := by rw [hs]; exact True.intro
  have hl : i < st.length := sget_lt fun e => by rw [e] at oi; exact oi
  have gs : ∀ j, sget (st.set i (.ow d')) j = if i = j then .ow d' else sget st j := fun j => by
    rw [sget_set]
    by_cases e : i = j
    · rw [if_pos ⟨e, hl⟩, if_pos e]
    · rw [if_neg fun z => e z.1, if_neg e]
  have oi' : ∀ j, (sget (st.set i (.ow d')) j).owned → (sget st j).owned := fun j h => by
    rw [gs] at h
    by_cases e : i = j
    · rw [← e]; exact oi
    · rw [if_neg e] at h; exact h
  have kp : Keep F H F (upd H a o) := keep_upd fo nF
  have there : H a ≠ none := ho.there
  refine ⟨⟨fun _ h => h, fun _ h => .inl h, fun x _ n => upd_ne fun e => n (e ▸ ⟨i, op, ei⟩), fun x z => ?_⟩, ⟨by rw [List.length_set]; exact rl.len, fun j => ?_, fun j l x h1 h2 => rl.inj j l x (oi' j h1) (oi' l h2)⟩, fok_new fo, fun j h1 => ?_, oi', fun j hj => ?_⟩
  · by_cases e : x = a
    · rw [e, upd_same]; exact nofun
    · rw [upd_ne e]; exact z
  · rw [gs]
    by_cases e : i = j
    · subst e; rw [if_pos rfl]; exact ⟨a, ei, no, nF⟩
    · rw [if_neg e]
      refine (rl.ok j).stay kp fun x hx ex => ⟨upd_ne fun z => e ?_, (rl.wo ⟨j, hx, ex⟩).2⟩
      exact rl.inj i j a oi hx ei (z ▸ ex)
  · rw [gs] at h1
    by_cases e : i = j
    · rw [← e]; exact op
    · rw [if_neg e] at h1; exact h1
  · rw [gs]
    by_cases e : i = j
    · rw [if_pos e]; exact nofun
    · rw [if_neg e]; exact hj
theorem mut_ty {pins : List (Addr × Obj)} {s : Shared} {σ : St} {st : Sg} {H : Hp} {F : Addr → Prop} {i : Nat} {v : V} {u : Value} (I : L2.Inv X pins σ H s) (rl : Rl F w H σ st) (hl : isLst (sget st i) = true) (e : σ[i]? = some (some v)) (rv : RelV v u) :
    s.TypeIs u "list" ∧ ∀ a, u = .ref a → ∃ ob, s.heap.get? a = some ob ∧ ob.dict = none := by
  unfold isLst at hl
  cases hx : (sget st i).val with
  | none => rw [hx] at hl; cases hl
  | some d =>
    rw [hx] at hl
    cases d with
    | list xs =>
      obtain ⟨v', e', g⟩ := rl.vw hx
      rw [e] at e'; cases e'
      obtain ⟨b, ws, rfl, ha, ra⟩ := g.list
      cases rv
      obtain ⟨_, its, n, _, _, e⟩ := Inv.lstR I ha
      refine ⟨?_, fun b q => ?_⟩
      · exact (isl I ha).elim fun its q => q.2.typeIs
      · cases q
        exact ⟨_, e, rfl⟩
    | _ => cases hl
def f_mut (m : Mut) (i : Nat) (f : Sg → Option (List D × Sg)) : Sg → Option (R × Sg) := fun st => if isLst (sget st i) then (f st).bind fun p => (ownOf (sget p.2 i)).bind fun d => (mutD m d p.1).map fun (u : D × D) => (.im u.2, p.2.set i (.ow u.1)) else none
theorem ownOf_eq {x : Slot} {d : D} (h : ownOf x = some d) : x = .ow d := by
  cases x <;> cases h
  rfl
/-- the method runs, the arguments at hand -/
theorem mut_go {pins : List (Addr × Obj)} {s : Shared} {F F0 : Addr → Prop} {σ : St} {H H0 : Hp} {st0 st : Sg} {m : Mut} {i : Nat} {v : V} {u : Value} {vs : List V} {us : List Value} {d d' x : D} {ds : List D} {Q : VK} (I : L2.Inv X pins σ H s) (A0 : Aft F0 w H0 σ st0 F H st) (ei : σ[i]? = some (some v)) (rv : RelV v u) (rs : Vals vs us) (hd : ownOf (sget st i) = some d) (hs : VwA F w H vs ds) (h1 : m ≠ .extend → RpA F w H vs ds) (h : mutD m d ds = some (d', x))
    (q : ∀ v F' H', Aft F0 w H0 σ st0 F' H' (st.set i (.ow d')) → RR F' w H' σ (st.set i (.ow d')) v (.im x) → Nw H0 v (.im x) → Q v H') :
    wpAny (model X.prog X.w) X.A (call (.builtin (mutId m)) (u :: us)) (EP X pins σ Q) X.xe s := by
  have hx := ownOf_eq hd
  obtain ⟨a, e, ho, nF⟩ := own_sl A0.rl hx
  rw [ei] at e; cases e
  cases rv
  refine thn (mut_ok I A0.fo m nF rs ho hs h1 h) fun u' s' ⟨v', H', I', r', xs, eH, o', rp⟩ => ⟨v', H', I', r', ?_⟩
  subst eH
  exact q v' F _ (A0.trans (Aft.chg A0.fo A0.rl hx ei o')) rp trivial
theorem var_at {F : Addr → Prop} {H : Hp} {σ : St} {st : Sg} {i : Nat} (rl : Rl F w H σ st) (hl : isLst (sget st i) = true) : ∃ v, σ[i]? = some (some v) := by
  unfold isLst at hl
  cases hx : (sget st i).val with
  | none => rw [hx] at hl; cases hl
  | some d => obtain ⟨v', e', g⟩ := rl.vw hx; exact ⟨v', e'⟩
theorem r_mut {e : Expr} {m : Mut} {i : Nat} {x : Str} (hm : m ≠ .remove) (hx : m ≠ .extend) (hN : X.N[i]? = some x) (hv : Vis X.env.scope x) (hf : fineName x = true) (hline : (apos.endLine == cpos.line) = true) (hb : PA X (e :: es) (tF w gf)) (hp : Pl (e :: es)) (hp2 : Pl es) (hl : (e :: es).length < 30) :
    PE X (.Call (.Attribute (.Name x p0) (mutN m) apos) (e :: es) [] cpos) (tS w (f_mut m i gf)) := by
  refine ⟨fun pins s σ H Q I h => ?_⟩
  obtain ⟨F, st, r, st', fo, rl, hf', q⟩ := h
  unfold f_mut at hf'
  split at hf'
  case isFalse => cases hf'
  rename_i hk
  obtain ⟨p, h1, hf'⟩ := bnd1 hf'
  obtain ⟨d, h2, hf'⟩ := bnd1 hf'
  obtain ⟨⟨d', y⟩, h3, hf'⟩ := map1 hf'
  cases hf'
  unfold fineName at hf
  rw [Bool.and_eq_true, Bool.not_eq_true', Bool.not_eq_true'] at hf
  obtain ⟨k2, k3⟩ := mut_slot m hm
  obtain ⟨v, ev⟩ := var_at rl hk
  refine meth_run PySem.F.plainAttrs_list k2 k3 I (pe_var hN hv hf.1 hf.2) rfl hline hb hp hp2 hl ⟨v, ev, fun s1 u I1 ru => mut_ty I1 rl hk ev ru, F, st, p.1, p.2, fo, rl, h1, fun vs F2 H2 A2 R2 s2 u us I2 ru rs => ?_⟩
  exact mut_go I2 A2 ev ru rs h2 R2.vwA (fun _ => R2) h3 q
theorem r_mutX {e : Expr} {i : Nat} {x : Str} (hN : X.N[i]? = some x) (hv : Vis X.env.scope x) (hf : fineName x = true) (hline : (apos.endLine == cpos.line) = true) (hb : PA X (e :: es) (tL w gl)) (hp : Pl (e :: es)) (hp2 : Pl es) (hl : (e :: es).length < 30) :
    PE X (.Call (.Attribute (.Name x p0) (mutN .extend) apos) (e :: es) [] cpos) (tS w (f_mut .extend i fun st => (gl st).bind fun p => (drs p.2 p.1).map fun ds => (ds, p.2))) := by
  refine ⟨fun pins s σ H Q I h => ?_⟩
  obtain ⟨F, st, r, st', fo, rl, hf', q⟩ := h
  unfold f_mut at hf'
  split at hf'
  case isFalse => cases hf'
  rename_i hk
  obtain ⟨p, h1, hf'⟩ := bnd1 hf'
  obtain ⟨p1, h4, h1⟩ := bnd1 h1
  obtain ⟨ds, h5, h1⟩ := map1 h1
  cases h1
  obtain ⟨d, h2, hf'⟩ := bnd1 hf'
  obtain ⟨⟨d', y⟩, h3, hf'⟩ := map1 hf'
  cases hf'
  unfold fineName at hf
  rw [Bool.and_eq_true, Bool.not_eq_true', Bool.not_eq_true'] at hf
  obtain ⟨k2, k3⟩ := mut_slot .extend nofun
  obtain ⟨v, ev⟩ := var_at rl hk
  refine meth_run PySem.F.plainAttrs_list k2 k3 I (pe_var hN hv hf.1 hf.2) rfl hline hb hp hp2 hl ⟨v, ev, fun s1 u I1 ru => mut_ty I1 rl hk ev ru, F, st, p1.1, p1.2, fo, rl, h4, fun vs F2 H2 A2 R2 s2 u us I2 ru rs => ?_⟩
  exact mut_go I2 A2 ev ru rs h2 (R2.vw A2.rl h5) (fun z => absurd rfl z) h3 q
theorem r_mut0 {i : Nat} {x : Str} (hN : X.N[i]? = some x) (hv : Vis X.env.scope x) (hf : fineName x = true) (hline : (apos.endLine == cpos.line) = true) :
    PE X (.Call (.Attribute (.Name x p0) (mutN .pop0) apos) [] [] cpos) (tS w (f_mut .pop0 i fun st => some ([], st))) := by
  refine ⟨fun pins s σ H Q I h => ?_⟩
  obtain ⟨F, st, r, st', fo, rl, hf', q⟩ := h
  unfold f_mut at hf'
  split at hf'
  case isFalse => cases hf'
  rename_i hk
  obtain ⟨p, h1, hf'⟩ := bnd1 hf'
  cases h1
  obtain ⟨d, h2, hf'⟩ := bnd1 hf'
  obtain ⟨⟨d', y⟩, h3, hf'⟩ := map1 hf'
  cases hf'
  unfold fineName at hf
  rw [Bool.and_eq_true, Bool.not_eq_true', Bool.not_eq_true'] at hf
  obtain ⟨k2, k3⟩ := mut_slot .pop0 nofun
  obtain ⟨v, ev⟩ := var_at rl hk
  refine meth_run0 PySem.F.plainAttrs_list k2 k3 I (pe_var hN hv hf.1 hf.2) rfl hline ⟨v, ev, fun s1 u I1 ru => mut_ty I1 rl hk ev ru, fun s2 u I2 ru => ?_⟩
  exact mut_go (vs := []) I2 (Aft.refl fo rl) ev ru .nil h2 .nil (fun _ => .nil) h3 q
theorem Aft.beside' {F F1 : Addr → Prop} {H H1 : Hp} {σ : St} {st st0 : Sg} {D : Addr} {o : HO} (A : Aft F1 w H1 σ st0 F H st) (hn : H1 D = none) (nF : ¬ F D) (nW : ¬ Wo σ st D) : Aft F1 w H1 σ st0 F (upd H D o) st := by
  have k : Keep F H F (upd H D o) := keep_upd A.fo nF
  refine ⟨⟨A.stp.sub, A.stp.new, fun a h1 h2 => ?_, fun a h1 => ?_⟩, A.rl.stay k fun a h => ⟨upd_ne fun e => nW (e ▸ h), (A.rl.wo h).2⟩, fok_new A.fo, A.opn, A.own, A.un⟩
  · rw [upd_ne fun (e : a = D) => h1 (by rw [e]; exact hn)]; exact A.stp.kp a h1 h2
  · rw [upd_ne fun (e : a = D) => h1 (by rw [e]; exact hn)]; exact A.stp.th a h1
theorem Aft.still' {F F1 : Addr → Prop} {H H1 : Hp} {σ : St} {st st0 : Sg} {D : Addr} {o : HO} (A : Aft F1 w H1 σ st0 F H st) (rl : Rl F1 w H1 σ st0) (hD : H1 D = some o) (nF : ¬ F1 D) (nW : ¬ Wo σ st0 D) : H D = some o ∧ ¬ F D ∧ ¬ Wo σ st D := by
  refine ⟨(A.stp.kp D (by rw [hD]; exact nofun) fun z => nW z.wo).trans hD, fun z => ?_, fun z => nW (A.wo D z)⟩
  rcases A.stp.new D z with y | y | y
  · exact nF y
  · rw [hD] at y; cases y
  · exact nW y
theorem Stp.aft' {F F1 : Addr → Prop} {H H1 : Hp} {σ : St} {st : Sg} (s : Stp F H (fun _ => False) (fun _ => False) F1 H1) (fo : Fok F H) (rl : Rl F w H σ st) (fo1 : Fok F1 H1) : Aft F w H σ st F1 H1 st :=
  ⟨s.mono (fun _ h => h.elim) (fun _ h => h.elim), rl.stp fo s fun a h => h.elim False.elim False.elim, fo1, fun _ h => h, fun _ h => h, fun _ h => h⟩
section
variable (F : Addr → Prop) (w : World) (H : Hp)
inductive PR : List (V × V) → List D → Prop
  | nil : PR [] []
  | cons {x y : V} {k d : D} {ps : List (V × V)} {ds : List D} : Rp F w H x k → Rp F w H y d → PR ps ds → PR ((x, y) :: ps) (k :: d :: ds)
end
theorem nodup_putK {k : Key} {v : V} {kv : List (Key × V)} (nd : (kv.map (·.1)).Nodup) : ((putK kv k v).map (·.1)).Nodup := by
  unfold putK
  split
  · rw [List.map_map]
    have e : ((fun p : Key × V => p.1) ∘ fun p : Key × V => if p.1 = k then (p.1, v) else p) = fun p => p.1 := by
      funext p
      show (if p.1 = k then (p.1, v) else p).1 = p.1
      split <;> rfl
    rw [e]
    exact nd
  · rename_i h
    rw [List.map_append]
    refine List.nodup_append.mpr ⟨nd, by simp, fun a ha b hb e => h ?_⟩
    obtain ⟨p, hp, rfl⟩ := List.mem_map.mp ha
    have hb : b = k := by simpa using hb
    exact List.any_eq_true.mpr ⟨p, hp, decide_eq_true (e.trans hb)⟩
theorem pairs_of {F : Addr → Prop} {H : Hp} : ∀ {ps : List (V × V)} {ds : List D} {kvs : List (D × D)} {acc : List (Key × V)} {dacc res : List (D × D)}, PR F w H ps ds → pairUp ds = some kvs → kvs.all (fun q => isFlat q.1) = true → PK F w H acc dacc → (acc.map (·.1)).Nodup → putAll dacc kvs = some res →
    ∃ kv : List (Key × V), ps = kv.map (fun kv => (kV kv.1, kv.2)) ∧ kv.length = kvs.length ∧ PK F w H (mergeK acc kv) res
  | _, _, kvs, acc, dacc, res, .nil, h, _, hp, _, hr => by
    cases h
    cases hr
    exact ⟨[], rfl, rfl, hp⟩
  | _, _, kvs, acc, dacc, res, .cons (x := x) (y := y) (k := k) (d := d) (ps := ps) (ds := ds) rk rd t, h, ha, hp, nd, hr => by
    obtain ⟨r, h1, rfl⟩ := map1 (show (pairUp ds).map ((k, d) :: ·) = some kvs from h)
    rw [List.all_cons, Bool.and_eq_true] at ha
    obtain ⟨key, rfl⟩ := flat_key ha.1
    have ex : x = kV key := by cases key <;> (cases rk; rfl)
    subst ex
    have hr : (if keyFits dacc (kD key) then putAll (dput dacc (kD key) d) r else none) = some res := hr
    split at hr
    case isFalse => cases hr
    obtain ⟨kv, e1, e2, e3⟩ := pairs_of t h1 ha.2 (hp.put rd nd) (nodup_putK nd) hr
    exact ⟨(key, y) :: kv, by rw [List.map_cons, e1], by rw [List.length_cons, List.length_cons, e2], e3⟩
theorem r_dct0 : PE X (.Dict [] [] pos) (tS w fun st => some (.tm (.dict []), st)) := by
  refine pe_dnewK.imp fun σ H Q h => ?_
  obtain ⟨F, st, r, st', fo, rl, hf, q⟩ := h
  cases hf
  intro p hp
  have qn : QN F w H (.tm (.dict [])) (.ref p) (upd H p (.dK [])) := ⟨F, stp_new fo hp, fok_new fo, p, rfl, .dct upd_same (.flat .nil), fun z => fo p z hp, hp⟩
  obtain ⟨F2, A2, R2, N2⟩ := qn.aft fo rl
  exact q _ F2 _ A2 R2 N2
def f_dct (f : Sg → Option (List D × Sg)) : Sg → Option (R × Sg) := fun st => (f st).bind fun p => (pairUp p.1).bind fun ps => if ps.all (fun q => isFlat q.1) && decide (ps.length ≤ 15) then (putAll [] ps).map fun kvs => (.tm (.dict kvs), p.2) else none
theorem r_dct {keys : List (Option Expr)} {values : List Expr} {trs : List (TE × TE)} {f : Sg → Option (List D × Sg)} (h : PPs X pos keys values trs) (hall : keys.all (·.isSome) = true) (hl : keys.length = values.length) (h0 : keys ≠ []) (h15 : keys.length ≤ 15)
    (ht : ∀ (σ : St) (H : Hp) (Q : List (V × V) → Hp → Prop) (F : Addr → Prop) (st : Sg) (ds : List D) (st' : Sg), Fok F H → Rl F w H σ st → f st = some (ds, st') → (∀ ps F' H', Aft F w H σ st F' H' st' → PR F' w H' ps ds → Q ps H') → tPairs trs σ H Q) :
    PE X (.Dict keys values pos) (tS w (f_dct f)) := (pe_disp h hall hl h0 h15).imp fun σ H Q h => by
  obtain ⟨F, st, r, st', fo, rl, hf, q⟩ := h
  obtain ⟨p, h1, hf⟩ := bnd1 hf
  obtain ⟨ps, h2, hf⟩ := bnd1 hf
  split at hf
  case isFalse => cases hf
  rename_i hk
  rw [Bool.and_eq_true] at hk
  have hlen := of_decide_eq_true hk.2
  obtain ⟨kvs, h3, hf⟩ := map1 hf
  cases hf
  intro a hn
  have A0 : Aft F w H σ st F (upd H a (.dK [])) st := (stp_new fo hn).aft' fo rl (fok_new fo)
  refine ht σ _ _ F st p.1 p.2 A0.fo A0.rl h1 fun vs F1 H1 A1 R1 => ?_
  have nW : ¬ Wo σ st a := fun z => (rl.wo z).1 hn
  have nF : ¬ F a := fun z => fo a z hn
  obtain ⟨e1, n1, m1⟩ := A1.still' A0.rl upd_same nF nW
  obtain ⟨kv, e2, e3, e4⟩ := pairs_of R1 h2 hk.1 .nil List.nodup_nil h3
  refine ⟨e1, kv, e2, by rw [e3]; exact hlen, ?_⟩
  have A2 := (A0.trans A1).beside' (o := .dK (mergeK [] kv)) hn n1 m1
  exact q _ F1 _ A2 ⟨a, rfl, .dct upd_same (.flat (e4.stay (keep_upd A1.fo n1))), n1, m1⟩ fun x ex => by cases ex; exact hn
end
end Nv
end
section
set_option Elab.async false
set_option linter.all false
set_option maxRecDepth 100000
set_option maxHeartbeats 4000000
namespace Nv
open PySem PySem.Spec PyProof.Rows L2

section
variable (F : Addr → Prop) (w : World) (H : Hp)
/-- the arguments of a call -/
inductive Ag : List V → List Arg → Prop
  | nil : Ag [] []
  | io {a : Addr} {d : D} {vs : List V} {as : List Arg} : Own F w H a d → ¬ F a → Ag vs as → Ag (.ref a :: vs) ((true, d) :: as)
  | im {v : V} {d : D} {vs : List V} {as : List Arg} : Rp F w H v d → Ag vs as → Ag (v :: vs) ((false, d) :: as)
/-- what has become of those that may be changed -/
inductive Ou : List V → List Bool → List D → Prop
  | nil : Ou [] [] []
  | io {a : Addr} {d : D} {vs : List V} {bs : List Bool} {os : List D} : Own F w H a d → ¬ F a → Ou vs bs os → Ou (.ref a :: vs) (true :: bs) (d :: os)
  | im {v : V} {vs : List V} {bs : List Bool} {os : List D} : Ou vs bs os → Ou (v :: vs) (false :: bs) os
/-- what a call hands back: H0 the heap ahead of it -/
def Rt (H0 : Hp) (v : V) : R → Prop
  | .im d => Rp F w H v d
  | .tm d => ∃ a, v = .ref a ∧ Own F w H a d ∧ ¬ F a ∧ H0 a = none
  | .sl _ => False
end
/-- the addresses that are handed over -/
def ioA : List V → List Bool → List Addr
  | .ref a :: vs, true :: bs => a :: ioA vs bs
  | _ :: vs, true :: bs => ioA vs bs
  | _ :: vs, false :: bs => ioA vs bs
  | _, _ => []
def bs1 (l : List Arg) : List Bool := l.map (·.1)
def bsL : List (Sum Nat D) → List Bool
  | [] => []
  | .inl _ :: r => true :: bsL r
  | .inr _ :: r => false :: bsL r
/-- a def's promise, in terms of the value language -/
def spN (w : World) (C : Orc) (f n : Nat) : Sp := fun vs H Q _ => vs.length = n ∧ ∃ F as r os, Fok F H ∧ Ag F w H vs as ∧ (ioA vs (bs1 as)).Nodup ∧ C f as = some (r, os) ∧
  ∀ v F' H', Stp F H (fun a => a ∈ ioA vs (bs1 as)) (fun _ => False) F' H' → Fok F' H' → Ou F' w H' vs (bs1 as) os → Rt F' w H' H v r → Q v H'

section
variable {F F' : Addr → Prop} {w : World} {H H' : Hp} {σ : St} {st st2 : Sg}
theorem nodupN_cons {x : Nat} {r : List Nat} (h : nodupN (x :: r) = true) : x ∉ r ∧ nodupN r = true := by
  have h : (!r.contains x && nodupN r) = true := h
  rw [Bool.and_eq_true, Bool.not_eq_true'] at h
  exact ⟨fun z => by rw [List.contains_iff_mem.mpr z] at h; exact absurd h.1 (by decide), h.2⟩
/-- the arguments as the callee takes them -/
theorem ag_of (rl : Rl F w H σ st) : ∀ {vs : List V} {as : List (Sum Nat D)} {l : List Arg}, AA F w H σ vs as → argsOf as st = some l → nodupN (ios as) = true →
    Ag F w H vs l ∧ bs1 l = bsL as ∧ (∀ a, a ∈ ioA vs (bsL as) → ∃ i ∈ ios as, (sget st i).open ∧ σ[i]? = some (some (.ref a))) ∧ (ioA vs (bsL as)).Nodup ∧ vs.length = as.length
  | _, _, l, .nil, h, _ => by
    cases h
    exact ⟨.nil, rfl, fun a z => absurd z (by simp [ioA, bsL]), List.nodup_nil, rfl⟩
  | _, _, l, .io (v := v) (i := i) (vs := vs) (as := as) e t, h, nd => by
    obtain ⟨n1, n2⟩ := nodupN_cons nd
    have h : (match sget st i with | .ow d => (argsOf as st).map ((true, d) :: ·) | _ => none) = some l := h
    cases hx : sget st i with
    | ow d =>
      rw [hx] at h
      obtain ⟨l', h1, rfl⟩ := map1 h
      obtain ⟨a, e', o, nF⟩ := own_sl rl hx
      rw [e] at e'; cases e'
      obtain ⟨g1, g2, g3, g4, g5⟩ := ag_of rl t h1 n2
      have oi : (sget st i).open := by rw [hx]; exact True.intro
      refine ⟨.io o nF g1, ?_, fun x z => ?_, ?_, congrArg (· + 1) g5⟩
      · show true :: bs1 l' = true :: bsL as
        rw [g2]
      · have z : x ∈ a :: ioA vs (bsL as) := z
        rcases List.mem_cons.mp z with rfl | z
        · exact ⟨i, List.mem_cons_self .., oi, e⟩
        · obtain ⟨j, j1, j2, j3⟩ := g3 x z
          exact ⟨j, List.mem_cons_of_mem _ j1, j2, j3⟩
      · show (a :: ioA vs (bsL as)).Nodup
        refine List.nodup_cons.mpr ⟨fun z => ?_, g4⟩
        obtain ⟨j, j1, j2, j3⟩ := g3 a z
        have ow : ∀ {x : Slot}, x.open → x.owned := fun {x} q => by cases x <;> first | exact True.intro | exact q.elim
        exact n1 (rl.inj i j a (ow oi) (ow j2) e j3 ▸ j1)
    | un => rw [hx] at h; cases h
    | im d => rw [hx] at h; cases h
    | lk d => rw [hx] at h; cases h
  | _, _, l, .im (d := d) (vs := vs) (as := as) r t, h, nd => by
    have h : (argsOf as st).map ((false, d) :: ·) = some l := h
    obtain ⟨l', h1, rfl⟩ := map1 h
    obtain ⟨g1, g2, g3, g4, g5⟩ := ag_of rl t h1 nd
    refine ⟨.im r g1, ?_, fun x z => ?_, ?_, congrArg (· + 1) g5⟩
    · show false :: bs1 l' = false :: bsL as
      rw [g2]
    · exact g3 x (by cases ‹V› <;> exact z)
    · cases ‹V› <;> exact g4
/-- the slots behind the call -/
theorem outs_get : ∀ {vs : List V} {as : List (Sum Nat D)} {os : List D} {st : Sg}, AA F w H σ vs as → Ou F' w H' vs (bsL as) os → outsTo as os st = some st2 → nodupN (ios as) = true → (∀ i ∈ ios as, i < st.length) →
    st2.length = st.length ∧ (∀ j, j ∉ ios as → sget st2 j = sget st j) ∧ ∀ j ∈ ios as, ∃ d a, sget st2 j = .ow d ∧ σ[j]? = some (some (.ref a)) ∧ Own F' w H' a d ∧ ¬ F' a
  | _, _, os, st, .nil, o, h, _, _ => by
    cases o
    cases h
    exact ⟨rfl, fun _ _ => rfl, fun j z => absurd z (by simp [ios])⟩
  | _, _, os, st, .io (v := v) (i := i) (vs := vs) (as := as) e t, o, h, nd, hl => by
    obtain ⟨n1, n2⟩ := nodupN_cons nd
    have o : Ou F' w H' (v :: vs) (true :: bsL as) os := o
    cases o with
    | @io a d _ _ os' oo nF o' =>
      have h : outsTo as os' (st.set i (.ow d)) = some st2 := h
      obtain ⟨g1, g2, g3⟩ := outs_get t o' h n2 (fun j z => by rw [List.length_set]; exact hl j (List.mem_cons_of_mem _ z))
      refine ⟨by rw [g1, List.length_set], fun j z => ?_, fun j z => ?_⟩
      · rw [g2 j fun q => z (List.mem_cons_of_mem _ q), sget_ne fun (q : i = j) => z (by rw [← q]; exact List.mem_cons_self ..)]
      · rcases List.mem_cons.mp z with rfl | z
        · exact ⟨d, a, by rw [g2 j n1, sget_same (hl j (List.mem_cons_self ..))], e, oo, nF⟩
        · exact g3 j z
  | _, _, os, st, .im (d := d) (vs := vs) (as := as) r t, o, h, nd, hl => by
    have o : Ou F' w H' (_ :: vs) (false :: bsL as) os := o
    cases o with
    | im o' => exact outs_get (as := as) t o' (show outsTo as os st = some st2 from h) nd hl
theorem open_owned {x : Slot} (q : x.open) : x.owned := by cases x <;> first | exact True.intro | exact q.elim
/-- behind a call -/
theorem call_aft {vs : List V} {as : List (Sum Nat D)} {l : List Arg} {os : List D} (fo : Fok F H) (rl : Rl F w H σ st) (hA : AA F w H σ vs as) (hl : argsOf as st = some l) (nd : nodupN (ios as) = true)
    (s : Stp F H (fun a => a ∈ ioA vs (bs1 l)) (fun _ => False) F' H') (fo' : Fok F' H') (hO : Ou F' w H' vs (bs1 l) os) (h : outsTo as os st = some st2) : Aft F w H σ st F' H' st2 := by
  obtain ⟨g1, g2, g3, g4, g5⟩ := ag_of rl hA hl nd
  rw [g2] at s hO
  have il : ∀ i ∈ ios as, (sget st i).open ∧ i < st.length := by
    clear g1 g2 g3 g4 g5 s hO h
    induction hA generalizing l with
    | nil => exact fun i z => absurd z (by simp [ios])
    | io e t ih =>
      rename_i v i vs as
      have hl : (match sget st i with | .ow d => (argsOf as st).map ((true, d) :: ·) | _ => none) = some l := hl
      intro j z
      cases hx : sget st i with
      | ow d =>
        rw [hx] at hl
        obtain ⟨l', h1, rfl⟩ := map1 hl
        rcases List.mem_cons.mp z with rfl | z
        · exact ⟨by rw [hx]; exact True.intro, sget_lt (by rw [hx]; exact nofun)⟩
        · exact ih h1 (nodupN_cons nd).2 j z
      | un => rw [hx] at hl; cases hl
      | im d => rw [hx] at hl; cases hl
      | lk d => rw [hx] at hl; cases hl
    | im r t ih =>
      obtain ⟨l', h1, rfl⟩ := map1 (show (argsOf _ st).map ((false, _) :: ·) = some l from hl)
      exact ih h1 nd
  obtain ⟨k1, k2, k3⟩ := outs_get hA hO h nd fun i z => (il i z).2
  have sp : Stp F H (Wr σ st) (Wo σ st) F' H' := s.mono (fun x z => let ⟨i, i1, i2, i3⟩ := g3 x z; ⟨i, i2, i3⟩) fun _ z => z.elim
  have kp : Keep F H F' H' := sp.keep fo rl.nw
  have own2 : ∀ j, (sget st2 j).owned → (sget st j).owned := fun j z => by
    by_cases q : j ∈ ios as
    · exact open_owned (il j q).1
    · rw [k2 j q] at z; exact z
  refine ⟨sp, ⟨by rw [k1]; exact rl.len, fun j => ?_, fun i j a h1 h2 => rl.inj i j a (own2 i h1) (own2 j h2)⟩, fo', fun j h1 => ?_, own2, fun j z => ?_⟩
  · by_cases q : j ∈ ios as
    · obtain ⟨d, a, e1, e2, o, n⟩ := k3 j q
      rw [e1]
      exact ⟨a, e2, o, n⟩
    · rw [k2 j q]
      refine (rl.ok j).stay kp fun a ho ea => ⟨s.kp a (rl.wo ⟨j, ho, ea⟩).1 fun z => ?_, fun z => ?_⟩
      · obtain ⟨i, i1, i2, i3⟩ := g3 a z
        exact q (rl.inj i j a (open_owned i2) ho i3 ea ▸ i1)
      · rcases s.new a z with y | y | y
        · exact (rl.wo ⟨j, ho, ea⟩).2 y
        · exact (rl.wo ⟨j, ho, ea⟩).1 y
        · exact y
  · by_cases q : j ∈ ios as
    · exact (il j q).1
    · rw [k2 j q] at h1; exact h1
  · by_cases q : j ∈ ios as
    · obtain ⟨d, a, e1, _⟩ := k3 j q
      rw [e1]; exact nofun
    · rw [k2 j q]; exact z
end
/-- the def that the name x calls does what C says at f -/
structure FnN (X : Cx) (w : World) (C : Orc) (f n : Nat) (x : Str) : Prop where
  ex : ∃ k fa fd ps, FnOk X.prog X.w X.K X.mg X.base CX0 k fa fd ps (spN w C f n) ∧ Room k X.A ∧ X.mg x = some (.ref fa) ∧ PySem.W.keepIn X.K (.ref fa) = true ∧ Binds X.K fd ps []
section
variable {X : Cx} {w : World} {C : Orc} {es : List Expr} {pos p0 : Pos} {gs : Sg → Option (List (Sum Nat D) × Sg)}
def f_call (C : Orc) (f : Nat) (gs : Sg → Option (List (Sum Nat D) × Sg)) : Sg → Option (R × Sg) := fun st => (gs st).bind fun p => (argsOf p.1 p.2).bind fun l => bif nodupN (ios p.1) then (C f l).bind fun q => (fresh q.1).bind fun r => (outsTo p.1 q.2 p.2).map fun st2 => (r, st2) else none
theorem i_call {f n : Nat} {σ : St} {H : Hp} {Q : VK} (h : tS w (f_call C f gs) σ H Q) (hn : ∀ st p, gs st = some p → p.1.length = n) : tCall (spN w C f n) [] E0 (tA w gs) σ H Q := by
  obtain ⟨F, st, r, st', fo, rl, hf, q⟩ := h
  obtain ⟨p, h1, hf⟩ := bnd1 hf
  obtain ⟨l, h2, hf⟩ := bnd1 hf
  cases hnd : nodupN (ios p.1) with
  | false => rw [hnd] at hf; cases hf
  | true =>
    rw [hnd] at hf
    obtain ⟨u, h3, hf⟩ := bnd1 (show (C f l).bind _ = _ from hf)
    obtain ⟨r', h4, hf⟩ := bnd1 hf
    obtain ⟨st2, h5, hf⟩ := map1 hf
    cases hf
    refine ⟨F, st, p.1, p.2, fo, rl, h1, fun vs F1 H1 A1 R1 => ?_⟩
    obtain ⟨g1, g2, g3, g4, g5⟩ := ag_of A1.rl R1 h2 hnd
    rw [List.append_nil]
    refine ⟨by rw [g5]; exact hn st p h1, F1, l, u.1, u.2, A1.fo, g1, by rw [g2]; exact g4, h3, fun v F2 H2 s2 fo2 o2 r2 => ?_⟩
    have A2 := call_aft A1.fo A1.rl R1 h2 hnd s2 fo2 o2 h5
    refine q v F2 H2 (A1.trans A2) ?_ ?_
    · cases hu : u.1 with
      | im d => rw [hu] at h4 r2; cases h4; exact r2
      | tm d =>
        rw [hu] at h4 r2; cases h4
        obtain ⟨a, e, o, nF, nH⟩ := r2
        exact ⟨a, e, o, nF, fun z => (A1.rl.wo (A2.wo a z)).1 nH⟩
      | sl i => rw [hu] at h4; cases h4
    · cases hu : u.1 with
      | im d => rw [hu] at h4; cases h4; trivial
      | tm d =>
        rw [hu] at h4 r2; cases h4
        obtain ⟨a, e, o, nF, nH⟩ := r2
        intro x ex
        rw [e] at ex; cases ex
        cases qx : H a with
        | none => rfl
        | some y => exact absurd nH (A1.stp.th a (by rw [qx]; exact nofun))
      | sl i => rw [hu] at h4; cases h4
theorem r_call {f : Nat} {x : Str} {e : Expr} (G : FnN X w C f (e :: es).length x) (hg : Gl X x) (hdb : (x == ("__debug__" : Str)) = false) (ha : PA X (e :: es) (tA w gs)) (hp : Pl (e :: es)) (hp2 : Pl es) (hn : ∀ st p, gs st = some p → p.1.length = (e :: es).length) :
    PE X (.Call (.Name x p0) (e :: es) [] pos) (tS w (f_call C f gs)) := by
  obtain ⟨k, fa, fd, ps, G, hr, hm, hk, hb⟩ := G.ex
  exact (pe_call G hr hg hm hk hb .nil pass0 ha hdb (hp.cons hp2 _) (hp2.any _ _)).imp fun σ H Q h => i_call h hn
theorem r_call0 {f : Nat} {x : Str} (G : FnN X w C f 0 x) (hg : Gl X x) (hdb : (x == ("__debug__" : Str)) = false) :
    PE X (.Call (.Name x p0) [] [] pos) (tS w (f_call C f fun st => some ([], st))) := by
  obtain ⟨k, fa, fd, ps, G, hr, hm, hk, hb⟩ := G.ex
  refine (pe_call0 G hr hg hm hk hb .nil pass0 hdb).imp fun σ H Q h => ?_
  have := i_call (n := 0) h (fun st p e => by cases e; rfl)
  obtain ⟨F, st, as, st', fo, rl, hf, q⟩ := this
  cases hf
  exact q [] F H (.refl fo rl) .nil
theorem a_io {i : Nat} {x : Str} {e : Expr} (he : e = .Name x p0) (hN : X.N[i]? = some x) (hv : Vis X.env.scope x) (hf : fineName x = true) (hr : PA X es (tA w gs)) (hs : starEach (e :: es) X.env = (false, eval e X.env) :: starEach es X.env) :
    PA X (e :: es) (tA w fun st => (ownOf (sget st i)).bind fun _ => (gs st).map fun q => (.inl i :: q.1, q.2)) := by
  subst he
  unfold fineName at hf
  rw [Bool.and_eq_true, Bool.not_eq_true', Bool.not_eq_true'] at hf
  refine (pa_cons (pe_var hN hv hf.1 hf.2) hr hs).imp fun σ H Q h => ?_
  obtain ⟨F, st, as, st', fo, rl, hf, q⟩ := h
  obtain ⟨d, h0, hf⟩ := bnd1 hf
  obtain ⟨p, h1, hf⟩ := map1 hf
  cases hf
  obtain ⟨a, ea, _⟩ := own_sl rl (ownOf_eq h0)
  exact ⟨_, ea, F, st, p.1, p.2, fo, rl, h1, fun vs F' H' A R => q _ F' H' A (.io ea R)⟩
end
end Nv
end
section
set_option Elab.async false
set_option linter.all false
set_option maxRecDepth 100000
set_option maxHeartbeats 4000000
namespace Nv
open PySem PySem.Spec PyProof.Rows L2

section
variable {F F' : Addr → Prop} {w : World} {H H' : Hp} {σ σ' : St} {st st' : Sg}
theorem Rl.setIm {i : Nat} {v : V} {d : D} (rl : Rl F w H σ st) (r : Rp F w H v d) : Rl F w H (σ.set i (some v)) (st.set i (.im d)) := by
  refine ⟨by rw [List.length_set, List.length_set]; exact rl.len, fun j => ?_, fun j l a h1 h2 e1 e2 => ?_⟩
  · rw [sget_set]
    by_cases e : i = j ∧ i < st.length
    · rw [if_pos e]
      obtain ⟨rfl, hl⟩ := e
      exact ⟨v, by rw [List.getElem?_set_self (by rw [← rl.len]; exact hl)], r⟩
    · rw [if_neg e]
      by_cases ij : i = j
      · have hl : st.length ≤ j := Nat.le_of_not_lt fun q => e ⟨ij, by rw [ij]; exact q⟩
        have : sget st j = .un := by unfold sget; rw [List.getD_eq_getElem?_getD, List.getElem?_eq_none hl]; rfl
        rw [this]; exact True.intro
      · rw [List.getElem?_set_ne ij]; exact rl.ok j
  · have ne : ∀ j, (sget (st.set i (.im d)) j).owned → i ≠ j ∧ (sget st j).owned := fun j h => by
      by_cases ij : i = j
      · rw [sget_set] at h
        by_cases e : i = j ∧ i < st.length
        · rw [if_pos e] at h; exact h.elim
        · rw [if_neg e] at h
          have hl : st.length ≤ j := Nat.le_of_not_lt fun q => e ⟨ij, by rw [ij]; exact q⟩
          have : sget st j = .un := by unfold sget; rw [List.getD_eq_getElem?_getD, List.getElem?_eq_none hl]; rfl
          rw [this] at h; exact h.elim
      · rw [sget_ne ij] at h; exact ⟨ij, h⟩
    obtain ⟨n1, o1⟩ := ne j h1
    obtain ⟨n2, o2⟩ := ne l h2
    rw [List.getElem?_set_ne n1] at e1
    rw [List.getElem?_set_ne n2] at e2
    exact rl.inj j l a o1 o2 e1 e2
theorem setIm_own {i : Nat} {d : D} {j : Nat} (h : (sget (st.set i (.im d)) j).owned) : (sget st j).owned ∧ (i ≠ j ∨ st.length ≤ i) := by
  rw [sget_set] at h
  by_cases e : i = j ∧ i < st.length
  · rw [if_pos e] at h; exact h.elim
  · rw [if_neg e] at h
    refine ⟨h, ?_⟩
    by_cases ij : i = j
    · exact .inr (Nat.le_of_not_lt fun q => e ⟨ij, q⟩)
    · exact .inl ij
theorem setIm_open {i : Nat} {d : D} {j : Nat} (h : (sget (st.set i (.im d)) j).open) : (sget st j).open := by
  rw [sget_set] at h
  by_cases e : i = j ∧ i < st.length
  · rw [if_pos e] at h; exact h.elim
  · rw [if_neg e] at h; exact h
theorem sget_big {j : Nat} (h : st.length ≤ j) : sget st j = .un := by unfold sget; rw [List.getD_eq_getElem?_getD, List.getElem?_eq_none h]; rfl
theorem wipes_len : ∀ (vs : List Nat) (st : Sg), (wipes st vs).length = st.length
  | [], _ => rfl
  | v :: vs, st => by
    show (wipes (st.set v .un) vs).length = _
    rw [wipes_len vs, List.length_set]
theorem wipes_get : ∀ (vs : List Nat) (st : Sg) (j : Nat), sget (wipes st vs) j = if j ∈ vs then .un else sget st j
  | [], st, j => by rw [if_neg (by simp)]; rfl
  | v :: vs, st, j => by
    show sget (wipes (st.set v .un) vs) j = _
    rw [wipes_get vs]
    by_cases h : j ∈ vs
    · rw [if_pos h, if_pos (List.mem_cons_of_mem _ h)]
    · rw [if_neg h]
      by_cases e : v = j
      · subst e
        rw [if_pos (List.mem_cons_self ..), sget_set]
        by_cases hl : v < st.length
        · rw [if_pos ⟨rfl, hl⟩]
        · rw [if_neg fun z => hl z.2, sget_big (Nat.le_of_not_lt hl)]
      · rw [sget_ne e, if_neg fun z => (List.mem_cons.mp z).elim (fun q => e q.symm) h]
theorem wipe_get : ∀ (vs : List Nat) (σ : St) (j : Nat), (L2.wipe σ vs)[j]? = if j ∈ vs then (if j < σ.length then some none else none) else σ[j]?
  | [], σ, j => by rw [if_neg (by simp)]; rfl
  | v :: vs, σ, j => by
    show ((L2.wipe σ vs).set v none)[j]? = _
    by_cases e : v = j
    · subst e
      rw [if_pos (List.mem_cons_self ..)]
      by_cases hl : v < σ.length
      · rw [List.getElem?_set_self (by rw [L2.wipe_length]; exact hl), if_pos hl]
      · rw [List.getElem?_eq_none (by rw [List.length_set, L2.wipe_length]; omega), if_neg hl]
    · rw [List.getElem?_set_ne e, wipe_get vs]
      by_cases h : j ∈ vs
      · rw [if_pos h, if_pos (List.mem_cons_of_mem _ h)]
      · rw [if_neg h, if_neg fun z => (List.mem_cons.mp z).elim (fun q => e q.symm) h]
theorem wipe_eq {vs : List Nat} (hl : σ'.length = σ.length) (h : ∀ j, j ∉ vs → σ'[j]? = σ[j]?) : L2.wipe σ' vs = L2.wipe σ vs := by
  refine List.ext_getElem? fun j => ?_
  rw [wipe_get, wipe_get, hl]
  by_cases q : j ∈ vs
  · rw [if_pos q, if_pos q]
  · rw [if_neg q, if_neg q, h j q]
theorem Rl.wipe (vs : List Nat) (rl : Rl F w H σ st) : Rl F w H (L2.wipe σ vs) (wipes st vs) := by
  have own : ∀ j, (sget (wipes st vs) j).owned → j ∉ vs ∧ (sget st j).owned := fun j h => by
    rw [wipes_get] at h
    by_cases q : j ∈ vs
    · rw [if_pos q] at h; exact h.elim
    · rw [if_neg q] at h; exact ⟨q, h⟩
  refine ⟨by rw [wipes_len, L2.wipe_length]; exact rl.len, fun j => ?_, fun j l a h1 h2 e1 e2 => ?_⟩
  · rw [wipes_get, wipe_get]
    by_cases q : j ∈ vs
    · rw [if_pos q, if_pos q]; exact True.intro
    · rw [if_neg q, if_neg q]; exact rl.ok j
  · obtain ⟨n1, o1⟩ := own j h1
    obtain ⟨n2, o2⟩ := own l h2
    rw [wipe_get, if_neg n1] at e1
    rw [wipe_get, if_neg n2] at e2
    exact rl.inj j l a o1 o2 e1 e2
def gNames : List Nat → TGs
  | [] => gNil
  | i :: is => gCons (gName i) (gNames is)
def gT (K : PySem.W.Frag) : T → TG
  | .nm i => gName i
  | .pr is => gTup K is.length (gNames is)
/-- behind a store to a target's names -/
structure Bnd (F : Addr → Prop) (w : World) (H : Hp) (σ : St) (st : Sg) (is : List Nat) (σ' : St) (st' : Sg) : Prop where
  rl : Rl F w H σ' st'
  len : σ'.length = σ.length
  eq : ∀ j, j ∉ is → σ'[j]? = σ[j]?
  own : ∀ j, (sget st' j).owned → (sget st j).owned ∧ σ'[j]? = σ[j]?
  opn : ∀ j, (sget st' j).open → (sget st j).open
  sq : ∀ j, j ∉ is → sget st' j = sget st j
theorem Bnd.nm {i : Nat} {v : V} {d : D} (rl : Rl F w H σ st) (r : Rp F w H v d) : Bnd F w H σ st [i] (σ.set i (some v)) (st.set i (.im d)) := by
  refine ⟨rl.setIm r, List.length_set .., fun j h => List.getElem?_set_ne fun e => h (by simp [e]), fun j h => ?_, fun j h => setIm_open h, fun j h => sget_ne fun e => h (by simp [e])⟩
  obtain ⟨h1, h2⟩ := setIm_own h
  refine ⟨h1, ?_⟩
  rcases h2 with h2 | h2
  · exact List.getElem?_set_ne h2
  · rw [List.set_eq_of_length_le (by rw [← rl.len]; exact h2)]
theorem Bnd.trans {is js : List Nat} {σ1 σ2 : St} {st1 st2 : Sg} (a : Bnd F w H σ st is σ1 st1) (b : Bnd F w H σ1 st1 js σ2 st2) : Bnd F w H σ st (is ++ js) σ2 st2 := by
  refine ⟨b.rl, b.len.trans a.len, fun j h => ?_, fun j h => ?_, fun j h => a.opn j (b.opn j h), fun j h => ?_⟩
  · rw [b.eq j fun z => h (by simp [z]), a.eq j fun z => h (by simp [z])]
  · obtain ⟨h1, h2⟩ := b.own j h
    obtain ⟨h3, h4⟩ := a.own j h1
    exact ⟨h3, h2.trans h4⟩
  · rw [b.sq j fun z => h (by simp [z]), a.sq j fun z => h (by simp [z])]
theorem Bnd.refl (rl : Rl F w H σ st) : Bnd F w H σ st [] σ st := ⟨rl, rfl, fun _ _ => rfl, fun _ h => ⟨h, rfl⟩, fun _ h => h, fun _ _ => rfl⟩
theorem g_names : ∀ {is : List Nat} {vs : List V} {ds : List D} {σ : St} {st : Sg} {Q : St → Hp → Prop}, Rl F w H σ st → RpA F w H vs ds → ds.length = is.length →
    (∀ σ', Bnd F w H σ st is σ' ((is.zip ds).foldl (fun st p => st.set p.1 (.im p.2)) st) → Q σ' H) → gNames is vs σ H Q
  | [], _, _, σ, st, Q, rl, .nil, _, q => ⟨rfl, q σ (.refl rl)⟩
  | [], _, _, σ, st, Q, rl, .cons _ _, h, q => by simp at h
  | i :: is, _, _, σ, st, Q, rl, .nil, h, q => by simp at h
  | i :: is, _, _, σ, st, Q, rl, .cons (v := v) (d := d) (vs := vs) (ds := ds) r t, h, q => by
    have b := Bnd.nm (i := i) rl r
    exact ⟨v, vs, rfl, g_names (is := is) b.rl t (by simpa using h) fun σ' b' => q σ' (b.trans b')⟩
theorem g_bind {K : PySem.W.Frag} {t : T} {x : V} {d : D} {st1 : Sg} {Q : St → Hp → Prop} (rl : Rl F w H σ st) (r : Rp F w H x d) (h : bindT t d st = some st1) (q : ∀ σ', Bnd F w H σ st t.own σ' st1 → Q σ' H) : gT K t x σ H Q := by
  cases t with
  | nm i =>
    cases h
    exact q _ (.nm rl r)
  | pr is =>
    obtain ⟨xs, h1, h2⟩ := bnd1 (show (tupOf d).bind _ = some st1 from h)
    split at h2
    · rename_i hl
      cases h2
      cases d with
      | tuple ys =>
        cases h1
        cases r with
        | tup f hr ra => exact ⟨_, _, rfl, .inl hr, by rw [ra.length]; exact hl, g_names rl ra hl q⟩
      | _ => cases h1
    · cases h2
theorem pg_T {X : Cx} {t : T} {tg : Expr} {es : List Expr} (hc : X.calm = true) (h : ∀ i ∈ t.own, True) : True := trivial

/-- J gives the items xs as long as what stands at A0 is as it is in H -/
structure Wk (w : World) (J : It) (xs : List D) (A0 F : Addr → Prop) (H : Hp) : Prop where
  go : ∀ (i : Nat) (F1 : Addr → Prop) (H1 : Hp), Keep F H F1 H1 → (∀ a, A0 a → H1 a = H a) → Fok F1 H1 → ∀ d, xs[i]? = some d → J.go i H1 ∧ ∀ x H2, J.yld i H1 x H2 →
    ∃ F2, Stp F1 H1 (fun _ => False) (fun _ => False) F2 H2 ∧ Fok F2 H2 ∧ Rp F2 w H2 x d
  stop : ∀ (i : Nat) (H1 : Hp), (∀ a, F a ∨ A0 a → H1 a = H a) → xs.length ≤ i → J.stop i H1
def tI (w : World) (f : Sg → Option (List D × Option Nat × Sg)) : TI := fun σ H R => ∃ F st xs l st', Fok F H ∧ Rl F w H σ st ∧ f st = some (xs, l, st') ∧
  ∀ J A0 F' H', Aft F w H σ st F' H' st' → (∀ a, A0 a → H' a ≠ none ∧ ¬ Wr σ st' a) → Wk w J xs A0 F' H' → (∀ i, l = some i → (sget st i).open) → R J H'
theorem Wk.list {K : PySem.W.Frag} {a : Addr} {vs : List V} {xs : List D} {A0 : Addr → Prop} (h : Rd H a (.lst vs)) (r : RpA F w H vs xs) (ha : F a ∨ A0 a) : Wk w (Itl K a) xs A0 F H := by
  refine ⟨fun i F1 H1 k e fo d hd => ?_, fun i H1 e hi => ?_⟩
  · have ea : H1 a = H a := ha.elim (k.eq a) (e a)
    have h1 : Rd H1 a (.lst vs) := Rd.keep ea h
    obtain ⟨v, e1, e2⟩ := r.get hd
    refine ⟨⟨vs, v, .inl h1, e1⟩, fun x H2 y => ?_⟩
    obtain ⟨rfl, y⟩ := y
    have := y vs (.inl h1)
    rw [e1] at this; cases this
    exact ⟨F1, .refl, fo, e2.stay k⟩
  · exact ⟨vs, .inl (Rd.keep (e a ha) h), by rw [r.length]; exact hi⟩
theorem Wk.tup {K : PySem.W.Frag} {a : Addr} {vs : List V} {xs : List D} {A0 : Addr → Prop} (h : Rd H a (.tup vs)) (r : RpA F w H vs xs) (ha : F a ∨ A0 a) : Wk w (Itt K a) xs A0 F H := by
  refine ⟨fun i F1 H1 k e fo d hd => ?_, fun i H1 e hi => ?_⟩
  · have ea : H1 a = H a := ha.elim (k.eq a) (e a)
    have h1 : Rd H1 a (.tup vs) := Rd.keep ea h
    obtain ⟨v, e1, e2⟩ := r.get hd
    refine ⟨⟨vs, v, .inl h1, e1⟩, fun x H2 y => ?_⟩
    obtain ⟨rfl, y⟩ := y
    have := y vs (.inl h1)
    rw [e1] at this; cases this
    exact ⟨F1, .refl, fo, e2.stay k⟩
  · exact ⟨vs, .inl (Rd.keep (e a ha) h), by rw [r.length]; exact hi⟩
theorem rngD_get {lo hi : Int} {i : Nat} {d : D} (h : (rngD lo hi)[i]? = some d) : d = .int (lo + i) ∧ i < (hi - lo).toNat := by
  unfold rngD at h
  rw [List.getElem?_map] at h
  cases q : (List.range (hi - lo).toNat)[i]? with
  | none => rw [q] at h; cases h
  | some k =>
    rw [q] at h; cases h
    have hl := List.getElem?_eq_some_iff.mp q
    obtain ⟨h1, h2⟩ := hl
    rw [List.getElem_range] at h2
    subst h2
    exact ⟨rfl, by simpa using h1⟩
theorem rngD_len {lo hi : Int} : (rngD lo hi).length = (hi - lo).toNat := by unfold rngD; simp
theorem Wk.rng {lo hi : Int} {A0 : Addr → Prop} : Wk w (Itr lo (hi - lo).toNat) (rngD lo hi) A0 F H := by
  refine ⟨fun i F1 H1 k e fo d hd => ?_, fun i H1 e h => ?_⟩
  · obtain ⟨rfl, hl⟩ := rngD_get hd
    refine ⟨hl, fun x H2 y => ?_⟩
    obtain ⟨rfl, rfl⟩ := y
    exact ⟨F1, .refl, fo, .int _⟩
  · rw [rngD_len] at h; exact h
end
section
variable {X : Cx} {w : World} {a b tg : Expr} {fa fb : Sg → Option (R × Sg)} {p0 pos : Pos}
theorem _root_.L2.PI.imp {t t' : TI} (h : PI X tg a t) (f : ∀ σ H Q, t' σ H Q → t σ H Q) : PI X tg a t' := ⟨fun pins s σ H R I q => h.run pins s σ H R I (f σ H R q)⟩
theorem okR_le {i : Int} (h : okR i = true) : -(2 ^ 62) ≤ i ∧ i < 2 ^ 62 := by
  unfold okR at h
  have h := of_decide_eq_true h
  omega
theorem i_rng1 (hg : Gl X "range") (hm : X.mg "range" = none) (ha : PE X a (tS w fa)) (hs : starEach [a] X.env = [(false, eval a X.env)]) :
    PI X tg (.Call (.Name "range" p0) [a] [] pos) (tI w fun st => (fa st).bind fun p => (dr p.2 p.1).bind fun x => (rngW [x]).map fun xs => (xs, none, p.2)) := by
  refine (pi_range1 hg hm (pa_cons ha pa_nil hs) hs).imp fun σ H R h => ?_
  obtain ⟨F, st, xs, l, st', fo, rl, hf, q⟩ := h
  obtain ⟨p, h1, hf⟩ := bnd1 hf
  obtain ⟨x, h2, hf⟩ := bnd1 hf
  obtain ⟨ys, h3, hf⟩ := map1 hf
  cases hf
  refine ⟨F, st, p.1, p.2, fo, rl, h1, fun v1 F1 H1 A1 R1 N1 => ?_⟩
  cases x with
  | int n =>
    have h3 : (if okR n then some (rngD 0 n) else none) = some xs := h3
    split at h3
    · rename_i hn
      cases h3
      obtain rfl := (R1.vw A1.rl h2).int
      refine ⟨n, rfl, (okR_le hn).1, (okR_le hn).2, ?_⟩
      have := q (Itr 0 (n - 0).toNat) (fun _ => False) F1 H1 A1 (fun _ z => z.elim) .rng nofun
      rwa [Int.sub_zero] at this
    · cases h3
  | _ => cases h3
theorem i_rng2 (hg : Gl X "range") (hm : X.mg "range" = none) (ha : PE X a (tS w fa)) (hb : PE X b (tS w fb)) (hs : starEach [a, b] X.env = [(false, eval a X.env), (false, eval b X.env)]) (hs2 : starEach [b] X.env = [(false, eval b X.env)]) :
    PI X tg (.Call (.Name "range" p0) [a, b] [] pos) (tI w fun st => (fa st).bind fun p => (fb p.2).bind fun q => (dr q.2 p.1).bind fun x => (dr q.2 q.1).bind fun y => (rngW [x, y]).map fun xs => (xs, none, q.2)) := by
  refine (pi_range2 hg hm (pa_cons ha (pa_cons hb pa_nil hs2) (by rw [hs, hs2])) hs hs2).imp fun σ H R h => ?_
  obtain ⟨F, st, xs, l, st', fo, rl, hf, q⟩ := h
  obtain ⟨p, h1, hf⟩ := bnd1 hf
  obtain ⟨p2, h2, hf⟩ := bnd1 hf
  obtain ⟨x, h3, hf⟩ := bnd1 hf
  obtain ⟨y, h4, hf⟩ := bnd1 hf
  obtain ⟨ys, h5, hf⟩ := map1 hf
  cases hf
  refine ⟨F, st, p.1, p.2, fo, rl, h1, fun v1 F1 H1 A1 R1 N1 => ⟨F1, p.2, p2.1, p2.2, A1.fo, A1.rl, h2, fun v2 F2 H2 A2 R2 N2 => ?_⟩⟩
  have R1' := R1.stay A1.fo A1.rl A2
  have key : ∃ m n : Int, x = .int m ∧ y = .int n ∧ okR m = true ∧ okR n = true ∧ xs = rngD m n := by
    cases x with
    | int m => cases y with
      | int n =>
        have h5 : (if okR m ∧ okR n then some (rngD m n) else none) = some xs := h5
        split at h5
        · rename_i hn; cases h5; exact ⟨m, n, rfl, rfl, hn.1, hn.2, rfl⟩
        · cases h5
      | _ => cases h5
    | _ => cases h5
  obtain ⟨m, n, rfl, rfl, hm1, hn1, rfl⟩ := key
  obtain rfl := (R1'.vw A2.rl h3).int
  obtain rfl := (R2.vw A2.rl h4).int
  exact ⟨m, n, rfl, ⟨(okR_le hm1).1, (okR_le hm1).2, (okR_le hn1).1, (okR_le hn1).2⟩, q _ (fun _ => False) F2 H2 (A1.trans A2) (fun _ z => z.elim) .rng nofun⟩
theorem rngD3_get {lo c : Int} {n i : Nat} {d : D} (h : (rngD3 lo n c)[i]? = some d) : d = .int (lo + (i : Nat) * c) ∧ i < n := by
  unfold rngD3 at h
  rw [List.getElem?_map] at h
  cases q : (List.range n)[i]? with
  | none => rw [q] at h; cases h
  | some k =>
    rw [q] at h; cases h
    have hl := List.getElem?_eq_some_iff.mp q
    obtain ⟨h1, h2⟩ := hl
    rw [List.getElem_range] at h2
    subst h2
    exact ⟨rfl, by simpa using h1⟩
theorem rngD3_len {lo c : Int} {n : Nat} : (rngD3 lo n c).length = n := by unfold rngD3; simp
theorem Wk.rng3 {lo c : Int} {n : Nat} {A0 F : Addr → Prop} {H : Hp} : Wk w (Itc lo c n) (rngD3 lo n c) A0 F H := by
  refine ⟨fun i F1 H1 k e fo d hd => ?_, fun i H1 e h => ?_⟩
  · obtain ⟨rfl, hl⟩ := rngD3_get hd
    refine ⟨hl, fun x H2 y => ?_⟩
    obtain ⟨rfl, rfl⟩ := y
    exact ⟨F1, .refl, fo, .int _⟩
  · rw [rngD3_len] at h; exact h
theorem size_nat (a b c : Int) (h : c ≠ 0) : Builtin.Range.rangeSize a b c = ((Builtin.Range.rangeSize a b c).toNat : Int) := by
  have : 0 ≤ Builtin.Range.rangeSize a b c := by
    unfold Builtin.Range.rangeSize
    split
    · rename_i hc
      split
      · rename_i hab
        have := Int.ediv_nonneg (a := b - a - 1) (b := c) (by omega) (by omega)
        omega
      · omega
    · rename_i hc
      split
      · rename_i hab
        have := Int.ediv_nonneg (a := a - b - 1) (b := -c) (by omega) (by omega)
        omega
      · omega
  omega
theorem i_rng3 {e : Expr} {fe : Sg → Option (R × Sg)} (hg : Gl X "range") (hm : X.mg "range" = none) (ha : PE X a (tS w fa)) (hb : PE X b (tS w fb)) (he : PE X e (tS w fe)) (hs : starEach [a, b, e] X.env = (false, eval a X.env) :: starEach [b, e] X.env) (hs2 : starEach [b, e] X.env = (false, eval b X.env) :: starEach [e] X.env) (hs3 : starEach [e] X.env = (false, eval e X.env) :: starEach [] X.env) (hpl : (backTo pos (starEach [b, e] X.env)).any (·.1) = false) :
    PI X tg (.Call (.Name "range" p0) [a, b, e] [] pos) (tI w fun st => (fa st).bind fun p => (fb p.2).bind fun q => (fe q.2).bind fun u => (dr u.2 p.1).bind fun x => (dr u.2 q.1).bind fun y => (dr u.2 u.1).bind fun z => (rngW [x, y, z]).map fun xs => (xs, none, u.2)) := by
  refine (pi_range3 hg hm (pa_cons ha (pa_cons hb (pa_cons he pa_nil hs3) hs2) hs) hs hpl).imp fun σ H R h => ?_
  obtain ⟨F, st, xs, l, st', fo, rl, hf, q⟩ := h
  obtain ⟨p, h1, hf⟩ := bnd1 hf
  obtain ⟨p2, h2, hf⟩ := bnd1 hf
  obtain ⟨p3, h3, hf⟩ := bnd1 hf
  obtain ⟨x, h4, hf⟩ := bnd1 hf
  obtain ⟨y, h5, hf⟩ := bnd1 hf
  obtain ⟨z, h6, hf⟩ := bnd1 hf
  obtain ⟨ys, h7, hf⟩ := map1 hf
  cases hf
  refine ⟨F, st, p.1, p.2, fo, rl, h1, fun v1 F1 H1 A1 R1 N1 => ⟨F1, p.2, p2.1, p2.2, A1.fo, A1.rl, h2, fun v2 F2 H2 A2 R2 N2 => ⟨F2, p2.2, p3.1, p3.2, A2.fo, A2.rl, h3, fun v3 F3 H3 A3 R3 N3 => ?_⟩⟩⟩
  have R1' := (R1.stay A1.fo A1.rl A2).stay A2.fo A2.rl A3
  have R2' := R2.stay A2.fo A2.rl A3
  have key : ∃ m n c : Int, x = .int m ∧ y = .int n ∧ z = .int c ∧ c ≠ 0 ∧ c.natAbs < 1073741824 ∧ Builtin.Range.small m n c = true ∧ xs = rngD3 m (Builtin.Range.rangeSize m n c).toNat c := by
    cases x with
    | int m => cases y with
      | int n => cases z with
        | int c =>
          have h7 : (if c ≠ 0 ∧ c.natAbs < 1073741824 ∧ Builtin.Range.small m n c = true then some (rngD3 m (Builtin.Range.rangeSize m n c).toNat c) else none) = some xs := h7
          split at h7
          · rename_i hn; cases h7; exact ⟨m, n, c, rfl, rfl, rfl, hn.1, hn.2.1, hn.2.2, rfl⟩
          · cases h7
        | _ => cases h7
      | _ => cases h7
    | _ => cases h7
  obtain ⟨m, n, c, rfl, rfl, rfl, c0, c1, c2, rfl⟩ := key
  obtain rfl := (R1'.vw A3.rl h4).int
  obtain rfl := (R2'.vw A3.rl h5).int
  obtain rfl := (R3.vw A3.rl h6).int
  exact ⟨m, n, c, (Builtin.Range.rangeSize m n c).toNat, rfl, ⟨c0, c1, c2, size_nat m n c c0⟩, q _ (fun _ => False) F3 H3 ((A1.trans A2).trans A3) (fun _ z => z.elim) .rng3 nofun⟩
/-- the slot at i locked -/
theorem Aft.lock {F : Addr → Prop} {H : Hp} {σ : St} {st : Sg} {i : Nat} {xs : List D} (fo : Fok F H) (rl : Rl F w H σ st) (hs : sget st i = .ow (.list xs)) : Aft F w H σ st F H (st.set i (.lk (.list xs))) := by
  have oi : (sget st i).owned := by rw [hs]; exact True.intro
  have hl : i < st.length := sget_lt fun e => by rw [e] at oi; exact oi
  have gs : ∀ j, sget (st.set i (.lk (.list xs))) j = if i = j then .lk (.list xs) else sget st j := fun j => by
    rw [sget_set]
    by_cases e : i = j
    · rw [if_pos ⟨e, hl⟩, if_pos e]
    · rw [if_neg fun z => e z.1, if_neg e]
  have own : ∀ j, (sget (st.set i (.lk (.list xs))) j).owned → (sget st j).owned := fun j h => by
    rw [gs] at h
    by_cases e : i = j
    · rw [← e]; exact oi
    · rw [if_neg e] at h; exact h
  refine ⟨.refl, ⟨by rw [List.length_set]; exact rl.len, fun j => ?_, fun j l a h1 h2 => rl.inj j l a (own j h1) (own l h2)⟩, fo, fun j h => ?_, own, fun j h => ?_⟩
  · rw [gs]
    by_cases e : i = j
    · subst e
      rw [if_pos rfl]
      obtain ⟨a, e1, o, n⟩ := own_sl rl hs
      cases o with
      | lst h r => exact ⟨a, e1, .lst h r, n⟩
    · rw [if_neg e]; exact rl.ok j
  · rw [gs] at h
    by_cases e : i = j
    · rw [if_pos e] at h; exact h.elim
    · rw [if_neg e] at h; exact h
  · rw [gs]
    by_cases e : i = j
    · rw [if_pos e]; exact nofun
    · rw [if_neg e]; exact h
theorem lock_eq {st : Sg} {r : R} (h : ∀ i d, r = .sl i → sget st i ≠ .ow d) : Nv.lock st r = (st, none) := by
  cases r with
  | im d => rfl
  | tm d => rfl
  | sl i =>
    unfold Nv.lock
    cases e : sget st i with
    | ow d => exact absurd e (h i d rfl)
    | _ => simp only [e]
theorem lock_ow {st : Sg} {i : Nat} {d : D} (h : sget st i = .ow d) : Nv.lock st (.sl i) = (st.set i (.lk d), some i) := by
  unfold Nv.lock
  simp only [h]
/-- the object that is walked, held -/
theorem hold_at {F F0 : Addr → Prop} {H H0 : Hp} {σ : St} {st st0 : Sg} {r : R} {v : V} {d : D} {xs : List D} (A : Aft F0 w H0 σ st0 F H st) (R1 : RR F w H σ st v r) (N1 : Nw H0 v r) (h : dr st r = some d) (hx : walkD d = some xs) :
    ∃ a, v = .ref a ∧ ∃ vs, RpA F w H vs xs ∧ ((d = .list xs ∧ Rd H a (.lst vs)) ∨ (d = .tuple xs ∧ Rd H a (.tup vs))) ∧ ∃ A0 : Addr → Prop, (F a ∨ A0 a) ∧ (∀ b, A0 b → H b ≠ none ∧ ¬ Wr σ (Nv.lock st r).1 b) ∧
      Aft F0 w H0 σ st0 F H (Nv.lock st r).1 ∧ ∀ i, (Nv.lock st r).2 = some i → (sget st0 i).open := by
  have key : ∃ a, v = .ref a ∧ ∃ vs, RpA F w H vs xs ∧ ((d = .list xs ∧ Rd H a (.lst vs)) ∨ (d = .tuple xs ∧ Rd H a (.tup vs) ∧ F a)) := by
    cases d with
    | list ys => cases hx; obtain ⟨a, vs, e, h1, h2⟩ := (R1.vw A.rl h).list; exact ⟨a, e, vs, h2, .inl ⟨rfl, h1⟩⟩
    | tuple ys => cases hx; obtain ⟨a, vs, e, h1, h2, h3⟩ := (R1.vw A.rl h).tuple; exact ⟨a, e, vs, h2, .inr ⟨rfl, h1, h3⟩⟩
    | _ => cases hx
  obtain ⟨a, rfl, vs, ra, k⟩ := key
  have there : ∀ {o : HO}, Rd H a o → H a ≠ none := fun {o} h => by
    rcases h with h | ⟨_, h⟩ <;> (rw [h]; exact nofun)
  refine ⟨a, rfl, vs, ra, k.imp id fun z => ⟨z.1, z.2.1⟩, ?_⟩
  rcases k with ⟨rfl, hr⟩ | ⟨rfl, hr, hF⟩
  case inr =>
    have e : Nv.lock st r = (st, none) := lock_eq fun i d0 e1 e2 => by
      subst e1
      have R1 : σ[i]? = _ ∧ _ := R1
      obtain ⟨b, e3, o, n⟩ := own_sl A.rl e2
      rw [R1.1] at e3; cases e3
      exact n hF
    rw [e]
    exact ⟨fun _ => False, .inl hF, fun _ z => z.elim, A, nofun⟩
  cases r with
  | im d0 =>
    cases h
    cases R1 with
    | lst f h1 h2 =>
      rw [lock_eq fun _ _ (e : R.im _ = R.sl _) => by cases e]
      exact ⟨fun _ => False, .inl f, fun _ z => z.elim, A, nofun⟩
  | tm d0 =>
    cases h
    obtain ⟨b, e, o, n, m⟩ := R1
    cases e
    rw [lock_eq fun _ _ (e : R.tm _ = R.sl _) => by cases e]
    refine ⟨fun x => x = a, .inr rfl, fun b e => ?_, A, nofun⟩
    subst e
    exact ⟨there hr, fun z => m z.wo⟩
  | sl i =>
    obtain ⟨e1, e2⟩ := R1
    cases hs : sget st i with
    | un => exact absurd hs e2
    | im d0 =>
      have ok := A.rl.ok i
      rw [hs] at ok
      obtain ⟨v', e', rp⟩ := ok
      rw [e1] at e'; cases e'
      have hd : (sget st i).val = some (.list xs) := h
      rw [hs] at hd; cases hd
      cases rp with
      | lst f h1 h2 =>
        rw [lock_eq fun j d0 ej z => by cases ej; rw [hs] at z; cases z]
        exact ⟨fun _ => False, .inl f, fun _ z => z.elim, A, nofun⟩
    | ow d0 =>
      have hd : (sget st i).val = some (.list xs) := h
      rw [hs] at hd; cases hd
      rw [lock_ow hs]
      have oi : (sget st i).owned := by rw [hs]; exact True.intro
      have hl : i < st.length := sget_lt fun e => by rw [e] at oi; exact oi
      refine ⟨fun x => x = a, .inr rfl, fun b e => ?_, A.trans (Aft.lock A.fo A.rl hs), fun j ej => ?_⟩
      · subst e
        refine ⟨there hr, fun ⟨j, h1, h2⟩ => ?_⟩
        have L := Aft.lock A.fo A.rl hs
        have ij : i = j := A.rl.inj i j b oi (L.own j (open_owned h1)) e1 h2
        subst ij
        have h1 : (sget (st.set i (.lk (.list xs))) i).open := h1
        rw [sget_same hl] at h1
        exact h1
      · have ej : some i = some j := ej
        cases ej
        exact A.opn i (by rw [hs]; exact True.intro)
    | lk d0 =>
      rw [lock_eq fun j d0 ej z => by cases ej; rw [hs] at z; cases z]
      refine ⟨fun x => x = a, .inr rfl, fun b e => ?_, A, nofun⟩
      subst e
      refine ⟨there hr, fun ⟨j, h1, h2⟩ => ?_⟩
      have ij : i = j := A.rl.inj i j b (by rw [hs]; exact True.intro) (open_owned h1) e1 h2
      subst ij
      rw [hs] at h1
      exact h1
theorem i_of (ha : PE X a (tS w fa)) : PI X tg a (tI w fun st => (fa st).bind fun p => (dr p.2 p.1).bind fun d => (walkD d).map fun xs => (xs, (Nv.lock p.2 p.1).2, (Nv.lock p.2 p.1).1)) := by
  refine ⟨fun pins s σ H R I h => ?_⟩
  obtain ⟨F, st, xs, l, st', fo, rl, hf, q⟩ := h
  obtain ⟨p, h1, hf⟩ := bnd1 hf
  obtain ⟨d, h2, hf⟩ := bnd1 hf
  obtain ⟨ys, h3, hf⟩ := map1 hf
  cases hf
  refine thn (ha.run pins s σ H (fun v H1 => ∃ F1, Aft F w H σ st F1 H1 p.2 ∧ RR F1 w H1 σ p.2 v p.1 ∧ Nw H v p.1) I ⟨F, st, p.1, p.2, fo, rl, h1, fun v F1 H1 A1 R1 N1 => ⟨F1, A1, R1, N1⟩⟩) fun u s1 ⟨v, H1, I1, r1, F1, A1, R1, N1⟩ => ?_
  obtain ⟨a, rfl, vs, ra, k, A0, hA, hA0, A2, hi⟩ := hold_at A1 R1 N1 h2 h3
  obtain rfl : u = Value.ref a := r1
  have fp : ∀ b ∈ [s1.heap.objs.size], FpOk X pins H1 b := fun b hb => by
    have e : b = s1.heap.objs.size := by simpa using hb
    subst e
    exact I1.fpOk (Nat.le_refl _) (I1.hok.fresh (Nat.le_refl _))
  rcases k with ⟨rfl, hr⟩ | ⟨rfl, hr⟩
  · obtain ⟨its, rv, p', hz⟩ := I1.list (xs := vs) (.inl hr)
    refine wpAny_pyIter_list p'.isList ?_
    exact ⟨s1.heap.objs.size, [s1.heap.objs.size], _, _, H1, rfl, I1.kept (t' := s1.toks) fun b o e => Heap.get?_push_of_some _ e, turn_list a _, ⟨_, Heap.get?_push_size _ rfl, rfl, rfl⟩, fp, q _ A0 F1 H1 A2 hA0 (.list hr ra hA) hi⟩
  · obtain ⟨its, rv, p', hz⟩ := I1.tuple (xs := vs) (.inl hr)
    refine wpAny_pyIter_tuple (show s1.heap.IsTuple a its.toArray from p') ?_
    exact ⟨s1.heap.objs.size, [s1.heap.objs.size], _, _, H1, rfl, I1.kept (t' := s1.toks) fun b o e => Heap.get?_push_of_some _ e, turn_tuple a _, ⟨_, Heap.get?_push_size _ rfl, rfl, rfl⟩, fp, q _ A0 F1 H1 A2 hA0 (.tup hr ra hA) hi⟩
end
end Nv
end
section
set_option Elab.async false
set_option linter.all false
set_option maxRecDepth 100000
set_option maxHeartbeats 4000000
namespace Nv
open PySem PySem.Spec PyProof.Rows L2

section
variable {F F1 F2 F3 F4 : Addr → Prop} {w : World} {H H1 H2 H3 H4 : Hp} {σ σ' σ2 : St} {st st0 st1 st2 st3 : Sg}
theorem wipe_wipe (σ : St) (vs : List Nat) : L2.wipe (L2.wipe σ vs) vs = L2.wipe σ vs := wipe_eq (L2.wipe_length ..) fun j h => by rw [wipe_get, if_neg h]
/-- one turn within the block, seen from the block's frame -/
theorem Bnd.aft {vs is : List Nat} (b : Bnd F2 w H2 (L2.wipe σ vs) (wipes st vs) is σ2 st1) (hs : ∀ i ∈ is, i ∈ vs) (A : Aft F2 w H2 σ2 st1 F4 H4 st3) : Aft F2 w H2 (L2.wipe σ vs) (wipes st vs) F4 H4 (wipes st3 vs) := by
  have ew : L2.wipe σ2 vs = L2.wipe σ vs := by
    rw [← wipe_wipe σ vs]
    exact wipe_eq b.len fun j h => b.eq j fun z => h (hs j z)
  have ng : ∀ j, sget (wipes st3 vs) j ≠ .un → j ∉ vs ∧ sget (wipes st3 vs) j = sget st3 j := fun j h => by
    rw [wipes_get] at h ⊢
    by_cases q : j ∈ vs
    · rw [if_pos q] at h; exact absurd rfl h
    · rw [if_neg q]; exact ⟨q, rfl⟩
  have no : ∀ {x : Slot}, x.owned → x ≠ .un := fun {x} h e => by rw [e] at h; exact h
  refine ⟨A.stp.mono (fun x ⟨j, h1, h2⟩ => ⟨j, b.opn j h1, by rw [← (b.own j (open_owned h1)).2]; exact h2⟩) fun x ⟨j, h1, h2⟩ => ⟨j, (b.own j h1).1, by rw [← (b.own j h1).2]; exact h2⟩, ?_, A.fo, fun j h => ?_, fun j h => ?_, fun j h => ?_⟩
  · rw [← ew]; exact A.rl.wipe vs
  · have e := (ng j (no (open_owned h))).2
    rw [e] at h
    exact b.opn j (A.opn j h)
  · have e := (ng j (no h)).2
    rw [e] at h
    exact (b.own j (A.own j h)).1
  · have q : j ∉ vs := fun z => by rw [wipes_get, if_pos z] at h; exact absurd rfl h
    rw [wipes_get, if_neg q]
    refine A.un j ?_
    rw [b.sq j fun z => q (hs j z)]
    exact h
theorem back_get : ∀ (vs : List Nat) {old st : Sg}, st.length = old.length → ∀ j, sget (back old st vs) j = if j ∈ vs then sget old j else sget st j
  | [], old, st, _, j => by rw [if_neg (by simp)]; rfl
  | v :: vs, old, st, hl, j => by
    show sget (back old (st.set v (sget old v)) vs) j = _
    rw [back_get vs (by rw [List.length_set]; exact hl)]
    by_cases q : j ∈ vs
    · rw [if_pos q, if_pos (List.mem_cons_of_mem _ q)]
    · rw [if_neg q]
      by_cases e : v = j
      · subst e
        rw [if_pos (List.mem_cons_self ..), sget_set]
        by_cases hv : v < st.length
        · rw [if_pos ⟨rfl, hv⟩]
        · rw [if_neg fun z => hv z.2, sget_big (Nat.le_of_not_lt hv), sget_big (by omega)]
      · rw [sget_ne e, if_neg fun z => (List.mem_cons.mp z).elim (fun q' => e q'.symm) q]
theorem back_len (vs : List Nat) : ∀ (old st : Sg), (back old st vs).length = st.length := by
  induction vs with
  | nil => exact fun _ _ => rfl
  | cons v vs ih =>
    intro old st
    show (back old (st.set v (sget old v)) vs).length = _
    rw [ih, List.length_set]
/-- out of the block -/
theorem Aft.back {vs : List Nat} (fo : Fok F1 H1) (rl : Rl F1 w H1 σ st0) (A : Aft F1 w H1 (L2.wipe σ vs) (wipes st0 vs) F H (wipes st vs)) (hl : st.length = st0.length) : Aft F1 w H1 σ st0 F H (back st0 st vs) := by
  have out : ∀ j, (sget (wipes st0 vs) j).owned → j ∉ vs ∧ (sget st0 j).owned := fun j h => by
    rw [wipes_get] at h
    by_cases q : j ∈ vs
    · rw [if_pos q] at h; exact h.elim
    · rw [if_neg q] at h; exact ⟨q, h⟩
  have outo : ∀ j, (sget (wipes st0 vs) j).open → j ∉ vs ∧ (sget st0 j).open := fun j h => by
    rw [wipes_get] at h
    by_cases q : j ∈ vs
    · rw [if_pos q] at h; exact h.elim
    · rw [if_neg q] at h; exact ⟨q, h⟩
  have wr : ∀ x, Wr (L2.wipe σ vs) (wipes st0 vs) x → Wr σ st0 x := fun x ⟨j, h1, h2⟩ => by
    obtain ⟨n, h3⟩ := outo j h1
    rw [wipe_get, if_neg n] at h2
    exact ⟨j, h3, h2⟩
  have wo : ∀ x, Wo (L2.wipe σ vs) (wipes st0 vs) x → ∃ j, j ∉ vs ∧ (sget st0 j).owned ∧ σ[j]? = some (some (.ref x)) := fun x ⟨j, h1, h2⟩ => by
    obtain ⟨n, h3⟩ := out j h1
    rw [wipe_get, if_neg n] at h2
    exact ⟨j, n, h3, h2⟩
  have sp : Stp F1 H1 (Wr σ st0) (Wo σ st0) F H := A.stp.mono wr fun x z => let ⟨j, _, h1, h2⟩ := wo x z; ⟨j, h1, h2⟩
  have bg := back_get vs hl
  have own : ∀ j, (sget (Nv.back st0 st vs) j).owned → (sget st0 j).owned := fun j h => by
    rw [bg] at h
    by_cases q : j ∈ vs
    · rw [if_pos q] at h; exact h
    · rw [if_neg q] at h
      exact (out j (A.own j (by rw [wipes_get, if_neg q]; exact h))).2
  refine ⟨sp, ⟨by rw [back_len, hl]; exact rl.len, fun j => ?_, fun i j a h1 h2 => rl.inj i j a (own i h1) (own j h2)⟩, A.fo, fun j h => ?_, own, fun j h => ?_⟩
  · rw [bg]
    by_cases q : j ∈ vs
    · rw [if_pos q]
      refine (rl.ok j).stay (sp.keep fo rl.nw) fun a ho ea => ⟨A.stp.kp a (rl.wo ⟨j, ho, ea⟩).1 fun z => ?_, fun z => ?_⟩
      · obtain ⟨i, h1, h2, h3⟩ := wo a z.wo
        exact h1 (rl.inj i j a h2 ho h3 ea ▸ q)
      · rcases A.stp.new a z with y | y | y
        · exact (rl.wo ⟨j, ho, ea⟩).2 y
        · exact (rl.wo ⟨j, ho, ea⟩).1 y
        · obtain ⟨i, h1, h2, h3⟩ := wo a y
          exact h1 (rl.inj i j a h2 ho h3 ea ▸ q)
    · rw [if_neg q]
      have := A.rl.ok j
      rw [wipes_get, if_neg q, wipe_get, if_neg q] at this
      exact this
  · rw [bg] at h
    by_cases q : j ∈ vs
    · rw [if_pos q] at h; exact h
    · rw [if_neg q] at h
      exact (outo j (A.opn j (by rw [wipes_get, if_neg q]; exact h))).2
  · rw [bg]
    by_cases q : j ∈ vs
    · rw [if_pos q]; exact h
    · rw [if_neg q]
      have := A.un j (by rw [wipes_get, if_neg q]; exact h)
      rw [wipes_get, if_neg q] at this
      exact this
theorem unlock_eq {l : Option Nat} (h : ∀ i xs, l = some i → sget st i ≠ .lk (.list xs)) : Nv.unlock st l = st := by
  cases l with
  | none => rfl
  | some i =>
    show (match sget st i with | .lk (.list xs) => st.set i (.ow (.list xs)) | _ => st) = st
    split
    · rename_i xs e
      exact absurd e (h i xs rfl)
    · rfl
theorem unlock_some {i : Nat} {xs : List D} (h : sget st i = .lk (.list xs)) : Nv.unlock st (some i) = st.set i (.ow (.list xs)) := by
  unfold Nv.unlock
  simp only [h]
/-- the slots where a list is unlocked -/
theorem Rl.unlock {i : Nat} {xs : List D} (rl : Rl F w H σ st) (hs : sget st i = .lk (.list xs)) : Rl F w H σ (st.set i (.ow (.list xs))) ∧ (∀ j, (sget (st.set i (.ow (.list xs))) j).owned → (sget st j).owned) ∧ (∀ j, (sget (st.set i (.ow (.list xs))) j).open → i = j ∨ (sget st j).open) ∧ ∀ j, sget st j ≠ .un → sget (st.set i (.ow (.list xs))) j ≠ .un := by
  have oi : (sget st i).owned := by rw [hs]; exact True.intro
  have hl : i < st.length := sget_lt fun e => by rw [e] at oi; exact oi
  have gs : ∀ j, sget (st.set i (.ow (.list xs))) j = if i = j then .ow (.list xs) else sget st j := fun j => by
    rw [sget_set]
    by_cases e : i = j
    · rw [if_pos ⟨e, hl⟩, if_pos e]
    · rw [if_neg fun z => e z.1, if_neg e]
  have own : ∀ j, (sget (st.set i (.ow (.list xs))) j).owned → (sget st j).owned := fun j h => by
    rw [gs] at h
    by_cases e : i = j
    · rw [← e]; exact oi
    · rw [if_neg e] at h; exact h
  refine ⟨⟨by rw [List.length_set]; exact rl.len, fun j => ?_, fun j l a h1 h2 => rl.inj j l a (own j h1) (own l h2)⟩, own, fun j h => ?_, fun j h => ?_⟩
  · rw [gs]
    by_cases e : i = j
    · subst e
      rw [if_pos rfl]
      have ok := rl.ok i
      rw [hs] at ok
      obtain ⟨a, e1, o, n⟩ := ok
      cases o with
      | lst h r => exact ⟨a, e1, .lst h r, n⟩
    · rw [if_neg e]; exact rl.ok j
  · rw [gs] at h
    by_cases e : i = j
    · exact .inl e
    · rw [if_neg e] at h; exact .inr h
  · rw [gs]
    by_cases e : i = j
    · rw [if_pos e]; exact nofun
    · rw [if_neg e]; exact h
theorem Aft.unlock {l : Option Nat} (A : Aft F1 w H1 σ st0 F H st) (h : ∀ i, l = some i → (sget st0 i).open) : Aft F1 w H1 σ st0 F H (Nv.unlock st l) := by
  by_cases q : ∃ i xs, l = some i ∧ sget st i = .lk (.list xs)
  · obtain ⟨i, xs, rfl, hs⟩ := q
    rw [unlock_some hs]
    obtain ⟨g1, g2, g3, g4⟩ := A.rl.unlock hs
    exact ⟨A.stp, g1, A.fo, fun j z => (g3 j z).elim (fun e => e ▸ h i rfl) (A.opn j), fun j z => A.own j (g2 j z), fun j z => g4 j (A.un j z)⟩
  · rw [unlock_eq fun i xs e z => q ⟨i, xs, e, z⟩]
    exact A
/-- an object that no slot holds is changed -/
theorem Aft.beside {D : Addr} {o : HO} (A : Aft F1 w H1 σ st0 F H st) (hn : H1 D = none) (nF : ¬ F D) (nW : ¬ Wo σ st D) : Aft F1 w H1 σ st0 F (upd H D o) st := by
  have k : Keep F H F (upd H D o) := keep_upd A.fo nF
  refine ⟨⟨A.stp.sub, A.stp.new, fun a h1 h2 => ?_, fun a h1 => ?_⟩, A.rl.stay k fun a h => ⟨upd_ne fun e => nW (e ▸ h), (A.rl.wo h).2⟩, fok_new A.fo, A.opn, A.own, A.un⟩
  · rw [upd_ne fun (e : a = D) => h1 (by rw [e]; exact hn)]; exact A.stp.kp a h1 h2
  · rw [upd_ne fun (e : a = D) => h1 (by rw [e]; exact hn)]; exact A.stp.th a h1
/-- .. it stands -/
theorem Aft.still {D : Addr} {o : HO} (A : Aft F1 w H1 σ st0 F H st) (rl : Rl F1 w H1 σ st0) (hD : H1 D = some o) (nF : ¬ F1 D) (nW : ¬ Wo σ st0 D) : H D = some o ∧ ¬ F D ∧ ¬ Wo σ st D := by
  refine ⟨(A.stp.kp D (by rw [hD]; exact nofun) fun z => nW z.wo).trans hD, fun z => ?_, fun z => nW (A.wo D z)⟩
  rcases A.stp.new D z with y | y | y
  · exact nF y
  · rw [hD] at y; cases y
  · exact nW y
theorem Stp.aft (fo : Fok F H) (rl : Rl F w H σ st) (s : Stp F H (fun _ => False) (fun _ => False) F1 H1) (fo1 : Fok F1 H1) : Aft F w H σ st F1 H1 st :=
  ⟨s.mono (fun _ h => h.elim) (fun _ h => h.elim), rl.stp fo s fun a h => h.elim False.elim False.elim, fo1, fun _ h => h, fun _ h => h, fun _ h => h⟩
end
section
variable {X : Cx} {w : World} {elt tg iter : Expr} {ifs : List Expr} {scope : Scope} {pos : Pos} {t : T}
variable {gi : Sg → Option (List D × Option Nat × Sg)} {gc : Sg → Option (Bool × Sg)} {fe : Sg → Option (R × Sg)}
def keepF (fe : Sg → Option (R × Sg)) : Sg → Option (D × Sg) := fun s => (fe s).bind fun u => fz u.2 u.1
def f_lc (t : T) (gi : Sg → Option (List D × Option Nat × Sg)) (gc : Sg → Option (Bool × Sg)) (fe : Sg → Option (R × Sg)) : Sg → Option (R × Sg) := fun st => (gi st).bind fun p =>
  (lcL (bindT t) gc (keepF fe) t.own p.1 p.2.2 []).map fun q => (.tm (.list q.1), unlock (back p.2.2 q.2 t.own) p.2.1)
/-- between the turns -/
structure LcI (w : World) (t : T) (gc : Sg → Option (Bool × Sg)) (fe : Sg → Option (R × Sg)) (F1 : Addr → Prop) (H1 : Hp) (σ : St) (st0 : Sg) (D : Addr) (xs : List PyData) (res : List PyData × Sg) (i : Nat) (F : Addr → Prop) (H : Hp) (st : Sg) (acc : List PyData) (vals : List V) : Prop where
  le : i ≤ xs.length
  aft : Aft F1 w H1 (L2.wipe σ t.own) (wipes st0 t.own) F H (wipes st t.own)
  at_ : H D = some (.lst vals)
  nF : ¬ F D
  nW : ¬ Wo (L2.wipe σ t.own) (wipes st t.own) D
  rp : RpA F w H vals acc
  run : lcL (bindT t) gc (keepF fe) t.own (xs.drop i) st acc = some res
theorem lcL_cons {bnd : PyData → Sg → Option Sg} {cond : Sg → Option (Bool × Sg)} {elt : Sg → Option (PyData × Sg)} {vs : List Nat} {d : PyData} {r : List PyData} {st : Sg} {acc : List PyData} {res : List PyData × Sg} (h : lcL bnd cond elt vs (d :: r) st acc = some res) :
    ∃ st1 b st2, bnd d (wipes st vs) = some st1 ∧ cond st1 = some (b, st2) ∧ ((b = false ∧ lcL bnd cond elt vs r st2 acc = some res) ∨ (b = true ∧ ∃ x st3, elt st2 = some (x, st3) ∧ acc.length < lim ∧ lcL bnd cond elt vs r st3 (acc ++ [x]) = some res)) := by
  unfold lcL at h
  obtain ⟨st1, h1, h⟩ := bnd1 h
  obtain ⟨⟨b, st2⟩, h2, h⟩ := bnd1 h
  refine ⟨st1, b, st2, h1, h2, ?_⟩
  cases b with
  | false => exact .inl ⟨rfl, h⟩
  | true =>
    have h : ((elt st2).bind fun (x, st3) => if acc.length < lim then lcL bnd cond elt vs r st3 (acc ++ [x]) else none) = some res := h
    obtain ⟨⟨x, st3⟩, h3, h⟩ := bnd1 h
    have h : (if acc.length < lim then lcL bnd cond elt vs r st3 (acc ++ [x]) else none) = some res := h
    split at h
    · rename_i hl
      exact .inr ⟨rfl, x, st3, h3, hl, h⟩
    · cases h
theorem i_lc {K : PySem.W.Frag} {σ : St} {H0 : Hp} {Q : VK} (h : tS w (f_lc t gi gc fe) σ H0 Q) : tLc (tI w gi) (gT K t) (tB' w gc) (tK w fe) t.own σ H0 Q := by
  obtain ⟨F0, stS, r, st', fo0, rl0, hf, q⟩ := h
  obtain ⟨⟨xs, l, st0⟩, h1, hf⟩ := bnd1 hf
  obtain ⟨res, h2, hf⟩ := map1 hf
  cases hf
  refine ⟨F0, stS, xs, l, st0, fo0, rl0, h1, fun J A0 F1 H1 A1 hA0 wk hl D hD => ?_⟩
  have rlb := A1.rl.wipe t.own
  have nD : ∀ {st : Sg}, (∀ j, (sget st j).owned → (sget (wipes st0 t.own) j).owned) → ¬ Wo (L2.wipe σ t.own) st D := fun {st} hh ⟨j, z1, z2⟩ => (rlb.wo ⟨j, hh j z1, z2⟩).1 hD
  have start : Aft F1 w H1 (L2.wipe σ t.own) (wipes st0 t.own) F1 (upd H1 D (.lst [])) (wipes st0 t.own) := (Aft.refl A1.fo rlb).beside hD (fun z => A1.fo D z hD) (nD fun _ z => z)
  refine ⟨fun i m H => m = xs.length - i ∧ ∃ F st acc vals, LcI w t gc fe F1 H1 σ st0 D xs res i F H st acc vals, ⟨xs.length, by simp, F1, st0, [], [], Nat.zero_le _, start, upd_same, fun z => A1.fo D z hD, nD fun _ z => z, .nil, by rw [List.drop_zero]; exact h2⟩, ?_⟩
  rintro i m H ⟨rfl, F, st, acc, vals, Z⟩
  -- what the walk sees
  have kF : Keep F1 H1 F H := Z.aft.keep A1.fo rlb
  have same0 : ∀ a, A0 a → H a = H1 a := fun a ha => Z.aft.stp.kp a (hA0 a ha).1 fun ⟨j, z1, z2⟩ => (hA0 a ha).2 (by
    have q : j ∉ t.own := fun z => by rw [wipes_get, if_pos z] at z1; exact z1
    rw [wipes_get, if_neg q] at z1
    rw [wipe_get, if_neg q] at z2
    exact ⟨j, z1, z2⟩)
  by_cases hlt : i < xs.length
  · refine .inr ?_
    have hd : xs[i]? = some xs[i] := List.getElem?_eq_getElem hlt
    obtain ⟨go, yld⟩ := wk.go i F H kF same0 Z.aft.fo _ hd
    refine ⟨go, fun H' => ∃ F st acc vals, LcI w t gc fe F1 H1 σ st0 D xs res (i + 1) F H' st acc vals, fun H' z => ⟨_, by omega, rfl, z⟩, fun x H2 y => ?_⟩
    obtain ⟨F2, s2, fo2, rx⟩ := yld x H2 y
    have A2 := s2.aft Z.aft.fo Z.aft.rl fo2
    obtain ⟨d2, nF2, nW2⟩ := A2.still Z.aft.rl Z.at_ Z.nF Z.nW
    have run := Z.run
    rw [List.drop_eq_getElem_cons hlt] at run
    obtain ⟨st1, b, st2, e1, e2, e3⟩ := lcL_cons run
    refine g_bind A2.rl rx e1 fun σ2 B => ⟨?_, ?_⟩
    · rw [← wipe_wipe σ t.own]; exact wipe_eq B.len B.eq
    have nW2' : ¬ Wo σ2 st1 D := fun ⟨j, z1, z2⟩ => nW2 ⟨j, (B.own j z1).1, by rw [← (B.own j z1).2]; exact z2⟩
    refine ⟨F2, st1, b, st2, fo2, B.rl, e2, fun F3 H3 A3 => ?_⟩
    obtain ⟨d3, nF3, nW3⟩ := A3.still B.rl d2 nF2 nW2'
    have v3 : RpA F3 w H3 vals acc := (Z.rp.stay (A2.keep Z.aft.fo Z.aft.rl)).stay (A3.keep fo2 B.rl)
    rcases e3 with ⟨rfl, e3⟩ | ⟨rfl, x', st3, e3, hacc, e4⟩
    · refine iteF ⟨F3, st2, acc, vals, hlt, Z.aft.trans (A2.trans (B.aft (fun _ z => z) A3)), d3, nF3, fun ⟨j, z1, z2⟩ => ?_, v3, e3⟩
      exact nD (Z.aft.trans (A2.trans (B.aft (fun _ z => z) A3))).own ⟨j, z1, z2⟩
    · refine iteT ⟨F3, st2, x', st3, A3.fo, A3.rl, e3, fun y F4 H4 A4 ry => ?_⟩
      obtain ⟨d4, nF4, nW4⟩ := A4.still A3.rl d3 nF3 nW3
      have v4 : RpA F4 w H4 vals acc := v3.stay (A4.keep A3.fo A3.rl)
      refine ⟨vals, d4, by rw [v4.length, sizeLine_eq]; exact hacc, F4, st3, acc ++ [x'], vals ++ [y], hlt, ?_, upd_same, nF4, ?_, ?_, e4⟩
      · have A5 := Z.aft.trans (A2.trans (B.aft (fun _ z => z) (A3.trans A4)))
        exact A5.beside hD nF4 (nD A5.own)
      · exact nD (Z.aft.trans (A2.trans (B.aft (fun _ z => z) (A3.trans A4)))).own
      · exact (v4.app (.cons ry .nil)).stay (keep_upd A4.fo nF4)
  · have e : i = xs.length := Nat.le_antisymm Z.le (Nat.le_of_not_lt hlt)
    subst e
    refine .inl ⟨wk.stop _ H (fun a ha => ha.elim (kF.eq a) (same0 a)) (Nat.le_refl _), ?_⟩
    have run := Z.run
    rw [List.drop_length] at run
    cases run
    have hlen : st.length = st0.length := by
      have h1 := Z.aft.rl.len
      have h2 := rlb.len
      rw [wipes_len] at h1 h2
      omega
    have A2 : Aft F1 w H1 σ st0 F H (Nv.back st0 st t.own) := Aft.back A1.fo A1.rl Z.aft hlen
    have A3 := (A1.trans A2).unlock hl
    have n0 : ∀ {z : Option HO}, H0 D = z → z = none := fun {z} e => by
      cases z with
      | none => rfl
      | some o => exact absurd hD (A1.stp.th D (by rw [e]; exact nofun))
    refine q (.ref D) F H A3 ⟨D, rfl, .lst Z.at_ Z.rp, Z.nF, fun z => (rl0.wo (A3.wo D z)).1 (n0 rfl)⟩ fun x ex => ?_
    cases ex
    exact n0 rfl
theorem r_lc {own : List (Str × Nat)} (hc : X.calm = true) (hN : X.N.Nodup) (hi : PI X tg iter (tI w gi)) (ok : BlkOk X.N X.env.scope scope own) (ho : own.map (·.2) = t.own)
    (hg : ∀ (s : Shared) (H : Hp) (C : Addr) (cl : List (Str × Addr)) (fp : List Addr), PG (X.blk s H scope (compEnvC scope cl C X.env) fp) tg (gT X.K t)) (ht : ∀ (s : Shared) (H : Hp) (C : Addr) (cl : List (Str × Addr)) (fp : List Addr), PTs (X.blk s H scope (compEnvC scope cl C X.env) fp) ifs (tB' w gc))
    (he : ∀ (s : Shared) (H : Hp) (C : Addr) (cl : List (Str × Addr)) (fp : List Addr), PE (X.blk s H scope (compEnvC scope cl C X.env) fp) elt (tS w fe)) (hs : ∀ x, foldedSetIterable iter X.env x = pure x) :
    PE X (.ListComp elt [⟨tg, iter, ifs, 0⟩] scope pos) (tS w (f_lc t gi gc fe)) :=
  (pe_lc hc hN hi ok hg ht (fun s H C cl fp => r_keep (he s H C cl fp)) hs).imp fun σ H0 Q h => by
    rw [ho]
    exact i_lc h
end
end Nv
end
section
set_option Elab.async false
set_option linter.all false
set_option maxRecDepth 100000
set_option maxHeartbeats 4000000
namespace Nv
open PySem PySem.Spec PyProof.Rows L2

/-- behind a statement; ks: the slots that are never stored to -/
structure AftS (ks : List Nat) (F : Addr → Prop) (w : World) (H : Hp) (σ : St) (st : Sg) (F' : Addr → Prop) (H' : Hp) (σ' : St) (st' : Sg) : Prop where
  stp : Stp F H (Wr σ st) (Wo σ st) F' H'
  rl : Rl F' w H' σ' st'
  fo : Fok F' H'
  own : ∀ i a, (sget st' i).owned → σ'[i]? = some (some (.ref a)) → ((sget st i).owned ∧ σ[i]? = some (some (.ref a))) ∨ H a = none
  opn : ∀ i a, (sget st' i).open → σ'[i]? = some (some (.ref a)) → ((sget st i).open ∧ σ[i]? = some (some (.ref a))) ∨ H a = none
  ks : ∀ i ∈ ks, σ'[i]? = σ[i]?
section
variable {ks : List Nat} {F F' F1 F2 : Addr → Prop} {w : World} {H H' H1 H2 : Hp} {σ σ' σ1 σ2 : St} {st st' st1 st2 : Sg}
theorem Aft.s (A : Aft F w H σ st F' H' st') : AftS ks F w H σ st F' H' σ st' :=
  ⟨A.stp, A.rl, A.fo, fun i a h e => .inl ⟨A.own i h, e⟩, fun i a h e => .inl ⟨A.opn i h, e⟩, fun _ _ => rfl⟩
theorem AftS.wo (A : AftS ks F w H σ st F' H' σ' st') {a : Addr} (h : Wo σ' st' a) : Wo σ st a ∨ H a = none := by
  obtain ⟨i, h1, h2⟩ := h
  exact (A.own i a h1 h2).imp (fun z => ⟨i, z.1, z.2⟩) id
theorem AftS.wr (A : AftS ks F w H σ st F' H' σ' st') {a : Addr} (h : Wr σ' st' a) : Wr σ st a ∨ H a = none := by
  obtain ⟨i, h1, h2⟩ := h
  exact (A.opn i a h1 h2).imp (fun z => ⟨i, z.1, z.2⟩) id
theorem none_back {a : Addr} {W O : Addr → Prop} (s : Stp F H W O F1 H1) (h : H1 a = none) : H a = none := by
  cases q : H a with
  | none => rfl
  | some o => exact absurd h (s.th a (by rw [q]; exact nofun))
theorem AftS.trans (a : AftS ks F w H σ st F1 H1 σ1 st1) (b : AftS ks F1 w H1 σ1 st1 F2 H2 σ2 st2) : AftS ks F w H σ st F2 H2 σ2 st2 := by
  refine ⟨a.stp.trans b.stp (fun x h => a.wr h) fun x h => a.wo h, b.rl, b.fo, fun i x h e => ?_, fun i x h e => ?_, fun i h => (b.ks i h).trans (a.ks i h)⟩
  · rcases b.own i x h e with ⟨h1, h2⟩ | h1
    · exact a.own i x h1 h2
    · exact .inr (none_back a.stp h1)
  · rcases b.opn i x h e with ⟨h1, h2⟩ | h1
    · exact a.opn i x h1 h2
    · exact .inr (none_back a.stp h1)
theorem AftS.refl (fo : Fok F H) (rl : Rl F w H σ st) : AftS ks F w H σ st F H σ st := (Aft.refl fo rl).s
theorem Bnd.s {is : List Nat} (b : Bnd F w H σ st is σ' st') (fo : Fok F H) (h : ∀ i ∈ is, i ∉ ks) : AftS ks F w H σ st F H σ' st' :=
  ⟨.refl, b.rl, fo, fun i a h e => .inl ⟨(b.own i h).1, by rw [← (b.own i h).2]; exact e⟩, fun i a h e => .inl ⟨b.opn i h, by rw [← (b.own i (open_owned h)).2]; exact e⟩, fun i hi => b.eq i fun z => h i z hi⟩
theorem AftS.unlock {l : Option Nat} (A : AftS ks F w H σ st F' H' σ' st') (h : ∀ i, l = some i → (sget st i).open) : AftS ks F w H σ st F' H' σ' (Nv.unlock st' l) := by
  by_cases q : ∃ i xs, l = some i ∧ sget st' i = .lk (.list xs)
  · obtain ⟨i, xs, rfl, hs⟩ := q
    rw [unlock_some hs]
    obtain ⟨g1, g2, g3, g4⟩ := A.rl.unlock hs
    refine ⟨A.stp, g1, A.fo, fun j a z e => A.own j a (g2 j z) e, fun j a z e => ?_, A.ks⟩
    rcases g3 j z with rfl | z
    · exact (A.own i a (g2 i (open_owned z)) e).imp (fun y => ⟨h i rfl, y.2⟩) id
    · exact A.opn j a z e
  · rw [unlock_eq fun i xs e z => q ⟨i, xs, e, z⟩]
    exact A
/-- what a return gives -/
def RetOk (F' : Addr → Prop) (w : World) (H H' : Hp) (σ : St) (st : Sg) (σ' : St) (st' : Sg) (v : V) : R → Prop
  | .im d => Rp F' w H' v d
  | .tm d => ∃ a, v = .ref a ∧ Own F' w H' a d ∧ ¬ F' a ∧ ¬ Wo σ' st' a ∧ (H a = none ∨ Wo σ st a)
  | .sl _ => False
def FlOk (ks : List Nat) (F : Addr → Prop) (w : World) (H : Hp) (σ : St) (st : Sg) (D : Ends) : Fl → Prop
  | .nx st' => ∀ σ' F' H', AftS ks F w H σ st F' H' σ' st' → D.nx σ' H'
  | .bk st' => ∀ σ' F' H', AftS ks F w H σ st F' H' σ' st' → D.bk σ' H'
  | .rt r st' => ∀ v σ' F' H', AftS ks F w H σ st F' H' σ' st' → RetOk F' w H H' σ st σ' st' v r → D.rt v H'
def tSS (ks : List Nat) (w : World) (f : Sg → Option Fl) : TS := fun D σ H => ∃ F st fl, Fok F H ∧ Rl F w H σ st ∧ f st = some fl ∧ FlOk ks F w H σ st D fl
theorem RetOk.back {v : V} {r : R} (A : AftS ks F w H σ st F1 H1 σ1 st1) (h : RetOk F' w H1 H' σ1 st1 σ' st' v r) : RetOk F' w H H' σ st σ' st' v r := by
  cases r with
  | im d => exact h
  | tm d =>
    obtain ⟨a, e, o, n, m, k⟩ := h
    refine ⟨a, e, o, n, m, ?_⟩
    rcases k with k | k
    · exact .inl (none_back A.stp k)
    · exact (A.wo k).symm
  | sl i => exact h
theorem FlOk.trans {D : Ends} {fl : Fl} (A : AftS ks F w H σ st F1 H1 σ1 st1) (h : FlOk ks F w H σ st D fl) : FlOk ks F1 w H1 σ1 st1 D fl := by
  cases fl with
  | nx st' => exact fun σ' F' H' B => h σ' F' H' (A.trans B)
  | bk st' => exact fun σ' F' H' B => h σ' F' H' (A.trans B)
  | rt r st' => exact fun v σ' F' H' B q => h v σ' F' H' (A.trans B) (q.back A)
def tmA : List V → List R → List Addr
  | .ref a :: vs, .tm _ :: rs => a :: tmA vs rs
  | _ :: vs, .tm _ :: rs => tmA vs rs
  | _ :: vs, .im _ :: rs => tmA vs rs
  | _ :: vs, .sl _ :: rs => tmA vs rs
  | _, _ => []
def noSl : R → Prop
  | .sl _ => False
  | _ => True
/-- the slots behind a store of what is kept or new -/
theorem sto_rl {i : Nat} {v : V} {r : R} (rl : Rl F w H σ st) (rr : RR F w H σ st v r) (n : noSl r) (h : sto st i r = some st') :
    Rl F w H (σ.set i (some v)) st' ∧ (∀ j a, (sget st' j).owned → (σ.set i (some v))[j]? = some (some (.ref a)) → ((sget st j).owned ∧ σ[j]? = some (some (.ref a))) ∨ ((∃ d, r = .tm d) ∧ v = .ref a)) ∧
      (∀ j a, (sget st' j).open → (σ.set i (some v))[j]? = some (some (.ref a)) → ((sget st j).open ∧ σ[j]? = some (some (.ref a))) ∨ ((∃ d, r = .tm d) ∧ v = .ref a)) := by
  cases r with
  | im d =>
    cases h
    have B := Bnd.nm (i := i) rl rr
    exact ⟨rl.setIm rr, fun j a h e => .inl ⟨(B.own j h).1, by rw [← (B.own j h).2]; exact e⟩, fun j a h e => .inl ⟨B.opn j h, by rw [← (B.own j (open_owned h)).2]; exact e⟩⟩
  | tm d =>
    cases h
    obtain ⟨b, rfl, o, nF, nW⟩ := rr
    by_cases hl : i < st.length
    case neg =>
      have e1 : σ.set i (some (.ref b)) = σ := List.set_eq_of_length_le (by rw [← rl.len]; omega)
      have e2 : st.set i (.ow d) = st := List.set_eq_of_length_le (by omega)
      rw [e1, e2]
      exact ⟨rl, fun j a h e => .inl ⟨h, e⟩, fun j a h e => .inl ⟨h, e⟩⟩
    have gs : ∀ j, sget (st.set i (.ow d)) j = if i = j then .ow d else sget st j := fun j => by
      rw [sget_set]
      by_cases e : i = j
      · rw [if_pos ⟨e, hl⟩, if_pos e]
      · rw [if_neg fun z => e z.1, if_neg e]
    have gσ : ∀ j, (σ.set i (some (.ref b)))[j]? = if i = j then some (some (.ref b)) else σ[j]? := fun j => by
      by_cases e : i = j
      · subst e; rw [if_pos rfl, List.getElem?_set_self (by rw [← rl.len]; exact hl)]
      · rw [if_neg e, List.getElem?_set_ne e]
    refine ⟨⟨by rw [List.length_set, List.length_set]; exact rl.len, fun j => ?_, fun j l a h1 h2 e1 e2 => ?_⟩, fun j a h e => ?_, fun j a h e => ?_⟩
    · rw [gs, gσ]
      by_cases e : i = j
      · rw [if_pos e, if_pos e]; exact ⟨b, rfl, o, nF⟩
      · rw [if_neg e, if_neg e]; exact rl.ok j
    · rw [gs] at h1 h2
      rw [gσ] at e1 e2
      by_cases ej : i = j
      · by_cases el : i = l
        · exact ej.symm.trans el
        · rw [if_pos ej] at e1; cases e1
          rw [if_neg el] at h2 e2
          exact absurd ⟨l, h2, e2⟩ nW
      · by_cases el : i = l
        · rw [if_pos el] at e2; cases e2
          rw [if_neg ej] at h1 e1
          exact absurd ⟨j, h1, e1⟩ nW
        · rw [if_neg ej] at h1 e1
          rw [if_neg el] at h2 e2
          exact rl.inj j l a h1 h2 e1 e2
    · rw [gs] at h
      rw [gσ] at e
      by_cases ej : i = j
      · rw [if_pos ej] at e; cases e; exact .inr ⟨⟨d, rfl⟩, rfl⟩
      · rw [if_neg ej] at h e; exact .inl ⟨h, e⟩
    · rw [gs] at h
      rw [gσ] at e
      by_cases ej : i = j
      · rw [if_pos ej] at e; cases e; exact .inr ⟨⟨d, rfl⟩, rfl⟩
      · rw [if_neg ej] at h e; exact .inl ⟨h, e⟩
  | sl j => exact n.elim
theorem AftS.sto {i : Nat} {v : V} {r : R} (A : AftS ks F w H σ st F1 H1 σ1 st1) (rr : RR F1 w H1 σ1 st1 v r) (nw : Nw H v r) (n : noSl r) (hi : i ∉ ks) (h : sto st1 i r = some st2) : AftS ks F w H σ st F1 H1 (σ1.set i (some v)) st2 := by
  obtain ⟨g1, g2, g3⟩ := sto_rl A.rl rr n h
  have fresh : ∀ a, ((∃ d, r = .tm d) ∧ v = .ref a) → H a = none := fun a ⟨⟨d, e⟩, e2⟩ => by subst e; exact nw a e2
  refine ⟨A.stp, g1, A.fo, fun j a z e => ?_, fun j a z e => ?_, fun j hj => ?_⟩
  · exact (g2 j a z e).elim (fun y => A.own j a y.1 y.2) fun y => .inr (fresh a y)
  · exact (g3 j a z e).elim (fun y => A.opn j a y.1 y.2) fun y => .inr (fresh a y)
  · rw [List.getElem?_set_ne fun (e : i = j) => hi (by rw [e]; exact hj)]; exact A.ks j hj
def setAll : List Nat → List V → St → St
  | i :: is, v :: vs, σ => setAll is vs (σ.set i (some v))
  | _, _, σ => σ
/-- several stores in a row -/
theorem AftS.stos : ∀ {is : List Nat} {vs : List V} {rs : List R} {σ1 : St} {st1 : Sg}, AftS ks F w H σ st F1 H1 σ1 st1 → RRs F1 w H1 σ1 st1 vs rs → (∀ r ∈ rs, noSl r) → (tmA vs rs).Nodup → (∀ a ∈ tmA vs rs, H a = none) → (∀ i ∈ is, i ∉ ks) → Nv.stos is rs st1 = some st2 →
    AftS ks F w H σ st F1 H1 (setAll is vs σ1) st2
  | [], _, _, σ1, st1, A, .nil, _, _, _, _, h => by cases h; exact A
  | [], _, _, σ1, st1, A, .cons _ _, _, _, _, _, h => by cases h
  | i :: is, _, _, σ1, st1, A, .nil, _, _, _, _, h => by cases h
  | i :: is, _, _, σ1, st1, A, .cons (v := v) (r := r) (vs := vs) (rs := rs) rr t, ns, nd, fr, hk, h => by
    obtain ⟨st3, h1, h2⟩ := bnd1 (show (Nv.sto st1 i r).bind (fun st' => Nv.stos is rs st') = some st2 from h)
    have nr := ns r (List.mem_cons_self ..)
    have nw : Nw H v r := by
      cases r with
      | im d => trivial
      | tm d => intro a e; subst e; exact fr a (List.mem_cons_self ..)
      | sl j => trivial
    have A2 := A.sto rr nw nr (hk i (List.mem_cons_self ..)) h1
    obtain ⟨g1, g2, g3⟩ := sto_rl A.rl rr nr h1
    have sub : (tmA vs rs).Nodup ∧ (∀ a ∈ tmA vs rs, H a = none) ∧ ∀ a, ((∃ d, r = .tm d) ∧ v = .ref a) → a ∉ tmA vs rs := by
      cases r with
      | im d =>
        refine ⟨by cases v <;> exact nd, fun a z => fr a (by cases v <;> exact z), fun a ⟨⟨d, e⟩, _⟩ => by cases e⟩
      | tm d =>
        obtain ⟨b, rfl, _⟩ := id rr
        have nd' : (b :: tmA vs rs).Nodup := nd
        exact ⟨(List.nodup_cons.mp nd').2, fun a z => fr a (List.mem_cons_of_mem _ z), fun a ⟨_, e⟩ => by cases e; exact (List.nodup_cons.mp nd').1⟩
      | sl j => exact nr.elim
    refine AftS.stos (is := is) A2 ?_ (fun x z => ns x (List.mem_cons_of_mem _ z)) sub.1 sub.2.1 (fun x z => hk x (List.mem_cons_of_mem _ z)) h2
    clear A2 h2 nd fr h
    have ns' : ∀ r ∈ rs, noSl r := fun x z => ns x (List.mem_cons_of_mem _ z)
    have out := sub.2.2
    clear sub ns
    induction t with
    | nil => exact .nil
    | cons r1 t ih =>
      rename_i v' r' vs' rs'
      have mem : ∀ a, a ∈ tmA vs' rs' → a ∈ tmA (v' :: vs') (r' :: rs') := fun a z => by
        cases r' with
        | im d => cases v' <;> exact z
        | tm d => cases v' <;> first | exact List.mem_cons_of_mem _ z | exact z
        | sl j => cases v' <;> exact z
      refine .cons ?_ (ih (fun x z => ns' x (List.mem_cons_of_mem _ z)) fun a y z => out a y (mem a z))
      · cases r' with
        | im d => exact r1
        | tm d =>
          obtain ⟨b, rfl, o, nF, nW⟩ := r1
          refine ⟨b, rfl, o, nF, fun ⟨j, z1, z2⟩ => ?_⟩
          rcases g2 j b z1 z2 with ⟨y1, y2⟩ | y
          · exact nW ⟨j, y1, y2⟩
          · exact out b y (List.mem_cons_self ..)
        | sl j => exact (ns' _ (List.mem_cons_self ..)).elim
end
section
variable {X : Cx} {w : World} {a : Expr} {es : List Expr} {fa : Sg → Option (R × Sg)} {fp : Sg → Option (List R × Sg)}
def holdF (fa : Sg → Option (R × Sg)) : Sg → Option (R × Sg) := fun st => (fa st).bind fun p => holdR p.2 p.1
theorem hold_noSl {st st' : Sg} {r r' : R} (h : holdR st r = some (r', st')) : noSl r' := by
  cases r with
  | im d => cases h; trivial
  | tm d => cases h; trivial
  | sl i => obtain ⟨p, h1, h2⟩ := map1 h; cases h2; trivial
theorem r_hold (ha : PE X a (tS w fa)) : PE X a (tS w (holdF fa)) := by
  refine ⟨fun pins s σ H Q I h => ?_⟩
  obtain ⟨F, st, r, st', fo, rl, hf, q⟩ := h
  obtain ⟨p, h1, hf⟩ := bnd1 hf
  refine thn (ha.run pins s σ H (fun v H1 => ∃ F1, Aft F w H σ st F1 H1 p.2 ∧ RR F1 w H1 σ p.2 v p.1 ∧ Nw H v p.1) I ⟨F, st, p.1, p.2, fo, rl, h1, fun v F1 H1 A R N => ⟨F1, A, R, N⟩⟩) fun u s1 ⟨v, H1, I1, r1, F1, A1, R1, N1⟩ => ?_
  cases hp : p.1 with
  | im d => rw [hp] at hf R1 N1; cases hf; exact ⟨v, H1, I1, r1, q v F1 H1 A1 R1 N1⟩
  | tm d => rw [hp] at hf R1 N1; cases hf; exact ⟨v, H1, I1, r1, q v F1 H1 A1 R1 N1⟩
  | sl i =>
    rw [hp] at hf R1 N1
    obtain ⟨x, h2, h3⟩ := map1 hf
    cases h3
    obtain ⟨F2, H2, I2, A2, rp⟩ := fz_aft fo rl A1 I1 R1 (fun x ⟨d, e⟩ ev => by cases e) h2
    exact ⟨v, H2, I2, r1, q v F2 H2 A2 rp trivial⟩
def tP (w : World) (f : Sg → Option (List R × Sg)) : TA := fun σ H Q => ∃ F st rs st', Fok F H ∧ Rl F w H σ st ∧ f st = some (rs, st') ∧
  ∀ vs F' H', Aft F w H σ st F' H' st' → RRs F' w H' σ st' vs rs → (∀ r ∈ rs, noSl r) → (tmA vs rs).Nodup → (∀ a ∈ tmA vs rs, H a = none) → Q vs H'
theorem a_nilP : PA X [] (tP w fun st => some ([], st)) := pa_nil.imp fun σ H Q h => by
  obtain ⟨F, st, rs, st', fo, rl, hf, q⟩ := h
  cases hf
  exact q [] F H (.refl fo rl) .nil (fun _ z => absurd z (by simp)) List.nodup_nil (fun _ z => absurd z (by simp [tmA]))
theorem a_consP (ha : PE X a (tS w fa)) (hr : PA X es (tP w fp)) (hs : starEach (a :: es) X.env = (false, eval a X.env) :: starEach es X.env) : PA X (a :: es) (tP w fun st => (fa st).bind fun p => (holdR p.2 p.1).bind fun u => (fp u.2).map fun q => (u.1 :: q.1, q.2)) :=
  (pa_cons (r_hold ha) hr hs).imp fun σ H Q h => by
    obtain ⟨F, st, rs, st', fo, rl, hf, q⟩ := h
    obtain ⟨p, h1, hf⟩ := bnd1 hf
    obtain ⟨u, h2, hf⟩ := bnd1 hf
    obtain ⟨p2, h3, hf⟩ := map1 hf
    cases hf
    have hn := hold_noSl h2
    refine ⟨F, st, u.1, u.2, fo, rl, by show (fa st).bind _ = _; rw [h1]; exact h2, fun v1 F1 H1 A1 R1 N1 => ⟨F1, u.2, p2.1, p2.2, A1.fo, A1.rl, h3, fun vs F2 H2 A2 R2 n2 d2 f2 => q (v1 :: vs) F2 H2 (A1.trans A2) (.cons (R1.stay A1.fo A1.rl A2) R2) (fun r z => ?_) ?_ fun a z => ?_⟩⟩
    · rcases List.mem_cons.mp z with rfl | z
      · exact hn
      · exact n2 r z
    · cases hu : u.1 with
      | im d => cases v1 <;> exact d2
      | tm d =>
        rw [hu] at R1
        obtain ⟨b, rfl, o, _⟩ := R1
        exact List.nodup_cons.mpr ⟨fun z => o.there (f2 b z), d2⟩
      | sl i => rw [hu] at hn; exact hn.elim
    · have k : ∀ a, a ∈ tmA vs p2.1 → H a = none := fun a z => none_back A1.stp (f2 a z)
      cases hu : u.1 with
      | im d => rw [hu] at z; exact k a (by cases v1 <;> exact z)
      | tm d =>
        rw [hu] at z R1 N1
        obtain ⟨b, rfl, o, _⟩ := R1
        have z : a ∈ b :: tmA vs p2.1 := z
        rcases List.mem_cons.mp z with rfl | z
        · exact N1 a rfl
        · exact k a z
      | sl i => rw [hu] at hn; exact hn.elim
end
end Nv
end
section
set_option Elab.async false
set_option linter.all false
set_option maxRecDepth 100000
set_option maxHeartbeats 4000000
namespace Nv
open PySem PySem.Spec PyProof.Rows L2

section
variable {X : Cx} {w : World} {ks : List Nat} {e e2 : Expr} {es : List Expr} {pos px : Pos}
variable {fe fk : Sg → Option (R × Sg)} {fp : Sg → Option (List R × Sg)} {fc : Sg → Option (Bool × Sg)} {gi : Sg → Option (List D × Option Nat × Sg)}
variable {f g : Sg → Option Fl} {st1 : Stmt} {rest body : List Stmt}
theorem _root_.L2.PS.imp {s : Stmt} {t t' : TS} (h : PS X s t) (f : ∀ D σ H, t' D σ H → t D σ H) : PS X s t' := ⟨fun pins s σ H D I q => h.run pins s σ H D I (f D σ H q)⟩
theorem _root_.L2.PSs.imp {s : List Stmt} {t t' : TS} (h : PSs X s t) (f : ∀ D σ H, t' D σ H → t D σ H) : PSs X s t' := ⟨fun pins s σ H D I q => h.run pins s σ H D I (f D σ H q)⟩
theorem ss_nil : PSs X [] (tSS ks w fun st => some (.nx st)) := pss_nil.imp fun D σ H h => by
  obtain ⟨F, st, fl, fo, rl, hf, q⟩ := h
  cases hf
  exact q σ F H (.refl fo rl)
theorem ss_one (h : PS X st1 (tSS ks w f)) : PSs X [st1] (tSS ks w f) := pss_one h
def f_seq (f g : Sg → Option Fl) : Sg → Option Fl := fun st => (f st).bind fun
  | .nx st1 => g st1
  | f => some f
theorem ss_cons (h1 : PS X st1 (tSS ks w f)) (h2 : PSs X rest (tSS ks w g)) : PSs X (st1 :: rest) (tSS ks w (f_seq f g)) := (pss_cons h1 h2).imp fun D σ H h => by
  obtain ⟨F, st, fl, fo, rl, hf, q⟩ := h
  obtain ⟨fl1, h1, hf⟩ := bnd1 hf
  refine ⟨F, st, fl1, fo, rl, h1, ?_⟩
  cases fl1 with
  | nx st1 => exact fun σ' F' H' A => ⟨F', st1, fl, A.fo, A.rl, hf, q.trans A⟩
  | bk st1 => cases hf; exact q
  | rt r st1 => cases hf; exact q
theorem s_pass : PS X (.Pass pos) (tSS ks w fun st => some (.nx st)) := ps_pass.imp fun D σ H h => by
  obtain ⟨F, st, fl, fo, rl, hf, q⟩ := h
  cases hf
  exact q σ F H (.refl fo rl)
theorem s_doc {x : Str} {j : Nat} {pos' : Pos} : PS X (.Expr (.Constant (.str x) j pos) pos') (tSS ks w fun st => some (.nx st)) := ps_doc.imp fun D σ H h => by
  obtain ⟨F, st, fl, fo, rl, hf, q⟩ := h
  cases hf
  exact q σ F H (.refl fo rl)
theorem s_brk : PS X (.Break pos) (tSS ks w fun st => some (.bk st)) := ps_break.imp fun D σ H h => by
  obtain ⟨F, st, fl, fo, rl, hf, q⟩ := h
  cases hf
  exact q σ F H (.refl fo rl)
theorem s_exp (he : PE X e (tS w fe)) (hs : swapsWith e none pos.line X.env = pure false) : PS X (.Expr e pos) (tSS ks w fun st => (fe st).map fun p => .nx p.2) := (ps_expr he hs).imp fun D σ H h => by
  obtain ⟨F, st, fl, fo, rl, hf, q⟩ := h
  obtain ⟨p, h1, hf⟩ := map1 hf
  cases hf
  exact ⟨F, st, p.1, p.2, fo, rl, h1, fun v F1 H1 A1 R1 N1 => q σ F1 H1 A1.s⟩
theorem s_ret (he : PE X e (tS w fe)) : PS X (.Return (some e) pos) (tSS ks w fun st => (fe st).bind fun p => leave p.2 p.1) := (ps_ret he).imp fun D σ H h => by
  obtain ⟨F, st, fl, fo, rl, hf, q⟩ := h
  obtain ⟨p, h1, hf⟩ := bnd1 hf
  refine ⟨F, st, p.1, p.2, fo, rl, h1, fun v F1 H1 A1 R1 N1 => ?_⟩
  have done : ∀ {i : Nat} {d : PyData} {a : Addr}, (sget p.2 i).owned → σ[i]? = some (some (.ref a)) → Own F1 w H1 a d → ¬ F1 a → fl = .rt (.tm d) (p.2.set i .un) → v = .ref a → D.rt v H1 := fun {i d a} oi ei o n e1 e2 => by
    subst e1 e2
    have hl : i < p.2.length := sget_lt fun e => by rw [e] at oi; exact oi
    have gs : ∀ j, sget (p.2.set i .un) j = if i = j then .un else sget p.2 j := fun j => by
      rw [sget_set]
      by_cases e : i = j
      · rw [if_pos ⟨e, hl⟩, if_pos e]
      · rw [if_neg fun z => e z.1, if_neg e]
    have own : ∀ j, (sget (p.2.set i .un) j).owned → i ≠ j ∧ (sget p.2 j).owned := fun j z => by
      rw [gs] at z
      by_cases e : i = j
      · rw [if_pos e] at z; exact z.elim
      · rw [if_neg e] at z; exact ⟨e, z⟩
    refine q (.ref a) σ F1 H1 ⟨A1.stp, ⟨by rw [List.length_set]; exact A1.rl.len, fun j => ?_, fun j l x h1 h2 => A1.rl.inj j l x (own j h1).2 (own l h2).2⟩, A1.fo, fun j x z ex => .inl ⟨A1.own j (own j z).2, ex⟩, fun j x z ex => .inl ⟨A1.opn j ?_, ex⟩, fun _ _ => rfl⟩ ⟨a, rfl, o, n, fun ⟨j, z1, z2⟩ => ?_, ?_⟩
    · rw [gs]
      by_cases e : i = j
      · rw [if_pos e]; exact True.intro
      · rw [if_neg e]; exact A1.rl.ok j
    · rw [gs] at z
      by_cases e : i = j
      · rw [if_pos e] at z; exact z.elim
      · rw [if_neg e] at z; exact z
    · exact (own j z1).1 (A1.rl.inj i j a oi (own j z1).2 ei z2)
    · exact .inr ⟨i, A1.own i oi, ei⟩
  cases hp : p.1 with
  | im d =>
    rw [hp] at hf R1
    cases hf
    exact q v σ F1 H1 A1.s R1
  | tm d =>
    rw [hp] at hf R1 N1
    cases hf
    obtain ⟨a, rfl, o, n, m⟩ := R1
    exact q _ σ F1 H1 A1.s ⟨a, rfl, o, n, m, .inl (N1 a rfl)⟩
  | sl i =>
    rw [hp] at hf R1
    obtain ⟨ei, hn⟩ := R1
    have hf : (match sget p.2 i with | .un => none | .im d => some (.rt (.im d) p.2) | .ow d => some (.rt (.tm d) (p.2.set i .un)) | .lk (.list xs) => some (.rt (.tm (.list xs)) (p.2.set i .un)) | .lk _ => none) = some fl := hf
    have ok := A1.rl.ok i
    cases hx : sget p.2 i with
    | un => exact absurd hx hn
    | im d =>
      rw [hx] at hf ok
      cases hf
      obtain ⟨v', e', rp⟩ := ok
      rw [ei] at e'; cases e'
      exact q v σ F1 H1 A1.s rp
    | ow d =>
      rw [hx] at hf ok
      cases hf
      obtain ⟨a, e', o, n⟩ := ok
      rw [ei] at e'; cases e'
      exact done (by rw [hx]; exact True.intro) ei o n rfl rfl
    | lk d =>
      rw [hx] at hf ok
      cases d with
      | list xs =>
        cases hf
        obtain ⟨a, e', o, n⟩ := ok
        rw [ei] at e'; cases e'
        cases o with
        | lst h r => exact done (by rw [hx]; exact True.intro) ei (.lst h r) n rfl rfl
      | _ => cases hf
theorem s_retN : PS X (.Return none pos) (tSS ks w fun st => some (.rt (.im .none) st)) := ps_retN.imp fun D σ H h => by
  obtain ⟨F, st, fl, fo, rl, hf, q⟩ := h
  cases hf
  exact q .non σ F H (.refl fo rl) .non
theorem s_iff {a b : List Stmt} (hc : PT X e (tB' w fc)) (ha : PSs X a (tSS ks w f)) (hb : PSs X b (tSS ks w g)) : PS X (.If e a b pos) (tSS ks w fun st => (fc st).bind fun p => bif p.1 then f p.2 else g p.2) := (ps_if hc ha hb).imp fun D σ H h => by
  obtain ⟨F, st, fl, fo, rl, hf, q⟩ := h
  obtain ⟨p, h1, hf⟩ := bnd1 hf
  refine ⟨F, st, p.1, p.2, fo, rl, h1, fun F1 H1 A1 => ?_⟩
  cases hk : p.1 with
  | true => rw [hk] at hf; exact iteT ⟨F1, p.2, fl, A1.fo, A1.rl, hf, q.trans A1.s⟩
  | false => rw [hk] at hf; exact iteF ⟨F1, p.2, fl, A1.fo, A1.rl, hf, q.trans A1.s⟩
theorem s_whl {N : Nat} (hp : PassesOwn (model X.prog X.w) X.A X.env X.xe) (hc : PT X e (tB' w fc)) (hb : PSs X body (tSS ks w f)) : PS X (.While e body [] pos) (tSS ks w (whlL fc f N)) := (ps_while hp hc hb).imp fun D σ H h => by
  obtain ⟨F, st, fl, fo, rl, hf, q⟩ := h
  refine ⟨fun m σ' H' => ∃ F' st', AftS ks F w H σ st F' H' σ' st' ∧ whlL fc f m st' = some fl, ⟨N, F, st, .refl fo rl, hf⟩, ?_⟩
  rintro m σ' H' ⟨F', st', A, run⟩
  cases m with
  | zero => cases run
  | succ m =>
    obtain ⟨p, h1, run⟩ := bnd1 (show (fc st').bind _ = some fl from run)
    refine ⟨F', st', p.1, p.2, A.fo, A.rl, h1, fun F1 H1 A1 => ?_⟩
    have A2 := A.trans A1.s
    cases hk : p.1 with
    | false =>
      rw [hk] at run
      cases run
      exact iteF (q σ' F1 H1 A2)
    | true =>
      rw [hk] at run
      obtain ⟨fl1, h2, run⟩ := bnd1 (show (f p.2).bind _ = some fl from run)
      refine iteT ⟨fun σ2 H2 => ∃ F2 st2, AftS ks F w H σ st F2 H2 σ2 st2 ∧ whlL fc f m st2 = some fl, fun σ2 H2 z => ⟨m, Nat.lt_succ_self m, z⟩, F1, p.2, fl1, A1.fo, A1.rl, h2, ?_⟩
      cases fl1 with
      | nx st2 => exact fun σ2 F2 H2 A3 => ⟨F2, st2, A2.trans A3, run⟩
      | bk st2 => cases run; exact fun σ2 F2 H2 A3 => q σ2 F2 H2 (A2.trans A3)
      | rt r st2 => cases run; exact fun v σ2 F2 H2 A3 r3 => q v σ2 F2 H2 (A2.trans A3) (r3.back A2)
def f_for (t : T) (gi : Sg → Option (List D × Option Nat × Sg)) (f : Sg → Option Fl) : Sg → Option Fl := fun st => (gi st).bind fun p => (forL (bindT t) f p.1 p.2.2).map (Fl.unlock p.2.1)
theorem s_for {tg iter : Expr} {t : T} (hp : PassesOwn (model X.prog X.w) X.A X.env X.xe) (hc : X.calm = true) (hi : PI X tg iter (tI w gi)) (hg : PG X tg (gT X.K t)) (hk : ∀ i ∈ t.own, i ∉ ks) (hb : PSs X body (tSS ks w f)) (hs : ∀ x, foldedSetIterable iter X.env x = pure x) :
    PS X (.For tg iter body [] pos) (tSS ks w (f_for t gi f)) := (ps_for hp hc hi hg hb hs).imp fun D σ H h => by
  obtain ⟨F, st, fl, fo, rl, hf, q⟩ := h
  obtain ⟨⟨xs, l, st0⟩, h1, hf⟩ := bnd1 hf
  obtain ⟨fl0, h2, rfl⟩ := map1 hf
  refine ⟨F, st, xs, l, st0, fo, rl, h1, fun J A0 F1 H1 A1 hA0 wk hl => ?_⟩
  refine ⟨fun i m σ' H' => m = xs.length - i ∧ i ≤ xs.length ∧ ∃ F' st', AftS ks F1 w H1 σ st0 F' H' σ' st' ∧ forL (bindT t) f (xs.drop i) st' = some fl0, ⟨xs.length, by simp, Nat.zero_le _, F1, st0, .refl A1.fo A1.rl, by rw [List.drop_zero]; exact h2⟩, ?_⟩
  rintro i m σ' H' ⟨rfl, hi, F', st', A, run⟩
  have kF : Keep F1 H1 F' H' := A.stp.keep A1.fo A1.rl.nw
  have same0 : ∀ a, A0 a → H' a = H1 a := fun a ha => A.stp.kp a (hA0 a ha).1 (hA0 a ha).2
  have A2 : AftS ks F w H σ st F' H' σ' st' := A1.s.trans A
  by_cases hlt : i < xs.length
  · refine .inr ?_
    have hd : xs[i]? = some xs[i] := List.getElem?_eq_getElem hlt
    obtain ⟨go, yld⟩ := wk.go i F' H' kF same0 A.fo _ hd
    refine ⟨go, fun σ2 H2 => i + 1 ≤ xs.length ∧ ∃ F2 st2, AftS ks F1 w H1 σ st0 F2 H2 σ2 st2 ∧ forL (bindT t) f (xs.drop (i + 1)) st2 = some fl0, fun σ2 H2 z => ⟨_, by omega, rfl, z⟩, fun x H2 y => ?_⟩
    obtain ⟨F2, s2, fo2, rx⟩ := yld x H2 y
    have B1 := s2.aft A.fo A.rl fo2
    rw [List.drop_eq_getElem_cons hlt] at run
    obtain ⟨st3, e1, run⟩ := bnd1 (show (bindT t xs[i] st').bind _ = some fl0 from run)
    obtain ⟨fl1, e2, run⟩ := bnd1 run
    refine g_bind B1.rl rx e1 fun σ3 B => ?_
    have A3 : AftS ks F1 w H1 σ st0 F2 H2 σ3 st3 := (A.trans B1.s).trans (B.s fo2 hk)
    refine ⟨F2, st3, fl1, fo2, B.rl, e2, ?_⟩
    cases fl1 with
    | nx st4 => exact fun σ4 F4 H4 A4 => ⟨hlt, F4, st4, A3.trans A4, run⟩
    | bk st4 =>
      cases run
      exact fun σ4 F4 H4 A4 => q σ4 F4 H4 ((A1.s.trans (A3.trans A4)).unlock hl)
    | rt r st4 =>
      cases run
      exact fun v σ4 F4 H4 A4 r4 => q v σ4 F4 H4 (A1.s.trans (A3.trans A4)) (r4.back (A1.s.trans A3))
  · have ei : i = xs.length := Nat.le_antisymm hi (Nat.le_of_not_lt hlt)
    subst ei
    rw [List.drop_length] at run
    cases run
    exact .inl ⟨wk.stop _ H' (fun a ha => ha.elim (kF.eq a) (same0 a)) (Nat.le_refl _), q σ' F' H' (A2.unlock hl)⟩
end
end Nv
end
section
set_option Elab.async false
set_option linter.all false
set_option maxRecDepth 100000
set_option maxHeartbeats 4000000
namespace Nv
open PySem PySem.Spec PyProof.Rows L2

section
variable {X : Cx} {w : World} {ks : List Nat} {e e2 : Expr} {es : List Expr} {pos px : Pos}
variable {fe fk : Sg → Option (R × Sg)} {fp : Sg → Option (List R × Sg)} {fc : Sg → Option (Bool × Sg)} {gi : Sg → Option (List PyData × Option Nat × Sg)}
theorem sto_hold {st : Sg} {i : Nat} {r : R} {st2 : Sg} (h : sto st i r = some st2) : ∃ u, holdR st r = some u ∧ sto u.2 i u.1 = some st2 := by
  cases r with
  | im d => exact ⟨_, rfl, h⟩
  | tm d => exact ⟨_, rfl, h⟩
  | sl j =>
    obtain ⟨p, h1, h2⟩ := map1 (show (fz st (.sl j)).map (fun p => p.2.set i (.im p.1)) = some st2 from h)
    refine ⟨(.im p.1, p.2), ?_, congrArg some h2⟩
    show (fz st (.sl j)).map _ = _
    rw [h1]; rfl
def f_set (i : Nat) (fe : Sg → Option (R × Sg)) : Sg → Option Fl := fun st => (fe st).bind fun p => (sto p.2 i p.1).map .nx
theorem i_set {i : Nat} {D : Ends} {σ : St} {H : Hp} (hi : i ∉ ks) (h : tSS ks w (f_set i fe) D σ H) : tAsg (tS w (holdF fe)) (gName i) D σ H := by
  obtain ⟨F, st, fl, fo, rl, hf, q⟩ := h
  obtain ⟨p, h1, hf⟩ := bnd1 hf
  obtain ⟨st2, h2, rfl⟩ := map1 hf
  obtain ⟨u, h3, h4⟩ := sto_hold h2
  exact ⟨F, st, u.1, u.2, fo, rl, by show (fe st).bind _ = _; rw [h1]; exact h3, fun v F1 H1 A1 R1 N1 => q _ F1 H1 (A1.s.sto R1 N1 (hold_noSl h3) hi h4)⟩
theorem s_set {i : Nat} {x : Str} (hN : X.N.Nodup) (hx : X.N[i]? = some x) (hl : Loc X.env.scope x) (he : PE X e (tS w fe)) (hs : swapsWith e (some (.Name x px)) pos.line X.env = pure false) (hf : X.fn x = true ∨ X.env.scope.names.lookup x = some .local) (hi : i ∉ ks) :
    PS X (.Assign [.Name x px] e pos) (tSS ks w (f_set i fe)) := (ps_set hN hx hl (r_hold he) hs hf).imp fun D σ H h => i_set hi h
/-- .. the names and the comprehension on one line -/
theorem s_setLc {i : Nat} {x : Str} {elt tg iter : Expr} {ifs : List Expr} {scope : Scope} {lpos : Pos} {t : T} {own : List (Str × Nat)} (hc : X.calm = true) (hN : X.N.Nodup) (hx : X.N[i]? = some x) (hl : X.env.scope.names.lookup x = some .local)
    (hsw : swapsWith (.ListComp elt [⟨tg, iter, ifs, 0⟩] scope lpos) (some (.Name x px)) pos.line X.env = pure true) (hit : PI X tg iter (tI w gi)) (ok : BlkOk X.N X.env.scope scope own) (ho : own.map (·.2) = t.own)
    (hg : ∀ (s : Shared) (H : Hp) (C : Addr) (cl : List (Str × Addr)) (fp : List Addr), PG (X.blk s H scope (compEnvC scope cl C X.env) fp) tg (gT X.K t)) (ht : ∀ (s : Shared) (H : Hp) (C : Addr) (cl : List (Str × Addr)) (fp : List Addr), PTs (X.blk s H scope (compEnvC scope cl C X.env) fp) ifs (tB' w fc))
    (he : ∀ (s : Shared) (H : Hp) (C : Addr) (cl : List (Str × Addr)) (fp : List Addr), PE (X.blk s H scope (compEnvC scope cl C X.env) fp) elt (tS w fe)) (hs : ∀ x, foldedSetIterable iter X.env x = pure x) (hi : i ∉ ks) :
    PS X (.Assign [.Name x px] (.ListComp elt [⟨tg, iter, ifs, 0⟩] scope lpos) pos) (tSS ks w (f_set i (f_lc t gi fc fe))) :=
  (ps_setLc hc hN hx hl hsw hit ok hg ht (fun s H C cl fp => r_keep (he s H C cl fp)) hs).imp fun D σ H h => by
    rw [ho]
    obtain ⟨F, st, fl, fo, rl, hf, q⟩ := h
    obtain ⟨p, h1, hf⟩ := bnd1 hf
    obtain ⟨st2, h2, rfl⟩ := map1 hf
    refine i_lc (K := X.K) ⟨F, st, p.1, p.2, fo, rl, h1, fun v F1 H1 A1 R1 N1 => q _ F1 H1 (A1.s.sto R1 N1 ?_ hi h2)⟩
    obtain ⟨y, _, h3⟩ := bnd1 h1
    obtain ⟨z, _, h4⟩ := map1 h3
    have e : p.1 = .tm (.list z.1) := by rw [← h4]
    rw [e]; trivial
theorem rp_tup {F : Addr → Prop} {H : Hp} {v : V} {d : PyData} {xs : List PyData} (h : Vw F w H v d) (e : tupOf d = some xs) : Rp F w H v d := by
  cases d with
  | tuple ys => obtain ⟨a, vs, rfl, h1, h2, h3⟩ := h.tuple; exact .tup h3 h1 h2
  | _ => cases e
theorem s_setT {is : List Nat} {tg : Expr} (hg : PG X tg (gT X.K (.pr is))) (he : PE X e (tS w fe)) (hs : swapsWithSole [tg] e pos.line X.env = pure false) (hw : swappedStores [tg] e X.env = pure none) (h1 : (assignEach [tg] X.env).map (·.2) = [assign tg X.env]) (hk : ∀ i ∈ is, i ∉ ks) :
    PS X (.Assign [tg] e pos) (tSS ks w fun st => (fe st).bind fun p => (dr p.2 p.1).bind fun d => (bindT (.pr is) d p.2).map .nx) := (ps_asg he hg hs hw h1).imp fun D σ H h => by
  obtain ⟨F, st, fl, fo, rl, hf, q⟩ := h
  obtain ⟨p, h1, hf⟩ := bnd1 hf
  obtain ⟨d, h2, hf⟩ := bnd1 hf
  obtain ⟨st2, h3, rfl⟩ := map1 hf
  refine ⟨F, st, p.1, p.2, fo, rl, h1, fun v F1 H1 A1 R1 N1 => ?_⟩
  obtain ⟨xs, h4, _⟩ := bnd1 (show (tupOf d).bind _ = some st2 from h3)
  exact g_bind (t := .pr is) A1.rl (rp_tup (R1.vw A1.rl h2) h4) h3 fun σ' B => q σ' F1 H1 (A1.s.trans (B.s A1.fo hk))
def f_par (is : List Nat) (fp : Sg → Option (List R × Sg)) : Sg → Option Fl := fun st => (fp st).bind fun p => (stos is p.1 p.2).map .nx
theorem stos_len : ∀ {is : List Nat} {rs : List R} {st st2 : Sg}, stos is rs st = some st2 → is.length = rs.length
  | [], [], _, _, _ => rfl
  | [], _ :: _, _, _, h => by cases h
  | _ :: _, [], _, _, h => by cases h
  | i :: is, r :: rs, st, st2, h => by
    obtain ⟨st3, h1, h2⟩ := bnd1 (show (sto st i r).bind _ = some st2 from h)
    exact congrArg (· + 1) (stos_len (is := is) h2)
theorem RRs.length {F : Addr → Prop} {H : Hp} {σ : St} {st : Sg} {vs : List V} {rs : List R} (h : RRs F w H σ st vs rs) : vs.length = rs.length := by
  induction h with
  | nil => rfl
  | cons r t ih => exact congrArg (· + 1) ih
theorem i_par {is : List Nat} {σ : St} {H : Hp} {D : Ends} {Q : List V → Hp → Prop} (hk : ∀ i ∈ is, i ∉ ks) (h : tSS ks w (f_par is fp) D σ H) (hq : ∀ vs H', vs.length = is.length → D.nx (setAll is vs σ) H' → Q vs H') : tP w fp σ H Q := by
  obtain ⟨F, st, fl, fo, rl, hf, q⟩ := h
  obtain ⟨p, h1, hf⟩ := bnd1 hf
  obtain ⟨st2, h2, rfl⟩ := map1 hf
  exact ⟨F, st, p.1, p.2, fo, rl, h1, fun vs F1 H1 A1 R1 n1 d1 f1 => hq vs H1 (by rw [R1.length, stos_len h2]) (q _ F1 H1 (A1.s.stos R1 n1 d1 f1 hk h2))⟩
theorem s_par2 {i j : Nat} {x y : Str} {a b : Expr} {px py pt : Pos} {kt k2 : Nat} {pt2 : Pos} (hc : X.calm = true) (hN : X.N.Nodup) (hi : X.N[i]? = some x) (hj : X.N[j]? = some y) (hij : i ≠ j)
    (hx : X.env.scope.names.lookup x = some .local) (hy : X.env.scope.names.lookup y = some .local) (ha : PA X [a, b] (tP w fp))
    (hw : swappedStores [.Tuple [.Name x px, .Name y py] kt pt] (.Tuple [a, b] k2 pt2) X.env = pure (some [x, y])) (hk : ∀ n ∈ [i, j], n ∉ ks) :
    PS X (.Assign [.Tuple [.Name x px, .Name y py] kt pt] (.Tuple [a, b] k2 pt2) pos) (tSS ks w (f_par [i, j] fp)) := (ps_par hc hN hi hj hij hx hy ha hw).imp fun D σ H h => by
  refine i_par hk h fun vs H' hl q => ?_
  match vs, hl with
  | [v, u], _ => exact ⟨v, u, rfl, q⟩
theorem s_par3 {i j l : Nat} {x y z : Str} {a b c : Expr} {px py pz pt : Pos} {kt k2 : Nat} {pt2 : Pos} (hc : X.calm = true) (hN : X.N.Nodup) (hi : X.N[i]? = some x) (hj : X.N[j]? = some y) (hl : X.N[l]? = some z) (hij : i ≠ j) (hil : i ≠ l) (hjl : j ≠ l)
    (hx : X.env.scope.names.lookup x = some .local) (hy : X.env.scope.names.lookup y = some .local) (hz : X.env.scope.names.lookup z = some .local) (ha : PA X [a, b, c] (tP w fp))
    (hw : swappedStores [.Tuple [.Name x px, .Name y py, .Name z pz] kt pt] (.Tuple [a, b, c] k2 pt2) X.env = pure (some [x, y, z])) (hk : ∀ n ∈ [i, j, l], n ∉ ks) :
    PS X (.Assign [.Tuple [.Name x px, .Name y py, .Name z pz] kt pt] (.Tuple [a, b, c] k2 pt2) pos) (tSS ks w (f_par [i, j, l] fp)) := (ps_par3 hc hN hi hj hl hij hil hjl hx hy hz ha hw).imp fun D σ H h => by
  refine i_par hk h fun vs H' hl q => ?_
  match vs, hl with
  | [v, u, t], _ => exact ⟨v, u, t, rfl, q⟩
theorem g_namesAll : ∀ {is : List Nat} {vs : List V} {σ : St} {H : Hp} {Q : St → Hp → Prop}, vs.length = is.length → Q (setAll is vs σ) H → gNames is vs σ H Q
  | [], [], σ, H, Q, _, q => ⟨rfl, q⟩
  | [], _ :: _, _, _, _, h, _ => by simp at h
  | _ :: _, [], _, _, _, h, _ => by simp at h
  | i :: is, v :: vs, σ, H, Q, h, q => ⟨v, vs, rfl, g_namesAll (is := is) (by simpa using h) q⟩
theorem s_parG {is : List Nat} {tg : Expr} {k2 : Nat} {pt2 : Pos} (hg : PG X tg (gT X.K (.pr is))) (ha : PA X es (tP w fp)) (hs : swapsWithSole [tg] (.Tuple es k2 pt2) pos.line X.env = pure false) (hw : swappedStores [tg] (.Tuple es k2 pt2) X.env = pure none) (h1 : (assignEach [tg] X.env).map (·.2) = [assign tg X.env]) (hk : ∀ i ∈ is, i ∉ ks) (hz : is.length ≤ 1000) :
    PS X (.Assign [tg] (.Tuple es k2 pt2) pos) (tSS ks w (f_par is fp)) := (ps_asg (pe_tup ha) hg hs hw h1).imp fun D σ H h => by
  obtain ⟨F, st, fl, fo, rl, hf, q⟩ := h
  obtain ⟨p, h1, hf⟩ := bnd1 hf
  obtain ⟨st2, h2, rfl⟩ := map1 hf
  refine ⟨F, st, p.1, p.2, fo, rl, h1, fun vs F1 H1 A1 R1 n1 d1 f1 => ?_⟩
  have hl : vs.length = is.length := by rw [R1.length, stos_len h2]
  refine ⟨lim_line (by rw [hl]; exact Nat.le_trans hz (by decide)), fun a hn => ⟨a, vs, rfl, .inl (.inl upd_same), hl, g_namesAll hl ?_⟩⟩
  have A2 : Aft F1 w H1 σ p.2 F1 (upd H1 a (.tup vs)) p.2 := (stp_new A1.fo hn).aft A1.fo A1.rl (fok_new A1.fo)
  have R2 : RRs F1 w (upd H1 a (.tup vs)) σ p.2 vs p.1 := R1.stay A1.fo A1.rl A2
  exact q _ F1 _ ((A1.trans A2).s.stos R2 n1 d1 f1 hk h2)
def rSetD (w : World) : TSet := fun o i v H Q => ∃ F a d kd vd d', Fok F H ∧ o = .ref a ∧ Own F w H a d ∧ ¬ F a ∧ Rp F w H i kd ∧ Rp F w H v vd ∧ subD d kd vd = some d' ∧ ∀ o', Own F w (upd H a o') a d' → Q (upd H a o')
theorem setD (hw : X.w = w) (hu : X.A.units + 64 < cLine) : PSet X (rSetD w) := by
  intro pins s σ H o i v ov iv u Q I ro ri rv h
  obtain ⟨F, a, d, kd, vd, d', fo, rfl, ho, nF, hk, hv, hs, q⟩ := h
  cases ro
  exact thn (sub_ok I hw hu fo nF ri rv ho hk hv hs) fun _ s' ⟨o', I', ow⟩ => ⟨_, I', q o' ow⟩
theorem s_sub {i : Nat} {x : Str} {k : Expr} {tp xp : Pos} (hw : X.w = w) (hu : X.A.units + 64 < cLine) (hN : X.N[i]? = some x) (hv : Vis X.env.scope x) (hf : fineName x = true) (he : PE X e (tS w fe)) (hk : PE X k (tS w fk))
    (ha : ∀ v, assign (.Subscript (.Name x xp) k tp) X.env v = (do
      let ov ← holding [v] (eval (.Name x xp) X.env)
      let iv ← holding [v, ov] (eval k X.env)
      standAt tp
      holding [v, ov, iv] (setItem ov iv v)
      release [v, ov, iv] []))
    (hs : swapsWithSole [.Subscript (.Name x xp) k tp] e pos.line X.env = pure false) (hsw : swappedStores [.Subscript (.Name x xp) k tp] e X.env = pure none) (h1 : (assignEach [.Subscript (.Name x xp) k tp] X.env).map (·.2) = [assign (.Subscript (.Name x xp) k tp) X.env]) :
    PS X (.Assign [.Subscript (.Name x xp) k tp] e pos) (tSS ks w fun st => (fe st).bind fun p => (fz p.2 p.1).bind fun v => (ownOf (sget v.2 i)).bind fun _ => (fk v.2).bind fun q => (fz q.2 q.1).bind fun u => (ownOf (sget u.2 i)).bind fun d => (subD d u.1 v.1).map fun d' => .nx (u.2.set i (.ow d'))) := by
  have hf' := hf
  unfold fineName at hf'
  rw [Bool.and_eq_true, Bool.not_eq_true', Bool.not_eq_true'] at hf'
  refine (ps_asg (r_keep he) (pg_sub (pe_var hN hv hf'.1 hf'.2) (r_keep hk) (setD hw hu) ha) hs hsw h1).imp fun D σ H h => ?_
  obtain ⟨F, st, fl, fo, rl, hf, q⟩ := h
  obtain ⟨p, e1, hf⟩ := bnd1 hf
  obtain ⟨v, e2, hf⟩ := bnd1 hf
  obtain ⟨d0, e0, hf⟩ := bnd1 hf
  obtain ⟨p2, e3, hf⟩ := bnd1 hf
  obtain ⟨u, e4, hf⟩ := bnd1 hf
  obtain ⟨d, e5, hf⟩ := bnd1 hf
  obtain ⟨d', e6, rfl⟩ := map1 hf
  have hx := ownOf_eq e5
  refine ⟨F, st, v.1, v.2, fo, rl, by rw [e1]; exact e2, fun y F1 H1 A1 R1 => ?_⟩
  obtain ⟨b, ez, _⟩ := own_sl A1.rl (ownOf_eq e0)
  refine ⟨_, ez, F1, v.2, u.1, u.2, A1.fo, A1.rl, by rw [e3]; exact e4, fun y2 F2 H2 A2 R2 => ?_⟩
  obtain ⟨a, ea, ho, nF⟩ := own_sl A2.rl hx
  rw [ez] at ea; cases ea
  refine ⟨F2, b, d, u.1, v.1, d', A2.fo, rfl, ho, nF, R2, R1.stay (A2.keep A1.fo A1.rl), e6, fun o' ow => q σ F2 _ ?_⟩
  exact ((A1.trans A2).trans (Aft.chg A2.fo A2.rl hx ez ow)).s
def rAug (w : World) (o : Bop) : TIp := fun x y H Q => ∃ i j k : Int, x = .int i ∧ y = .int j ∧ augD o (.int i) (.int j) = some (.int k) ∧ Q (.int k) H
theorem augOp (o : Bop) : PIp X (opOf o) (rAug w o) := by
  intro pins s σ H x y v u Q I rx ry h
  obtain ⟨i, j, k, rfl, rfl, hk, q⟩ := h
  obtain ⟨t, rfl⟩ := rx
  obtain ⟨t', rfl⟩ := ry
  have fin : EP X pins σ Q (.int k s.toks) { s with toks := s.toks + 1 } := ⟨.int k, H, I.tok _, ⟨_, rfl⟩, q⟩
  cases o with
  | add => cases hk; exact iadd_int fin
  | sub => cases hk; exact PyProof.Rows.isub_int fin
  | mul =>
    have hk : (if small64 i || small64 j then some (PyData.int (i * j)) else none) = some (.int k) := hk
    split at hk
    · rename_i hs
      cases hk
      rw [Bool.or_eq_true] at hs
      exact imul_int fin (CMul.ok (hs.imp small64_pow small64_pow))
    · cases hk
  | fdiv =>
    have hk : (if j ≠ 0 ∧ j.natAbs < 1073741824 then some (PyData.int (i.fdiv j)) else none) = some (.int k) := hk
    split at hk
    · rename_i hs
      cases hk
      exact PyProof.Rows.ifloordiv_int hs.1 fin (.inl (PyProof.noPylong_small hs.2))
    · cases hk
  | mod =>
    have hk : (if j ≠ 0 then some (PyData.int (i.fmod j)) else none) = some (.int k) := hk
    split at hk
    · rename_i hs
      cases hk
      exact PyProof.Rows.imod_int hs fin
    · cases hk
  | pow => cases hk
  | shl => cases hk
theorem aug_ints {o : Bop} {x y z : PyData} (h : augD o x y = some z) : ∃ i j k : Int, x = .int i ∧ y = .int j ∧ z = .int k := by
  unfold augD at h
  split at h
  · cases h; exact ⟨_, _, _, rfl, rfl, rfl⟩
  · cases h; exact ⟨_, _, _, rfl, rfl, rfl⟩
  · split at h
    · cases h; exact ⟨_, _, _, rfl, rfl, rfl⟩
    · cases h
  · split at h
    · cases h; exact ⟨_, _, _, rfl, rfl, rfl⟩
    · cases h
  · split at h
    · cases h; exact ⟨_, _, _, rfl, rfl, rfl⟩
    · cases h
  · cases h
theorem imOf_eq {x : Slot} {d : PyData} (h : imOf x = some d) : x = .im d := by
  cases x <;> cases h
  rfl
theorem s_aug {i : Nat} {x : Str} {o : Bop} (hN : X.N.Nodup) (hx : X.N[i]? = some x) (hl : Loc X.env.scope x) (he : PE X e (tS w fe)) (hf : X.fn x = true ∨ X.env.scope.names.lookup x = some .local) (hi : i ∉ ks) :
    PS X (.AugAssign (.Name x px) (opOf o) e pos) (tSS ks w fun st => (imOf (sget st i)).bind fun x => (fe st).bind fun p => (dr p.2 p.1).bind fun y => (augD o x y).map fun z => .nx (p.2.set i (.im z))) :=
  (ps_aug hN hx hl he (augOp (w := w) o) hf).imp fun D σ H h => by
    obtain ⟨F, st, fl, fo, rl, hf, q⟩ := h
    obtain ⟨d, e0, hf⟩ := bnd1 hf
    obtain ⟨p, e1, hf⟩ := bnd1 hf
    obtain ⟨y, e2, hf⟩ := bnd1 hf
    obtain ⟨z, e3, rfl⟩ := map1 hf
    obtain ⟨a, b, c, rfl, rfl, rfl⟩ := aug_ints e3
    have ok := rl.ok i
    rw [imOf_eq e0] at ok
    obtain ⟨v, ev, rp⟩ := ok
    cases rp
    exact ⟨_, ev, F, st, p.1, p.2, fo, rl, e1, fun y1 F1 H1 A1 R1 N1 => ⟨a, b, c, rfl, (R1.vw A1.rl e2).int, e3, q _ F1 H1 (A1.s.sto (r := .im (.int c)) (.int c) trivial trivial hi rfl)⟩⟩
def rGet (w : World) : V → V → Hp → VK → Prop := fun o i H Q => ∃ F a d k x, Fok F H ∧ o = .ref a ∧ Own F w H a d ∧ Rp F w H i k ∧ idxD d k = some x ∧ ∀ v, Rp F w H v x → Q v H
theorem getD (hw : X.w = w) (hu : X.A.units + 64 < cLine) : PGet X (rGet w) := by
  intro pins s σ H o i ov iv Q I ro ri h
  obtain ⟨F, a, d, k, x, fo, rfl, ho, hk, he, q⟩ := h
  cases ro
  cases ho with
  | lst ha ra =>
    rename_i vs ds
    cases k with
    | int n =>
      cases hk
      obtain ⟨t, rfl⟩ := ri
      obtain ⟨j, h1, h2⟩ := Option.bind_eq_some_iff.mp (show (place ds.length n).bind (fun k => ds[k]?) = some x from he)
      obtain ⟨v, e1, e2⟩ := ra.get h2
      have at_ : atI vs n = some v := place_at (by rw [ra.length]; exact h1) e1
      obtain ⟨its, r, pl, hz⟩ := I.list (xs := vs) (.inl (.inl ha))
      obtain ⟨j, h1, h2, h3, h4, h5⟩ := atI_get at_
      obtain ⟨u, ew, rw'⟩ := r.get h2
      have hl := r.length
      have hn := line63
      have fin : EP X pins σ Q u s := ⟨v, H, I, rw', q v e2⟩
      by_cases h0 : 0 ≤ n
      · have hj : n.toNat = j := by
          rw [seqIndex_of h0 h5] at h1
          exact Option.some.inj h1
        exact wpAny_getItem_list pl.isList h0 (by omega) (by rw [hj]; simpa using ew) fin
      · have hj : (n + (its.toArray.size : Int)).toNat = j := by
          rw [seqIndex_neg (by omega) h4] at h1
          rw [List.size_toArray, ← hl]
          exact Option.some.inj h1
        exact wpAny_getItem_list_neg pl.isList (by omega) (by rw [List.size_toArray] <;> omega) (by omega) (by rw [hj]; simpa using ew) fin
    | _ => cases he
  | dct ha hc =>
    rename_i u kvs
    have he : (if keyFits kvs k then dget kvs k else none) = some x := he
    split at he
    · rename_i hf
      exact thn (d_get I hw hu (.inl ha) hc hk hf ri he) fun u' s' ⟨v, I', r', rp⟩ => ⟨v, H, I', r', q v rp⟩
    · cases he
theorem s_augs {i : Nat} {x : Str} {k : Expr} {o : Bop} {tp xp : Pos} (hw : X.w = w) (hu : X.A.units + 64 < cLine) (hN : X.N[i]? = some x) (hv : Vis X.env.scope x) (hf : fineName x = true) (he : PE X e (tS w fe)) (hk : PE X k (tS w fk))
    (ha : ∀ ov iv new, augStore k ov iv new = (do holding [new, ov, iv] (setItem ov iv new); release [new, ov, iv] []; pure .next)) :
    PS X (.AugAssign (.Subscript (.Name x xp) k tp) (opOf o) e pos) (tSS ks w fun st => (ownOf (sget st i)).bind fun _ => (fk st).bind fun p => (fz p.2 p.1).bind fun u => (ownOf (sget u.2 i)).bind fun d => (idxD d u.1).bind fun x => (fe u.2).bind fun q => (dr q.2 q.1).bind fun y => (augD o x y).bind fun z =>
      (ownOf (sget q.2 i)).bind fun d => (subD d u.1 z).map fun d' => .nx (q.2.set i (.ow d'))) := by
  have hf' := hf
  unfold fineName at hf'
  rw [Bool.and_eq_true, Bool.not_eq_true', Bool.not_eq_true'] at hf'
  refine (ps_augS (pe_var hN hv hf'.1 hf'.2) (r_keep hk) (getD hw hu) he (augOp (w := w) o) (setD hw hu) ha).imp fun D σ H h => ?_
  obtain ⟨F, st, fl, fo, rl, hf, q⟩ := h
  obtain ⟨d0, e0, hf⟩ := bnd1 hf
  obtain ⟨p, e1, hf⟩ := bnd1 hf
  obtain ⟨u, e2, hf⟩ := bnd1 hf
  obtain ⟨d, e3, hf⟩ := bnd1 hf
  obtain ⟨x, e4, hf⟩ := bnd1 hf
  obtain ⟨p2, e5, hf⟩ := bnd1 hf
  obtain ⟨y, e6, hf⟩ := bnd1 hf
  obtain ⟨z, e7, hf⟩ := bnd1 hf
  obtain ⟨d2, e8, hf⟩ := bnd1 hf
  obtain ⟨d', e9, rfl⟩ := map1 hf
  obtain ⟨b, eb, _⟩ := own_sl rl (ownOf_eq e0)
  obtain ⟨n1, n2, n3, rfl, rfl, rfl⟩ := aug_ints e7
  refine ⟨_, eb, F, st, u.1, u.2, fo, rl, by rw [e1]; exact e2, fun kv F1 H1 A1 R1 => ?_⟩
  obtain ⟨b1, eb1, ho1, nF1⟩ := own_sl A1.rl (ownOf_eq e3)
  rw [eb] at eb1; cases eb1
  refine ⟨F1, b, d, u.1, _, A1.fo, rfl, ho1, R1, e4, fun v rv => ?_⟩
  cases rv
  refine ⟨F1, u.2, p2.1, p2.2, A1.fo, A1.rl, e5, fun y1 F2 H2 A2 R2 N2 => ⟨n1, n2, n3, rfl, (R2.vw A2.rl e6).int, e7, ?_⟩⟩
  obtain ⟨b2, eb2, ho2, nF2⟩ := own_sl A2.rl (ownOf_eq e8)
  rw [eb] at eb2; cases eb2
  exact ⟨F2, b, d2, u.1, _, d', A2.fo, rfl, ho2, nF2, R1.stay (A2.keep A1.fo A1.rl), .int _, e9, fun o' ow => q σ F2 _ ((A1.trans A2).trans (Aft.chg A2.fo A2.rl (ownOf_eq e8) eb ow)).s⟩
end
end Nv
end
section
set_option Elab.async false
set_option linter.all false
set_option maxRecDepth 100000
set_option maxHeartbeats 400000
namespace Nv
open PySem PySem.Spec PyProof.Rows L2

/-- the text's scope, as it stands in the frame -/
def ScOk (es sc : Scope) : Prop := ∀ x k, sc.names.lookup x = some k → es.names.lookup x = some k ∨ (k = .free ∧ es.names.lookup x = some .cell)
theorem ScOk.refl (sc : Scope) : ScOk sc sc := fun _ _ h => .inl h
theorem scOk_rel {scope : Scope} {env : Env} : ScOk (relabel scope env) scope := by
  intro x k h
  show (scope.names.map _).lookup x = _ ∨ _ ∧ (scope.names.map _).lookup x = _
  generalize scope.names = names at h
  induction names with
  | nil => simp at h
  | cons p r ih =>
    obtain ⟨n, k0⟩ := p
    rw [List.map_cons, List.lookup_cons]
    rw [List.lookup_cons] at h
    by_cases hx : (x == n) = true
    · simp only [hx] at h
      cases h
      by_cases hc : (k == NameKind.free && env.scope.kind == .function && env.kindOf n == some .cell) = true
      · rw [if_pos hc]
        simp only [hx]
        rw [Bool.and_eq_true, Bool.and_eq_true, beq_iff_eq] at hc
        exact .inr ⟨hc.1.1, trivial⟩
      · rw [if_neg hc]
        simp only [hx]
        exact .inl trivial
    · have hx : (x == n) = false := by simpa using hx
      simp only [hx] at h
      have ih := ih h
      by_cases hc : (k0 == NameKind.free && env.scope.kind == .function && env.kindOf n == some .cell) = true
      · rw [if_pos hc]; simp only [hx]; exact ih
      · rw [if_neg hc]; simp only [hx]; exact ih
def bltNames : List Str := ["len", "tuple", "list", "int", "abs", "sum", "max", "min", "all", "any", "sorted", "dict", "bool", "str", "range", "isinstance"]
structure XR (X : Cx) (w : World) (c : Tc) (C : Orc) (sc : Scope) : Prop where
  hw : X.w = w
  N : X.N = c.N
  nd : X.N.Nodup
  calm : X.calm = true
  u : X.A.units + 100 < cLine
  mg : ∀ x ∈ bltNames, X.mg x = none
  call : ∀ f x ios, c.fs[f]? = some (x, ios) → FnN X w C f ios.length x
  scope : ScOk X.env.scope sc
  fn : ∀ x, sc.names.lookup x = some .cell → X.fn x = true
theorem XR.blk {X : Cx} {w : World} {c : Tc} {C : Orc} {sc scope : Scope} (R : XR X w c C sc) (s : Shared) (H : Hp) (C' : Addr) (cl : List (Str × Addr)) (fp : List Addr) : XR (X.blk s H scope (compEnvC scope cl C' X.env) fp) w c C scope where
  hw := R.hw
  N := R.N
  nd := R.nd
  calm := R.calm
  u := R.u
  mg := R.mg
  call := fun f x ios h => ⟨(R.call f x ios h).ex⟩
  scope := scOk_rel
  fn := fun x h => by show (scope.names.lookup x == some .cell) = true; rw [h]; rfl
section
variable {X : Cx} {w : World} {c : Tc} {C : Orc} {sc : Scope}
theorem slot_N (R : XR X w c C sc) {x : Str} {i : Nat} (h : slotOf c x = some i) : X.N[i]? = some x := by
  unfold slotOf at h
  rw [R.N]
  obtain ⟨h1, h2, _⟩ := List.findIdx?_eq_some_iff_getElem.mp h
  rw [List.getElem?_eq_getElem h1]
  rw [beq_iff_eq] at h2
  rw [h2]
theorem var_of (R : XR X w c C sc) {x : Str} {i : Nat} (h : varIn c sc x = some i) : X.N[i]? = some x ∧ Vis X.env.scope x ∧ fineName x = true := by
  unfold varIn at h
  split at h
  case isFalse => cases h
  rename_i hf
  have k : ∃ k, kindIn sc x = some k ∧ (k = .local ∨ k = .cell ∨ k = .free) ∧ slotOf c x = some i := by
    split at h
    · rename_i e; exact ⟨_, e, .inl rfl, h⟩
    · rename_i e; exact ⟨_, e, .inr (.inl rfl), h⟩
    · rename_i e; exact ⟨_, e, .inr (.inr rfl), h⟩
    · cases h
  obtain ⟨k, e, hk, hs⟩ := k
  refine ⟨slot_N R hs, ?_, hf⟩
  rcases R.scope x k e with q | ⟨_, q⟩
  · rcases hk with rfl | rfl | rfl
    · exact .inl q
    · exact .inr (.inl q)
    · exact .inr (.inr q)
  · exact .inr (.inl q)
theorem loc_of (R : XR X w c C sc) {x : Str} {i : Nat} (h : locIn c sc x = some i) : X.N[i]? = some x ∧ Loc X.env.scope x ∧ (X.fn x = true ∨ X.env.scope.names.lookup x = some .local) ∧ i ∉ c.keep := by
  unfold locIn at h
  have k : ∃ k, kindIn sc x = some k ∧ (k = .local ∨ k = .cell) ∧ ((slotOf c x).bind fun i => if c.keep.contains i then none else some i) = some i := by
    split at h
    · rename_i e; exact ⟨_, e, .inl rfl, h⟩
    · rename_i e; exact ⟨_, e, .inr rfl, h⟩
    · cases h
  obtain ⟨k, e, hk, hs⟩ := k
  obtain ⟨j, h1, h2⟩ := bnd1 hs
  split at h2
  case isTrue => cases h2
  rename_i hn
  cases h2
  refine ⟨slot_N R h1, ?_, ?_, fun z => hn (List.contains_iff_mem.mpr z)⟩
  · rcases R.scope x k e with q | ⟨q, _⟩
    · rcases hk with rfl | rfl
      · exact .inl q
      · exact .inr q
    · subst q; rcases hk with q | q <;> cases q
  · rcases hk with rfl | rfl
    · rcases R.scope x _ e with q | ⟨q, _⟩
      · exact .inr q
      · cases q
    · exact .inl (R.fn x e)
theorem glob_of (R : XR X w c C sc) {x : Str} (h : globIn sc x = true) : Gl X x ∧ (x == ("__debug__" : Str)) = false := by
  unfold globIn at h
  rw [Bool.and_eq_true] at h
  have hf := h.1
  unfold fineName at hf
  rw [Bool.and_eq_true, Bool.not_eq_true', Bool.not_eq_true'] at hf
  have h := h.2
  split at h
  · rename_i e
    rcases R.scope x _ e with q | ⟨q, _⟩
    · exact ⟨q, hf.1⟩
    · cases q
  · cases h
theorem blt_mem {x : Str} {k : Nat} {b : Blt} (h : bltOf x k = some b) : x ∈ bltNames := by
  unfold bltOf at h
  cases hf : bltTab.find? fun p => x == p.1 && k == p.2.1 with
  | none => rw [hf] at h; cases h
  | some p =>
    rw [hf] at h; cases h
    have h1 := List.find?_some hf
    simp only [Bool.and_eq_true, beq_iff_eq] at h1
    obtain ⟨rfl, rfl⟩ := h1
    exact (by decide +kernel : ∀ p ∈ bltTab.map (·.1), p ∈ bltNames) _ (List.mem_map_of_mem (List.mem_of_find?_eq_some hf))
theorem ty_mem {x : Str} {t : Ty} (h : tyOf x = some t) : x ∈ bltNames := by
  unfold tyOf at h
  cases hf : tyTab.find? fun p => x == p.1 with
  | none => rw [hf] at h; cases h
  | some p =>
    rw [hf] at h; cases h
    have h1 := List.find?_some hf
    simp only [beq_iff_eq] at h1
    obtain rfl := h1
    exact (by decide +kernel : ∀ p ∈ tyTab.map (·.1), p ∈ bltNames) _ (List.mem_map_of_mem (List.mem_of_find?_eq_some hf))
theorem fn_of (R : XR X w c C sc) {x : Str} {f : Nat} {ios : List Bool} (h : fnIx c x = some (f, ios)) : FnN X w C f ios.length x := by
  unfold fnIx at h
  obtain ⟨i, h1, h2⟩ := bnd1 h
  obtain ⟨y, h3, h4⟩ := map1 h2
  cases h4
  obtain ⟨h5, h6, _⟩ := List.findIdx?_eq_some_iff_getElem.mp h1
  rw [beq_iff_eq] at h6
  rw [List.getElem?_eq_getElem h5] at h3
  have : c.fs[f]? = some (x, y.2) := by
    rw [List.getElem?_eq_getElem h5, Option.some.inj h3, ← h6, Option.some.inj h3]
  exact R.call f x y.2 this
theorem star_of {n : Nat} {e : Expr} {e' : E} (h : trE c n sc e = some e') (es : List Expr) (env : Env) : starEach (e :: es) env = (false, eval e env) :: starEach es env := by
  cases n with
  | zero => cases h
  | succ n =>
    cases e with
    | Starred v p => cases h
    | _ => rfl
theorem pl_nil : Pl [] := fun _ => rfl
theorem pl_cons {n : Nat} {e : Expr} {e' : E} {es : List Expr} (h : trE c n sc e = some e') (hs : Pl es) : Pl (e :: es) := fun env => by rw [star_of h, hs]; rfl
theorem plain_ix {n : Nat} {e : Expr} {e' : E} (h : trE c n sc e = some e') : PlainIx e := by
  cases n with
  | zero => cases h
  | succ n =>
    cases e with
    | Slice lo hi st p => cases h
    | _ => exact fun _ _ => rfl
theorem noset {n : Nat} {e : Expr} {e' : E} (h : trE c n sc e = some e') (o : CmpOp) : behindInMarks o e = false := by
  cases n with
  | zero => cases h
  | succ n =>
    cases e with
    | Set es k p => cases h
    | _ => rfl
theorem fold_id {n : Nat} {e : Expr} {e' : E} (h : trE c n sc e = some e') (env : Env) (x : Value) : foldedSetIterable e env x = pure x := by
  cases n with
  | zero => cases h
  | succ n =>
    cases e with
    | Set es k p => cases h
    | _ => rfl
theorem cOf_copOf (o : CmpOp) : cOf (copOf o) = o := by cases o <;> rfl
theorem opOf_bopOf {o : Operator} {b : Bop} (h : bopOf o = some b) : opOf b = o := by cases o <;> cases h <;> rfl
theorem trTs_cons {e : Expr} {r : List Expr} {is : List Nat} (h : trTs c sc (e :: r) = some is) : ∃ x p i js, e = .Name x p ∧ locIn c sc x = some i ∧ trTs c sc r = some js ∧ is = i :: js := by
  unfold trTs at h
  split at h
  · rename_i e1; cases e1
  · rename_i e1
    cases e1
    obtain ⟨i, h1, h2⟩ := bnd1 h
    obtain ⟨js, h3, h4⟩ := map1 h2
    exact ⟨_, _, i, js, rfl, h1, h3, h4.symm⟩
  · cases h
theorem trTs_nil {is : List Nat} (h : trTs c sc [] = some is) : is = [] := by
  unfold trTs at h
  cases h
  rfl
theorem names_of (env : Env) (es : List Expr) : ∀ {is : List Nat}, trTs c sc es = some is → (assignEach es env).length = is.length ∧ (assignEach es env).findIdx? (·.1) = none := by
  induction es with
  | nil => intro is h; rw [trTs_nil h]; exact ⟨rfl, rfl⟩
  | cons e r ih =>
    intro is h
    obtain ⟨x, p, i, js, rfl, h1, h3, rfl⟩ := trTs_cons h
    obtain ⟨g1, g2⟩ := ih h3
    refine ⟨congrArg (· + 1) g1, ?_⟩
    show List.findIdx? (·.1) ((false, assign (.Name x p) env) :: assignEach r env) = none
    rw [List.findIdx?_cons, g2]
    rfl
theorem pgs_of (R : XR X w c C sc) (es : List Expr) : ∀ {is : List Nat}, trTs c sc es = some is → PGs X es (gNames is) := by
  induction es with
  | nil => intro is h; rw [trTs_nil h]; exact pgs_nil
  | cons e r ih =>
    intro is h
    obtain ⟨x, p, i, js, rfl, h1, h3, rfl⟩ := trTs_cons h
    obtain ⟨g1, g2, g3, _⟩ := loc_of R h1
    exact pgs_cons (pg_name R.nd g1 g2 g3) (ih h3)
theorem pg_of (R : XR X w c C sc) {tg : Expr} {t : T} (h : trT c sc tg = some t) : PG X tg (gT X.K t) := by
  unfold trT at h
  split at h
  · obtain ⟨i, h1, rfl⟩ := map1 h
    obtain ⟨g1, g2, g3, _⟩ := loc_of R h1
    exact pg_name R.nd g1 g2 g3
  · obtain ⟨is, h1, rfl⟩ := map1 h
    obtain ⟨g1, g2⟩ := names_of X.env _ h1
    exact pg_tup R.calm (pgs_of R _ h1) g1 g2
  · cases h
theorem own_in (es : List Expr) : ∀ {is : List Nat}, trTs c sc es = some is → ∀ i ∈ is, i ∉ c.keep ∧ ∃ x, slotOf c x = some i := by
  induction es with
  | nil => intro is h; rw [trTs_nil h]; exact fun i z => absurd z (by simp)
  | cons e r ih =>
    intro is h
    obtain ⟨x, p, i, js, rfl, h1, h3, rfl⟩ := trTs_cons h
    intro j z
    rcases List.mem_cons.mp z with rfl | z
    · unfold locIn at h1
      have k : ((slotOf c x).bind fun i => if c.keep.contains i then none else some i) = some j := by
        split at h1
        · exact h1
        · exact h1
        · cases h1
      obtain ⟨l, h4, h5⟩ := bnd1 k
      split at h5
      case isTrue => cases h5
      rename_i hn
      cases h5
      exact ⟨fun z => hn (List.contains_iff_mem.mpr z), x, h4⟩
    · exact ih h3 j z
theorem own_T {tg : Expr} {t : T} (h : trT c sc tg = some t) : ∀ i ∈ t.own, i ∉ c.keep ∧ ∃ x, slotOf c x = some i := by
  unfold trT at h
  split at h
  · rename_i x p
    obtain ⟨i, h1, rfl⟩ := map1 h
    have h0 : trTs c sc [.Name x p] = some [i] := by
      unfold trTs
      rw [h1]; rfl
    exact own_in _ h0
  · obtain ⟨is, h1, rfl⟩ := map1 h
    exact own_in _ h1
  · cases h
theorem blk_of (R : XR X w c C sc) {scope : Scope} {tg : Expr} {t : T} (h : trT c scope tg = some t) (ho : ownOk c sc scope t.own = true) : ∃ own : List (Str × Nat), own.map (·.2) = t.own ∧ BlkOk X.N X.env.scope scope own := by
  have hi := own_T h
  have ex : ∀ (is : List Nat), (∀ i ∈ is, ∃ x, slotOf c x = some i) → ∃ own : List (Str × Nat), own.map (·.2) = is ∧ (∀ p ∈ own, slotOf c p.1 = some p.2) := by
    intro is
    induction is with
    | nil => exact fun _ => ⟨[], rfl, fun _ z => absurd z (by simp)⟩
    | cons i is ih =>
      intro hh
      obtain ⟨x, hx⟩ := hh i (List.mem_cons_self ..)
      obtain ⟨own, h1, h2⟩ := ih fun j z => hh j (List.mem_cons_of_mem _ z)
      exact ⟨(x, i) :: own, by rw [List.map_cons, h1], fun p z => (List.mem_cons.mp z).elim (fun e => by rw [e]; exact hx) (h2 p)⟩
  obtain ⟨own, h1, h2⟩ := ex t.own fun i z => (hi i z).2
  unfold ownOk at ho
  rw [Bool.and_eq_true, beq_iff_eq, List.all_eq_true] at ho
  obtain ⟨hk, hall⟩ := ho
  have inj : ∀ {x y : Str} {i : Nat}, slotOf c x = some i → slotOf c y = some i → x = y := fun {x y i} hx hy => by
    have e1 := slot_N R hx
    have e2 := slot_N R hy
    rw [e1] at e2
    exact Option.some.inj e2
  have mem : ∀ (x : Str) (i : Nat), slotOf c x = some i → t.own.contains i = true → x ∈ own.map (·.1) := fun x i hx hc => by
    have hc := List.contains_iff_mem.mp hc
    rw [← h1] at hc
    obtain ⟨p, hp, e⟩ := List.mem_map.mp hc
    have := h2 p hp
    rw [e] at this
    rw [inj hx this]
    exact List.mem_map_of_mem hp
  have nomem : ∀ x : Str, slotOf c x = none → x ∉ X.N := fun x hx z => by
    unfold slotOf at hx
    rw [R.N] at z
    have := List.findIdx?_eq_none_iff.mp hx x z
    simp at this
  have each := fun y (hy : y ∈ scope.names) => by
    have := hall y hy
    rw [Bool.and_eq_true, beq_iff_eq] at this
    exact this
  refine ⟨own, h1, hk, fun y hy => (each y hy).1, fun p hp => slot_N R (h2 p hp), fun y hy e => ?_, fun y hy e => ?_⟩
  · have q := (each y hy).2
    rw [e] at q
    cases hl : sc.names.lookup y.1 with
    | none => rw [hl] at q; cases q
    | some k =>
      rw [hl] at q
      rcases R.scope y.1 k hl with z | ⟨_, z⟩
      · cases k <;> first | exact .inl z | exact .inr z | cases q
      · exact .inl z
  · have q := (each y hy).2
    have q : (match slotOf c y.1 with | none => true | some i => t.own.contains i) = true := by
      rcases e with e | e <;> (rw [e] at q; exact q)
    cases hs : slotOf c y.1 with
    | none => exact .inr (nomem y.1 hs)
    | some i => rw [hs] at q; exact .inl (mem y.1 i hs q)
end
end Nv
end
section
set_option Elab.async false
set_option linter.all false
set_option maxRecDepth 100000
set_option maxHeartbeats 400000
namespace Nv
open PySem PySem.Spec PyProof.Rows L2

section
variable {X : Cx} {w : World} {c : Tc} {C : Orc} {sc : Scope}
/-- what a display's pairs do -/
structure DctOk (X : Cx) (w : World) (C : Orc) (ks : List (Option Expr)) (vs : List Expr) (l : L) : Prop where
  ex : ∃ trs, (∀ pos, PPs X pos ks vs trs) ∧ ∀ (σ : St) (H : Hp) (Q : List (V × V) → Hp → Prop) (F : Addr → Prop) (st : Sg) (ds : List PyData) (st' : Sg), Fok F H → Rl F w H σ st → evF C l st = some (ds, st') →
    (∀ ps F' H', Aft F w H σ st F' H' st' → PR F' w H' ps ds → Q ps H') → tPairs trs σ H Q
structure SE (w : World) (c : Tc) (C : Orc) (n : Nat) (X : Cx) (sc : Scope) : Prop where
  e : ∀ e e', trE c n sc e = some e' → PE X e (tS w (ev C e'))
  and_ : ∀ es pos e', trAnd c n sc es = some e' → PE X (.BoolOp .And es pos) (tS w (ev C e'))
  or_ : ∀ es pos e', trOr c n sc es = some e' → PE X (.BoolOp .Or es pos) (tS w (ev C e'))
  l : ∀ es l, trL c n sc es = some l → PA X es (tL w (evL C l)) ∧ PA X es (tF w (evF C l)) ∧ PA X es (tP w (evP C l)) ∧ Pl es
  a : ∀ ios es a, trA c n sc ios es = some a → PA X es (tA w (evA C a)) ∧ Pl es ∧ ∀ st p, evA C a st = some p → p.1.length = ios.length
  d : ∀ ks vs l, trD c n sc ks vs = some l → DctOk X w C ks vs l
  o : ∀ e o, trO c n sc e = some o → PO X e (tO w (evO C o))
  b : ∀ e b, trB c n sc e = some b → PT X e (tB' w (evB C b))
  andB : ∀ es pos b, trAndB c n sc es = some b → PW X (.BoolOp .And es pos) (tB' w (evB C b))
  orB : ∀ es pos b, trOrB c n sc es = some b → PW X (.BoolOp .Or es pos) (tB' w (evB C b))
  if_ : ∀ es b, trIf c n sc es = some b → PTs X es (tB' w (evB C b))
  t : ∀ e e', trE c n sc e = some e' → (∀ a p, e ≠ .UnaryOp .Not a p) → (∀ o es p, e ≠ .BoolOp o es p) → (∀ t x y p, e ≠ .IfExp t x y p) → PT X e (tB' w (evB C (.of e')))
  i : ∀ tg e i, trI c n sc e = some i → PI X tg e (tI w (evI C i)) ∧ ∀ x, foldedSetIterable e X.env x = pure x
theorem se_zero : SE w c C 0 X sc := ⟨nofun, nofun, nofun, nofun, nofun, nofun, nofun, nofun, nofun, nofun, nofun, nofun, nofun⟩
theorem pt_pw {e : Expr} {t : TT} (h : PW X e t) : PT X e t := ⟨fun pins s σ H Q I q => h.run _ pins s σ H Q I q⟩
theorem and_one {e : Expr} {pos : Pos} {t : TE} (h : PE X e t) : PE X (.BoolOp .And [e] pos) t := ⟨fun pins s σ H Q I q => h.run pins s σ H Q I q⟩
theorem or_one {e : Expr} {pos : Pos} {t : TE} (h : PE X e t) : PE X (.BoolOp .Or [e] pos) t := ⟨fun pins s σ H Q I q => h.run pins s σ H Q I q⟩
theorem se_l {n : Nat} (R : XR X w c C sc) (ih : SE w c C n X sc) : ∀ es l, trL c (n + 1) sc es = some l → PA X es (tL w (evL C l)) ∧ PA X es (tF w (evF C l)) ∧ PA X es (tP w (evP C l)) ∧ Pl es := by
  intro es l h
  cases es with
  | nil => cases h; exact ⟨a_nilL, a_nilF, a_nilP, pl_nil⟩
  | cons e r =>
    obtain ⟨e', h1, h2⟩ := bnd1 (show (trE c n sc e).bind _ = some l from h)
    obtain ⟨r', h3, rfl⟩ := map1 h2
    obtain ⟨g1, g2, g3, g4⟩ := ih.l r r' h3
    exact ⟨a_consL (ih.e e e' h1) g1 (star_of h1 _ _), a_consF (ih.e e e' h1) g2 (star_of h1 _ _), a_consP (ih.e e e' h1) g3 (star_of h1 _ _), pl_cons h1 g4⟩
theorem se_d {n : Nat} (R : XR X w c C sc) (ih : SE w c C n X sc) : ∀ ks vs l, trD c (n + 1) sc ks vs = some l → DctOk X w C ks vs l := by
  intro ks vs l h
  match ks, vs, h with
  | [], [], h =>
    cases h
    refine ⟨[], fun pos => pps_nil, fun σ H Q F st ds st' fo rl h q => ?_⟩
    cases h
    exact q [] F H (.refl fo rl) .nil
  | some k :: ks, v :: vs, h =>
    obtain ⟨k', h1, h⟩ := bnd1 (show (trE c n sc k).bind _ = some l from h)
    obtain ⟨v', h2, h⟩ := bnd1 h
    obtain ⟨r, h3, rfl⟩ := map1 h
    obtain ⟨trs, g1, g2⟩ := (ih.d ks vs r h3).ex
    refine ⟨(tK w (ev C k'), tK w (ev C v')) :: trs, fun pos => pps_cons (r_keep (ih.e k k' h1)) (r_keep (ih.e v v' h2)) (g1 pos), fun σ H Q F st ds st' fo rl h q => ?_⟩
    obtain ⟨p1, e1, h⟩ := bnd1 (show (ev C k' st).bind _ = some (ds, st') from h)
    obtain ⟨u1, e2, h⟩ := bnd1 h
    obtain ⟨q1, e3, h⟩ := map1 h
    obtain ⟨p2, e4, e3⟩ := bnd1 (show (ev C v' u1.2).bind _ = some q1 from e3)
    obtain ⟨u2, e5, e3⟩ := bnd1 e3
    obtain ⟨q2, e6, e3⟩ := map1 e3
    subst e3
    cases h
    exact ⟨F, st, u1.1, u1.2, fo, rl, by rw [e1]; exact e2, fun x F1 H1 A1 r1 => ⟨F1, u1.2, u2.1, u2.2, A1.fo, A1.rl, by rw [e4]; exact e5, fun y F2 H2 A2 r2 => g2 σ H2 _ F2 u2.2 q2.1 q2.2 A2.fo A2.rl e6 fun ps F3 H3 A3 r3 =>
      q ((x, y) :: ps) F3 H3 ((A1.trans A2).trans A3) (.cons ((r1.stay (A2.keep A1.fo A1.rl)).stay (A3.keep A2.fo A2.rl)) (r2.stay (A3.keep A2.fo A2.rl)) r3)⟩⟩
theorem se_and {n : Nat} (R : XR X w c C sc) (ih : SE w c C n X sc) : ∀ es pos e', trAnd c (n + 1) sc es = some e' → PE X (.BoolOp .And es pos) (tS w (ev C e')) := by
  intro es pos e' h
  match es, h with
  | [e], h => exact and_one (ih.e e e' h)
  | e :: b :: r, h =>
    obtain ⟨x, h1, h2⟩ := bnd1 (show (trE c n sc e).bind _ = some e' from h)
    obtain ⟨y, h3, rfl⟩ := map1 h2
    exact r_and (ih.e e x h1) (ih.and_ (b :: r) pos y h3)
theorem se_or {n : Nat} (R : XR X w c C sc) (ih : SE w c C n X sc) : ∀ es pos e', trOr c (n + 1) sc es = some e' → PE X (.BoolOp .Or es pos) (tS w (ev C e')) := by
  intro es pos e' h
  match es, h with
  | [e], h => exact or_one (ih.e e e' h)
  | e :: b :: r, h =>
    obtain ⟨x, h1, h2⟩ := bnd1 (show (trE c n sc e).bind _ = some e' from h)
    obtain ⟨y, h3, rfl⟩ := map1 h2
    exact r_or (ih.e e x h1) (ih.or_ (b :: r) pos y h3)
theorem se_andB {n : Nat} (R : XR X w c C sc) (ih : SE w c C n X sc) : ∀ es pos e', trAndB c (n + 1) sc es = some e' → PW X (.BoolOp .And es pos) (tB' w (evB C e')) := by
  intro es pos e' h
  match es, h with
  | [e], h => exact t_and1 (ih.b e e' h)
  | e :: b :: r, h =>
    obtain ⟨x, h1, h2⟩ := bnd1 (show (trB c n sc e).bind _ = some e' from h)
    obtain ⟨y, h3, rfl⟩ := map1 h2
    exact t_and (ih.b e x h1) (ih.andB (b :: r) pos y h3)
theorem se_orB {n : Nat} (R : XR X w c C sc) (ih : SE w c C n X sc) : ∀ es pos e', trOrB c (n + 1) sc es = some e' → PW X (.BoolOp .Or es pos) (tB' w (evB C e')) := by
  intro es pos e' h
  match es, h with
  | [e], h => exact t_or1 (ih.b e e' h)
  | e :: b :: r, h =>
    obtain ⟨x, h1, h2⟩ := bnd1 (show (trB c n sc e).bind _ = some e' from h)
    obtain ⟨y, h3, rfl⟩ := map1 h2
    exact t_or (ih.b e x h1) (ih.orB (b :: r) pos y h3)
theorem se_o {n : Nat} (R : XR X w c C sc) (ih : SE w c C n X sc) : ∀ e o, trO c (n + 1) sc e = some o → PO X e (tO w (evO C o)) := by
  intro e o h
  cases e with
  | none => cases h; exact o_no
  | some e =>
    obtain ⟨x, h1, rfl⟩ := map1 (show (trE c n sc e).map .so = some o from h)
    exact o_so (ih.e e x h1)
theorem yes_t : PTs X [] (tB' w fun st => some (true, st)) := ⟨fun pins s σ H Q I h => pts_nil.run pins s σ H Q I (by
  obtain ⟨F, st, b, st', fo, rl, hf, q⟩ := h
  cases hf
  exact q F H (.refl fo rl))⟩
theorem se_if {n : Nat} (R : XR X w c C sc) (ih : SE w c C n X sc) : ∀ es b, trIf c (n + 1) sc es = some b → PTs X es (tB' w (evB C b)) := by
  intro es b h
  match es, h with
  | [], h => cases h; exact yes_t
  | [e], h => exact pts_one (ih.b e b h)
theorem se_a {n : Nat} (R : XR X w c C sc) (ih : SE w c C n X sc) : ∀ ios es a, trA c (n + 1) sc ios es = some a → PA X es (tA w (evA C a)) ∧ Pl es ∧ ∀ st p, evA C a st = some p → p.1.length = ios.length := by
  intro ios es a h
  match ios, es, h with
  | [], [], h => cases h; exact ⟨a_nilA, pl_nil, fun st p e => by cases e; rfl⟩
  | false :: ios, e :: r, h =>
    obtain ⟨x, h1, h2⟩ := bnd1 (show (trE c n sc e).bind _ = some a from h)
    obtain ⟨y, h3, rfl⟩ := map1 h2
    obtain ⟨g1, g2, g3⟩ := ih.a ios r y h3
    refine ⟨a_consA (ih.e e x h1) g1 (star_of h1 _ _), pl_cons h1 g2, fun st p hp => ?_⟩
    obtain ⟨p1, e1, hp⟩ := bnd1 (show (ev C x st).bind _ = some p from hp)
    obtain ⟨u, e2, hp⟩ := bnd1 hp
    obtain ⟨q, e3, rfl⟩ := map1 hp
    exact congrArg (· + 1) (g3 _ _ e3)
  | true :: ios, .Name x p0 :: r, h =>
    obtain ⟨i, h1, h2⟩ := bnd1 (show (varIn c sc x).bind _ = some a from h)
    obtain ⟨y, h3, rfl⟩ := map1 h2
    obtain ⟨g1, g2, g3⟩ := ih.a ios r y h3
    obtain ⟨k1, k2, k3⟩ := var_of R h1
    refine ⟨a_io rfl k1 k2 k3 g1 rfl, fun env => by show (false, _) :: starEach r env = _; rw [g2 env]; rfl, fun st p hp => ?_⟩
    obtain ⟨d, e1, hp⟩ := bnd1 (show (ownOf (sget st i)).bind _ = some p from hp)
    obtain ⟨q, e3, rfl⟩ := map1 hp
    exact congrArg (· + 1) (g3 _ _ e3)
theorem range_of {e : Expr} {as : List Expr} (h : isRange e = some as) : ∃ p pos, e = .Call (.Name "range" p) as [] pos := by
  unfold isRange at h
  split at h
  · split at h
    · rename_i hx
      rw [beq_iff_eq] at hx
      cases h
      subst hx
      exact ⟨_, _, rfl⟩
    · cases h
  · cases h
theorem se_i {n : Nat} (R : XR X w c C sc) (ih : SE w c C n X sc) : ∀ tg e i, trI c (n + 1) sc e = some i → PI X tg e (tI w (evI C i)) ∧ ∀ x, foldedSetIterable e X.env x = pure x := by
  intro tg e i h
  have hm := R.mg "range" (by decide +kernel)
  cases hr : isRange e with
  | none =>
    have h : (match isRange e with | some [a] => if globIn sc ("range" : Str) then (trE c n sc a).map I.rng1 else none | some [a, b] => if globIn sc ("range" : Str) then (trE c n sc a).bind fun a' => (trE c n sc b).map fun b' => I.rng2 a' b' else none | some [a, b, d] => if globIn sc ("range" : Str) then (trE c n sc a).bind fun a' => (trE c n sc b).bind fun b' => (trE c n sc d).map fun d' => I.rng3 a' b' d' else none | some _ => none | none => (trE c n sc e).map I.of) = some i := h
    rw [hr] at h
    obtain ⟨x, h1, rfl⟩ := map1 h
    exact ⟨i_of (ih.e e x h1), fold_id h1 _⟩
  | some as =>
    obtain ⟨p, pos, rfl⟩ := range_of hr
    have h : (match isRange (.Call (.Name "range" p) as [] pos) with | some [a] => if globIn sc ("range" : Str) then (trE c n sc a).map I.rng1 else none | some [a, b] => if globIn sc ("range" : Str) then (trE c n sc a).bind fun a' => (trE c n sc b).map fun b' => I.rng2 a' b' else none | some [a, b, d] => if globIn sc ("range" : Str) then (trE c n sc a).bind fun a' => (trE c n sc b).bind fun b' => (trE c n sc d).map fun d' => I.rng3 a' b' d' else none | some _ => none | none => (trE c n sc (.Call (.Name "range" p) as [] pos)).map I.of) = some i := h
    rw [hr] at h
    match as, h with
    | [a], h =>
      have h : (if globIn sc ("range" : Str) then (trE c n sc a).map I.rng1 else none) = some i := h
      split at h
      · rename_i hg
        obtain ⟨x, h1, rfl⟩ := map1 h
        exact ⟨i_rng1 (glob_of R hg).1 hm (ih.e a x h1) (star_of h1 _ _), fun _ => rfl⟩
      · cases h
    | [a, b], h =>
      have h : (if globIn sc ("range" : Str) then (trE c n sc a).bind fun a' => (trE c n sc b).map fun b' => I.rng2 a' b' else none) = some i := h
      split at h
      · rename_i hg
        obtain ⟨x, h1, h2⟩ := bnd1 h
        obtain ⟨y, h3, rfl⟩ := map1 h2
        exact ⟨i_rng2 (glob_of R hg).1 hm (ih.e a x h1) (ih.e b y h3) (by rw [star_of h1, star_of h3]; rfl) (star_of h3 _ _), fun _ => rfl⟩
      · cases h
    | [a, b, d], h =>
      have h : (if globIn sc ("range" : Str) then (trE c n sc a).bind fun a' => (trE c n sc b).bind fun b' => (trE c n sc d).map fun d' => I.rng3 a' b' d' else none) = some i := h
      split at h
      · rename_i hg
        obtain ⟨x, h1, h2⟩ := bnd1 h
        obtain ⟨y, h3, h4⟩ := bnd1 h2
        obtain ⟨z, h5, rfl⟩ := map1 h4
        exact ⟨i_rng3 (glob_of R hg).1 hm (ih.e a x h1) (ih.e b y h3) (ih.e d z h5) (star_of h1 _ _) (star_of h3 _ _) (star_of h5 _ _) (by rw [star_of h3, star_of h5]; rfl), fun _ => rfl⟩
      · cases h
end
end Nv
end
section
set_option Elab.async false
set_option linter.all false
set_option maxRecDepth 100000
set_option maxHeartbeats 400000
namespace Nv
open PySem PySem.Spec PyProof.Rows L2

section
variable {X : Cx} {w : World} {c : Tc} {C : Orc} {sc : Scope} {n : Nat}
theorem tr_sub {a i : Expr} {pos : Pos} (h : ∀ lo hi p, i ≠ .Slice lo hi none p) : trE c (n + 1) sc (.Subscript a i pos) = (trE c n sc a).bind fun a' => (trE c n sc i).map fun i' => .idx a' i' := by
  cases i with
  | Slice lo hi st p =>
    cases st with
    | none => exact absurd rfl (h lo hi p)
    | some s => rfl
  | _ => rfl
theorem se_call (R : XR X w c C sc) (ih : SE w c C n X sc) (hl : ∀ es : List Expr, ∀ l, trL c n sc es = some l → es.length = es.length) {x : Str} {p0 pos : Pos} {as : List Expr} {e' : E} (h : trE c (n + 1) sc (.Call (.Name x p0) as [] pos) = some e') : PE X (.Call (.Name x p0) as [] pos) (tS w (ev C e')) := by
  have hu := R.u
  have h : (if globIn sc x then match fnIx c x with
        | some (f, ios) => if ios.length == as.length then (trA c n sc ios as).map (.call f) else none
        | none => match isIsi x as with
          | some (a, y) => if globIn sc y then (tyOf y).bind fun t => (trE c n sc a).map fun a' => .isi a' t else none
          | none => match bltOf x as.length with
            | some b => (trL c n sc as).map (.blt b)
            | none => none
      else none) = some e' := h
  split at h
  case isFalse => cases h
  rename_i hg
  obtain ⟨g1, g2⟩ := glob_of R hg
  cases hf : fnIx c x with
  | some fi =>
    obtain ⟨f, ios⟩ := fi
    rw [hf] at h
    have h : (if ios.length == as.length then (trA c n sc ios as).map (.call f) else none) = some e' := h
    split at h
    case isFalse => cases h
    rename_i hlen
    rw [beq_iff_eq] at hlen
    obtain ⟨l, h1, rfl⟩ := map1 h
    obtain ⟨k1, k2, k3⟩ := ih.a ios as l h1
    have G := fn_of R hf
    rw [hlen] at G
    cases as with
    | nil =>
      have e0 : ios = [] := List.eq_nil_of_length_eq_zero hlen
      subst e0
      cases n with
      | zero => cases h1
      | succ m => cases h1; exact r_call0 G g1 g2
    | cons a r => exact r_call G g1 g2 k1 k2 (fun env => by
        have := k2 env
        cases a with
        | Starred v p => have z := congrArg (fun l => l.head?.map (·.1)) this; cases z
        | _ => exact (List.cons.inj this).2) fun st p hp => by rw [k3 st p hp, hlen]
  | none =>
    rw [hf] at h
    have h : (match isIsi x as with
          | some (a, y) => if globIn sc y then (tyOf y).bind fun t => (trE c n sc a).map fun a' => .isi a' t else none
          | none => match bltOf x as.length with
            | some b => (trL c n sc as).map (.blt b)
            | none => none) = some e' := h
    cases hi : isIsi x as with
    | some ay =>
      obtain ⟨a, y⟩ := ay
      rw [hi] at h
      have h : (if globIn sc y then (tyOf y).bind fun t => (trE c n sc a).map fun a' => .isi a' t else none) = some e' := h
      split at h
      case isFalse => cases h
      rename_i hgy
      obtain ⟨t, h1, h2⟩ := bnd1 h
      obtain ⟨a', h3, rfl⟩ := map1 h2
      unfold isIsi at hi
      split at hi
      case isFalse => cases hi
      rename_i hx
      rw [beq_iff_eq] at hx
      subst hx
      split at hi
      case h_2 => cases hi
      cases hi
      exact r_isi R.hw g1 (R.mg _ (by decide +kernel)) h1 (glob_of R hgy).1 (R.mg _ (ty_mem h1)) (pl_cons h3 fun _ => rfl) (fun _ => rfl) (ih.e _ _ h3)
    | none =>
      rw [hi] at h
      have h : (match bltOf x as.length with
            | some b => (trL c n sc as).map (.blt b)
            | none => none) = some e' := h
      cases hb : bltOf x as.length with
      | none => rw [hb] at h; cases h
      | some b =>
        rw [hb] at h
        obtain ⟨l, h1, rfl⟩ := map1 h
        obtain ⟨k1, k2, k3, k4⟩ := ih.l as l h1
        cases as with
        | nil => exact absurd rfl (blt_boot hb).2.2.2.1
        | cons a r => exact r_blt R.hw R.calm (by omega) g1 (R.mg _ (blt_mem hb)) hb g2 k4 (fun env => by
            have := k4 env
            cases a with
            | Starred v p => have z := congrArg (fun l => l.head?.map (·.1)) this; cases z
            | _ => exact (List.cons.inj this).2) k1
theorem pl_tail {a : Expr} {r : List Expr} (k : Pl (a :: r)) : Pl r := fun env => by
  have := k env
  cases a with
  | Starred v p => have z := congrArg (fun l => l.head?.map (·.1)) this; cases z
  | _ => exact (List.cons.inj this).2
theorem se_meth (R : XR X w c C sc) (ih : SE w c C n X sc) {x m : Str} {p ap cp : Pos} {as : List Expr} {e' : E} (hfew : as.length < 30)
    (h : trE c (n + 1) sc (.Call (.Attribute (.Name x p) m ap) as [] cp) = some e') : PE X (.Call (.Attribute (.Name x p) m ap) as [] cp) (tS w (ev C e')) := by
  have hu := R.u
  have h : (if ap.endLine == cp.line then match mutOf m as.length with
        | some u => match varIn c sc x with
          | some i => (trL c n sc as).map (.mut u i)
          | none => none
        | none => match mthOf m as.length with
          | some u => (trE c n sc (.Name x p)).bind fun a' => (trL c n sc as).map fun l => .mth u a' l
          | none => none
      else none) = some e' := h
  split at h
  case isFalse => cases h
  rename_i hline
  cases hm : mutOf m as.length with
  | some u =>
    rw [hm] at h
    have h : (match varIn c sc x with
          | some i => (trL c n sc as).map (E.mut u i)
          | none => none) = some e' := h
    cases hv : varIn c sc x with
    | none => rw [hv] at h; cases h
    | some i =>
      rw [hv] at h
      obtain ⟨l, h1, rfl⟩ := map1 h
      obtain ⟨k1, k2, k3, k4⟩ := ih.l as l h1
      obtain ⟨v1, v2, v3⟩ := var_of R hv
      obtain ⟨rfl, hk⟩ := mut_name hm
      cases as with
      | nil =>
        rcases hk with ⟨_, rfl⟩ | hk
        · cases n with
          | zero => cases h1
          | succ m =>
            cases h1
            exact r_mut0 v1 v2 v3 hline
        · exact absurd rfl hk
      | cons a r =>
        cases u with
        | extend => exact r_mutX v1 v2 v3 hline k1 k4 (pl_tail k4) hfew
        | append => exact r_mut nofun nofun v1 v2 v3 hline k2 k4 (pl_tail k4) hfew
        | pop0 => exact r_mut nofun nofun v1 v2 v3 hline k2 k4 (pl_tail k4) hfew
        | pop1 => exact r_mut nofun nofun v1 v2 v3 hline k2 k4 (pl_tail k4) hfew
        | remove =>
          exfalso
          unfold mutOf at hm
          split at hm
          · cases hm
          · split at hm
            · cases hm
            · split at hm
              · cases hm
              · split at hm <;> cases hm
  | none =>
    rw [hm] at h
    have h : (match mthOf m as.length with
          | some u => (trE c n sc (.Name x p)).bind fun a' => (trL c n sc as).map fun l => E.mth u a' l
          | none => none) = some e' := h
    cases ho : mthOf m as.length with
    | none => rw [ho] at h; cases h
    | some u =>
      rw [ho] at h
      obtain ⟨a', h1, h2⟩ := bnd1 h
      obtain ⟨l, h3, rfl⟩ := map1 h2
      obtain ⟨k1, k2, k3, k4⟩ := ih.l as l h3
      obtain ⟨rfl, hk⟩ := mth_name ho
      cases as with
      | nil => exact absurd rfl hk
      | cons a r => exact r_mth R.hw (by omega) (ih.e _ _ h1) rfl hline k2 k4 (pl_tail k4) hfew
theorem mut_len {m : Str} {k : Nat} {u : Mut} (h : mutOf m k = some u) : k < 30 := by
  unfold mutOf at h
  split at h
  · rename_i hx; rw [Bool.and_eq_true, beq_iff_eq, beq_iff_eq] at hx; omega
  · split at h
    · rename_i hx; rw [Bool.and_eq_true, beq_iff_eq, beq_iff_eq] at hx; omega
    · split at h
      · rename_i hx; rw [Bool.and_eq_true, beq_iff_eq, beq_iff_eq] at hx; omega
      · split at h
        · rename_i hx; rw [Bool.and_eq_true, beq_iff_eq, beq_iff_eq] at hx; omega
        · cases h
theorem mth_len {m : Str} {k : Nat} {u : Mth} (h : mthOf m k = some u) : k < 30 := by
  unfold mthOf at h
  split at h
  · rename_i hx; rw [Bool.and_eq_true, beq_iff_eq, beq_iff_eq] at hx; omega
  · split at h
    · rename_i hx; rw [Bool.and_eq_true, beq_iff_eq, beq_iff_eq] at hx; omega
    · split at h
      · rename_i hx; rw [Bool.and_eq_true, beq_iff_eq, beq_iff_eq] at hx; omega
      · cases h
theorem meth_len {x m : Str} {p ap cp : Pos} {as : List Expr} {e' : E} (h : trE c (n + 1) sc (.Call (.Attribute (.Name x p) m ap) as [] cp) = some e') : as.length < 30 := by
  have h : (if ap.endLine == cp.line then match mutOf m as.length with
        | some u => match varIn c sc x with
          | some i => (trL c n sc as).map (.mut u i)
          | none => none
        | none => match mthOf m as.length with
          | some u => (trE c n sc (.Name x p)).bind fun a' => (trL c n sc as).map fun l => .mth u a' l
          | none => none
      else none) = some e' := h
  split at h
  case isFalse => cases h
  cases hm : mutOf m as.length with
  | some u => exact mut_len hm
  | none =>
    rw [hm] at h
    have h : (match mthOf m as.length with
          | some u => (trE c n sc (.Name x p)).bind fun a' => (trL c n sc as).map fun l => E.mth u a' l
          | none => none) = some e' := h
    cases ho : mthOf m as.length with
    | none => rw [ho] at h; cases h
    | some u => exact mth_len ho
theorem se_lc (R : XR X w c C sc) (ih : SE w c C n X sc) (ihb : ∀ X sc, XR X w c C sc → SE w c C n X sc) {elt t it : Expr} {ifs : List Expr} {scope : Scope} {pos : Pos} {e' : E} (h : trE c (n + 1) sc (.ListComp elt [⟨t, it, ifs, 0⟩] scope pos) = some e') :
    ∃ t' i' b' x', e' = .lc x' t' i' b' ∧ (∀ x, foldedSetIterable it X.env x = pure x) ∧ PI X t it (tI w (evI C i')) ∧ (∃ own : List (Str × Nat), own.map (·.2) = t'.own ∧ BlkOk X.N X.env.scope scope own) ∧
      (∀ (s : Shared) (H : Hp) (C' : Addr) (cl : List (Str × Addr)) (fp : List Addr), PG (X.blk s H scope (compEnvC scope cl C' X.env) fp) t (gT X.K t')) ∧
      (∀ (s : Shared) (H : Hp) (C' : Addr) (cl : List (Str × Addr)) (fp : List Addr), PTs (X.blk s H scope (compEnvC scope cl C' X.env) fp) ifs (tB' w (evB C b'))) ∧
      (∀ (s : Shared) (H : Hp) (C' : Addr) (cl : List (Str × Addr)) (fp : List Addr), PE (X.blk s H scope (compEnvC scope cl C' X.env) fp) elt (tS w (ev C x'))) := by
  have h : ((trI c n sc it).bind fun it' => (trT c scope t).bind fun t' => (trIf c n scope ifs).bind fun b => (trE c n scope elt).bind fun e' =>
        if ownOk c sc scope t'.own then some (E.lc e' t' it' b) else none) = some e' := h
  obtain ⟨i', h1, h⟩ := bnd1 h
  obtain ⟨t', h2, h⟩ := bnd1 h
  obtain ⟨b', h3, h⟩ := bnd1 h
  obtain ⟨x', h4, h⟩ := bnd1 h
  split at h
  case isFalse => cases h
  rename_i ho
  cases h
  refine ⟨t', i', b', x', rfl, (ih.i t it i' h1).2, (ih.i t it i' h1).1, blk_of R h2 ho, fun s H C' cl fp => pg_of (R.blk s H C' cl fp) h2, fun s H C' cl fp => (ihb _ scope (R.blk s H C' cl fp)).if_ ifs b' h3, fun s H C' cl fp => (ihb _ scope (R.blk s H C' cl fp)).e elt x' h4⟩
theorem se_e (R : XR X w c C sc) (ih : SE w c C n X sc) (ihb : ∀ X sc, XR X w c C sc → SE w c C n X sc) : ∀ e e', trE c (n + 1) sc e = some e' → PE X e (tS w (ev C e')) := by
  have hu := R.u
  intro e e' h
  cases e with
  | Name x pos =>
    obtain ⟨i, h1, rfl⟩ := map1 (show (varIn c sc x).map E.var = some e' from h)
    obtain ⟨g1, g2, g3⟩ := var_of R h1
    exact r_var g1 g2 g3
  | Constant k j pos =>
    obtain ⟨d, h1, rfl⟩ := map1 (show (constOf k).map E.cst = some e' from h)
    exact r_cst h1
  | BinOp a op b pos =>
    obtain ⟨o, h0, h⟩ := bnd1 (show (bopOf op).bind _ = some e' from h)
    obtain ⟨a', h1, h⟩ := bnd1 h
    obtain ⟨b', h2, rfl⟩ := map1 h
    rw [← opOf_bopOf h0]
    exact r_bin o (ih.e a a' h1) (ih.e b b' h2)
  | UnaryOp op a pos =>
    cases op with
    | USub => obtain ⟨a', h1, rfl⟩ := map1 (show (trE c n sc a).map E.neg = some e' from h); exact r_neg (ih.e a a' h1)
    | Not => obtain ⟨a', h1, rfl⟩ := map1 (show (trE c n sc a).map E.not1 = some e' from h); exact r_not (ih.e a a' h1)
    | _ => cases h
  | BoolOp op es pos =>
    cases op with
    | And => exact ih.and_ es pos e' h
    | Or => exact ih.or_ es pos e' h
  | Compare a ops bs pos =>
    match ops, bs, h with
    | [o], [b], h =>
      obtain ⟨a', h1, h⟩ := bnd1 (show (trE c n sc a).bind _ = some e' from h)
      obtain ⟨b', h2, rfl⟩ := map1 h
      have := r_cmp (pos := pos) R.hw (by omega) (copOf o) (ih.e a a' h1) (ih.e b b' h2) (noset h2 _)
      rw [cOf_copOf] at this
      exact this
    | [o1, o2], [b, d], h =>
      obtain ⟨a', h1, h⟩ := bnd1 (show (trE c n sc a).bind _ = some e' from h)
      obtain ⟨b', h2, h⟩ := bnd1 h
      obtain ⟨d', h3, rfl⟩ := map1 h
      have := r_chn (pos := pos) R.hw (by omega) (copOf o1) (copOf o2) (ih.e a a' h1) (ih.e b b' h2) (ih.e d d' h3) (by show behindInMarks _ d = false; exact noset h3 _)
      rw [cOf_copOf, cOf_copOf] at this
      exact this
  | IfExp t a b pos =>
    obtain ⟨t', h1, h⟩ := bnd1 (show (trB c n sc t).bind _ = some e' from h)
    obtain ⟨a', h2, h⟩ := bnd1 h
    obtain ⟨b', h3, rfl⟩ := map1 h
    exact r_ife (ih.b t t' h1) (ih.e a a' h2) (ih.e b b' h3)
  | Tuple es k pos =>
    obtain ⟨l, h1, rfl⟩ := map1 (show (trL c n sc es).map E.tup = some e' from h)
    exact r_tup (ih.l es l h1).2.1
  | List es pos =>
    obtain ⟨l, h1, rfl⟩ := map1 (show (trL c n sc es).map E.lst = some e' from h)
    exact r_lst (ih.l es l h1).2.1
  | Dict ks vs pos =>
    have h : (if ks.all (·.isSome) && ks.length == vs.length && decide (ks.length ≤ 15) then (trD c n sc ks vs).map E.dct else none) = some e' := h
    split at h
    case isFalse => cases h
    rename_i hk
    rw [Bool.and_eq_true, Bool.and_eq_true, beq_iff_eq] at hk
    obtain ⟨l, h1, rfl⟩ := map1 h
    obtain ⟨trs, g1, g2⟩ := (ih.d ks vs l h1).ex
    cases ks with
    | nil =>
      cases vs with
      | cons v r => cases hk.1.2
      | nil =>
        cases n with
        | zero => cases h1
        | succ m => cases h1; exact r_dct0
    | cons k r => exact r_dct (f := evF C l) (g1 pos) hk.1.1 hk.1.2 nofun (of_decide_eq_true hk.2) g2
  | Subscript a i pos =>
    by_cases hs : ∃ lo hi p, i = .Slice lo hi none p
    · obtain ⟨lo, hi, p, rfl⟩ := hs
      obtain ⟨a', h1, h⟩ := bnd1 (show (trE c n sc a).bind _ = some e' from h)
      obtain ⟨l, h2, h⟩ := bnd1 h
      obtain ⟨u, h3, rfl⟩ := map1 h
      exact r_slc (ih.e a a' h1) (ih.o lo l h2) (ih.o hi u h3)
    · rw [tr_sub fun lo hi p e => hs ⟨lo, hi, p, e⟩] at h
      obtain ⟨a', h1, h⟩ := bnd1 h
      obtain ⟨i', h2, rfl⟩ := map1 h
      exact r_idx R.hw (by omega) (ih.e a a' h1) (ih.e i i' h2) (plain_ix h2)
  | Call f as kws pos =>
    cases kws with
    | cons k r => cases f with
      | Attribute o m ap => cases o <;> cases h
      | _ => cases h
    | nil =>
      cases f with
      | Name x p0 => exact se_call R ih (fun _ _ _ => rfl) h
      | Attribute o m ap =>
        cases o with
        | Name x p => exact se_meth R ih (meth_len h) h
        | _ => cases h
      | _ => cases h
  | ListComp elt gens scope pos =>
    match gens, h with
    | [⟨t, it, ifs, .ofNat 0⟩], h =>
      obtain ⟨t', i', b', x', rfl, hs, hi, ⟨own, ho, ok⟩, hg, ht, he⟩ := se_lc R ih ihb h
      exact r_lc R.calm R.nd hi ok ho hg ht he hs
    | [⟨t, it, ifs, .ofNat (k + 1)⟩], h => cases h
    | [⟨t, it, ifs, .negSucc k⟩], h => cases h
    | [], h => cases h
    | ⟨t, it, ifs, a⟩ :: g2 :: r, h => cases a with
      | ofNat k => cases k <;> cases h
      | negSucc k => cases h
  | _ => cases h
theorem isT_of {n : Nat} {e : Expr} {b : B} (h : trB c (n + 1) sc e = some b) (h1 : ∀ a p, e ≠ .UnaryOp .Not a p) (h2 : ∀ o es p, e ≠ .BoolOp o es p) : (trE c n sc e).map B.of = some b ∧ ∀ t x y p, e ≠ .IfExp t x y p := by
  cases e with
  | UnaryOp o a p => cases o with
    | Not => exact absurd rfl (h1 a p)
    | _ => exact ⟨h, nofun⟩
  | BoolOp o es p => exact absurd rfl (h2 o es p)
  | IfExp t x y p => cases h
  | _ => exact ⟨h, nofun⟩
theorem se_t (R : XR X w c C sc) (ih : SE w c C n X sc) (ihb : ∀ X sc, XR X w c C sc → SE w c C n X sc) : ∀ e e', trE c (n + 1) sc e = some e' → (∀ a p, e ≠ .UnaryOp .Not a p) → (∀ o es p, e ≠ .BoolOp o es p) → (∀ t x y p, e ≠ .IfExp t x y p) → PT X e (tB' w (evB C (.of e'))) := by
  have hu := R.u
  intro e e' h h1 h2 h4
  by_cases h6 : ∃ a ops bs p, e = .Compare a ops bs p
  · obtain ⟨a, ops, bs, pos, rfl⟩ := h6
    match ops, bs, h with
    | [o], [b], h =>
      obtain ⟨a', h1, h⟩ := bnd1 (show (trE c n sc a).bind _ = some e' from h)
      obtain ⟨b', h2, rfl⟩ := map1 h
      have := t_cmp (pos := pos) R.hw (by omega) (copOf o) (ih.e a a' h1) (ih.e b b' h2) (noset h2 _)
      rw [cOf_copOf] at this
      exact t_ofT (fun st r st' z => cmp_bool z) this
    | [o1, o2], [b, d], h =>
      obtain ⟨a', h1, h⟩ := bnd1 (show (trE c n sc a).bind _ = some e' from h)
      obtain ⟨b', h2, h⟩ := bnd1 h
      obtain ⟨d', h3, rfl⟩ := map1 h
      have := t_chn (pos := pos) R.hw (by omega) (copOf o1) (copOf o2) (ih.e a a' h1) (ih.e b b' h2) (ih.e d d' h3) (by show behindInMarks _ d = false; exact noset h3 _)
      rw [cOf_copOf, cOf_copOf] at this
      exact t_ofT (fun st r st' z => chn_bool z) this
  · refine t_of (se_e R ih ihb e e' h) ?_
    cases e with
    | UnaryOp o a p => cases o with
      | Not => exact absurd rfl (h1 a p)
      | _ => exact fun _ => rfl
    | BoolOp o es p => exact absurd rfl (h2 o es p)
    | IfExp t x y p => exact absurd rfl (h4 t x y p)
    | Compare a ops bs p => exact absurd ⟨a, ops, bs, p, rfl⟩ h6
    | _ => exact fun _ => rfl
theorem se_b (R : XR X w c C sc) (ih : SE w c C n X sc) : ∀ e b, trB c (n + 1) sc e = some b → PT X e (tB' w (evB C b)) := by
  intro e b h
  by_cases h1 : ∃ a p, e = .UnaryOp .Not a p
  · obtain ⟨a, p, rfl⟩ := h1
    obtain ⟨a', h1, rfl⟩ := map1 (show (trB c n sc a).map B.not1 = some b from h)
    exact t_not (ih.b a a' h1)
  by_cases h2 : ∃ o es p, e = .BoolOp o es p
  · obtain ⟨o, es, p, rfl⟩ := h2
    cases o with
    | And => exact pt_pw (ih.andB es p b h)
    | Or => exact pt_pw (ih.orB es p b h)
  obtain ⟨h3, h4⟩ := isT_of h (fun a p q => h1 ⟨a, p, q⟩) fun o es p q => h2 ⟨o, es, p, q⟩
  obtain ⟨e', h5, rfl⟩ := map1 h3
  exact ih.t e e' h5 (fun a p q => h1 ⟨a, p, q⟩) (fun o es p q => h2 ⟨o, es, p, q⟩) h4
/-- the theorem -/
theorem sound_e (w : World) (c : Tc) (C : Orc) : ∀ (n : Nat) (X : Cx) (sc : Scope), XR X w c C sc → SE w c C n X sc
  | 0, X, sc, R => se_zero
  | n + 1, X, sc, R =>
    have ih := sound_e w c C n X sc R
    have ihb := sound_e w c C n
    ⟨se_e R ih ihb, se_and R ih, se_or R ih, se_l R ih, se_a R ih, se_d R ih, se_o R ih, se_b R ih, se_andB R ih, se_orB R ih, se_if R ih, se_t R ih ihb, se_i R ih⟩
end
end Nv
end
section
set_option Elab.async false
set_option linter.all false
set_option maxRecDepth 100000
set_option maxHeartbeats 400000
namespace Nv
open PySem PySem.Spec PyProof.Rows L2

structure XS (X : Cx) (w : World) (c : Tc) (C : Orc) (sc : Scope) : Prop extends XR X w c C sc where
  eqs : X.env.scope = sc
  kind : sc.kind = .function
  hp : PassesOwn (model X.prog X.w) X.A X.env X.xe
section
variable {X : Cx} {w : World} {c : Tc} {C : Orc} {sc : Scope} {n N : Nat}
theorem XS.kindOf (R : XS X w c C sc) (x : Str) : X.env.kindOf x = sc.names.lookup x := by
  show X.env.scope.names.lookup x = _
  rw [R.eqs]
theorem XS.block (R : XS X w c C sc) : X.env.blockKind = .function := by
  unfold Env.blockKind
  rw [R.eqs, R.kind]
  rfl
theorem sole_ok {n : Nat} {e : Expr} {e' : E} (tg : Expr) (env : Env) (l : Nat) (h : trE c n sc e = some e') (ht : ∀ x p, tg ≠ .Name x p) : swapsWithSole [tg] e l env = pure false := by
  cases n with
  | zero => cases h
  | succ m =>
    cases e with
    | ListComp elt gs scope pos =>
      unfold swapsWithSole
      cases tg with
      | Name x p => exact absurd rfl (ht x p)
      | _ => rfl
    | SetComp elt gs scope pos => cases h
    | DictComp a b gs scope pos => cases h
    | _ => rfl
theorem swaps_ok {n : Nat} {e : Expr} {e' : E} (t : Option Expr) (env : Env) (l : Nat) (h : trE c n sc e = some e') (he : isLc e = false) : swapsWith e t l env = pure false := by
  cases n with
  | zero => cases h
  | succ m =>
    cases e with
    | ListComp elt gs scope pos => cases he
    | SetComp elt gs scope pos => cases h
    | DictComp a b gs scope pos => cases h
    | _ => rfl
theorem stores_sub (o i : Expr) (p : Pos) (e : Expr) (env : Env) : swappedStores [.Subscript o i p] e env = pure none := by
  unfold swappedStores
  all_goals rfl
theorem stores_tup (ts : List Expr) (k : Nat) (p : Pos) {e : Expr} (env : Env) (h : ∀ vs k p, e ≠ .Tuple vs k p) : swappedStores [.Tuple ts k p] e env = pure none := by
  unfold swappedStores
  cases e with
  | Tuple vs k p => exact absurd rfl (h vs k p)
  | _ => rfl
theorem lc_swaps (R : XS X w c C sc) {elt : Expr} {gs : List Comprehension} {scope : Scope} {pos px : Pos} {x : Str} (l : Nat) :
    swapsWith (.ListComp elt gs scope pos) (some (.Name x px)) l X.env = pure (sc.names.lookup x == some .local && px.line == pos.line && !(scope.names.any fun (n, k) => n == x && (k == .local || k == .cell))) := by
  have kb := R.block
  have kx := R.kindOf x
  unfold swapsWith
  simp only [kb, kx]
  rfl
def swNamesE (env : Env) (ts : List Expr) : List Str := ts.filterMap fun
  | .Name id pos => if env.kindOf id == some .local && pos.line == (ts.head?.map (·.pos.line)).getD 0 then some id else none
  | _ => none
theorem stores_eq (ts vs : List Expr) (k k2 : Nat) (p p2 : Pos) (env : Env) : swappedStores [.Tuple ts k p] (.Tuple vs k2 p2) env =
    (if !(ts.length == 2 || ts.length == 3) || vs.length != ts.length || env.blockKind != .function then pure none
    else if vs.any isStar then pure none
    else if (swNamesE env ts).length != ts.length || (swNamesE env ts).eraseDups.length != (swNamesE env ts).length then pure none
    else if vs.all (foldedForSure 8) then pure none
    else if vs.all (constantsAlone 8) then (do unsupported "assign.tuple-of-constant-expressions:order-of-the-stores"; return some (swNamesE env ts))
    else pure (some (swNamesE env ts))) := by
  unfold swappedStores
  rfl
theorem par_stores (R : XS X w c C sc) {ts vs : List Expr} {k k2 : Nat} {p p2 : Pos} {b : Bool} (h : parMode sc ts vs = some b) : swappedStores [.Tuple ts k p] (.Tuple vs k2 p2) X.env = pure (if b then some (swNames sc ts) else none) := by
  have kb := R.block
  have kx : ∀ x, X.env.kindOf x = sc.names.lookup x := R.kindOf
  have en : swNamesE X.env ts = swNames sc ts := by
    unfold swNames swNamesE
    simp only [kx]
    all_goals rfl
  rw [stores_eq, en, kb]
  unfold parMode at h
  by_cases h1 : (!(ts.length == 2 || ts.length == 3) || vs.length != ts.length) = true
  · rw [if_pos h1] at h
    cases h
    rw [h1]
    rfl
  · rw [if_neg h1] at h
    have h1' : (!(ts.length == 2 || ts.length == 3) || vs.length != ts.length) = false := by simpa using h1
    rw [h1']
    rw [if_neg (by decide)]
    split at h
    · cases h
    · rename_i h2
      rw [if_neg h2]
      split at h
      · rename_i h3
        cases h
        rw [if_pos h3]
        rfl
      · rename_i h3
        rw [if_neg h3]
        split at h
        · rename_i h4
          cases h
          rw [if_pos h4]
          rfl
        · rename_i h4
          rw [if_neg h4]
          split at h
          · cases h
          · rename_i h5
            cases h
            rw [if_neg h5]
            rfl
end
end Nv
end
section
set_option Elab.async false
set_option linter.all false
set_option maxRecDepth 100000
set_option maxHeartbeats 400000
namespace Nv
open PySem PySem.Spec PyProof.Rows L2

structure SS (w : World) (c : Tc) (C : Orc) (N n : Nat) (X : Cx) (sc : Scope) : Prop where
  s : ∀ s s', trS c n sc s = some s' → PS X s (tSS c.keep w (ex C N s'))
  ss : ∀ ss s', trSs c n sc ss = some s' → PSs X ss (tSS c.keep w (ex C N s'))
section
variable {X : Cx} {w : World} {c : Tc} {C : Orc} {sc : Scope} {n N : Nat}
theorem ss_zero : SS w c C N 0 X sc := ⟨nofun, nofun⟩
theorem ss_ss (ih : SS w c C N n X sc) : ∀ ss s', trSs c (n + 1) sc ss = some s' → PSs X ss (tSS c.keep w (ex C N s')) := by
  intro ss s' h
  match ss, h with
  | [], h => cases h; exact ss_nil
  | [s], h => exact ss_one (ih.s s s' h)
  | s :: b :: r, h =>
    obtain ⟨x, h1, h2⟩ := bnd1 (show (trS c n sc s).bind _ = some s' from h)
    obtain ⟨y, h3, rfl⟩ := map1 h2
    exact ss_cons (ih.s s x h1) (ih.ss (b :: r) y h3)
theorem s_asgName (R : XS X w c C sc) {x : Str} {px pos : Pos} {e : Expr} {s' : S} (h : trS c (n + 1) sc (.Assign [.Name x px] e pos) = some s') : PS X (.Assign [.Name x px] e pos) (tSS c.keep w (ex C N s')) := by
  obtain ⟨i, h1, h⟩ := bnd1 (show (locIn c sc x).bind _ = some s' from h)
  obtain ⟨e', h2, rfl⟩ := map1 h
  obtain ⟨g1, g2, g3, g4⟩ := loc_of R.toXR h1
  have he := (sound_e w c C n X sc R.toXR).e e e' h2
  by_cases hl : isLc e = true
  case neg => exact s_set R.nd g1 g2 he (swaps_ok _ _ _ h2 (by simpa using hl)) g3 g4
  cases e with
  | ListComp elt gs scope lp =>
    have sw := lc_swaps R (elt := elt) (gs := gs) (scope := scope) (pos := lp) (px := px) (x := x) pos.line
    cases hb : (sc.names.lookup x == some .local && px.line == lp.line && !(scope.names.any fun (n, k) => n == x && (k == .local || k == .cell))) with
    | false => rw [hb] at sw; exact s_set R.nd g1 g2 he sw g3 g4
    | true =>
      rw [hb] at sw
      rw [Bool.and_eq_true, Bool.and_eq_true, beq_iff_eq] at hb
      cases n with
      | zero => cases h2
      | succ m =>
        match gs, h2, sw with
        | [⟨t, it, ifs, .ofNat 0⟩], h2, sw =>
          obtain ⟨t', i', b', x', rfl, hs, hi, ⟨own, ho, ok⟩, hg, ht, he⟩ := se_lc R.toXR (sound_e w c C m X sc R.toXR) (fun X sc R => sound_e w c C m X sc R) h2
          exact s_setLc R.calm R.nd g1 (by rw [R.eqs]; exact hb.1.1) sw hi ok ho hg ht he hs g4
        | [⟨t, it, ifs, .ofNat (k + 1)⟩], h2, sw => cases h2
        | [⟨t, it, ifs, .negSucc k⟩], h2, sw => cases h2
        | [], h2, sw => cases h2
        | ⟨t, it, ifs, a⟩ :: g2 :: r, h2, sw => cases a with
          | ofNat k => cases k <;> cases h2
          | negSucc k => cases h2
  | _ => cases hl
theorem pgT_of (R : XS X w c C sc) {ts : List Expr} {k : Nat} {p : Pos} {is : List Nat} (h : trTs c sc ts = some is) : PG X (.Tuple ts k p) (gT X.K (.pr is)) := by
  obtain ⟨g1, g2⟩ := names_of X.env ts h
  exact pg_tup R.calm (pgs_of R.toXR ts h) g1 g2
theorem trTs_len (ts : List Expr) : ∀ {is : List Nat}, trTs c sc ts = some is → is.length = ts.length := by
  induction ts with
  | nil => intro is h; rw [trTs_nil h]; rfl
  | cons e r ih =>
    intro is h
    obtain ⟨x, p, i, js, rfl, h1, h3, rfl⟩ := trTs_cons h
    exact congrArg (· + 1) (ih h3)
theorem sw_mem {ts : List Expr} {x : Str} (h : x ∈ swNames sc ts) : sc.names.lookup x = some .local := by
  unfold swNames at h
  obtain ⟨e, _, he⟩ := List.mem_filterMap.mp h
  cases e with
  | Name id pos =>
    have he : (if sc.names.lookup id == some .local && pos.line == (ts.head?.map (·.pos.line)).getD 0 then some id else none) = some x := he
    split at he
    · rename_i hc
      cases he
      rw [Bool.and_eq_true, beq_iff_eq] at hc
      exact hc.1
    · cases he
  | _ => cases he
theorem s_asgPar (R : XS X w c C sc) {ts vs : List Expr} {k k2 : Nat} {p p2 pos : Pos} {s' : S} (h : trS c (n + 1) sc (.Assign [.Tuple ts k p] (.Tuple vs k2 p2) pos) = some s') : PS X (.Assign [.Tuple ts k p] (.Tuple vs k2 p2) pos) (tSS c.keep w (ex C N s')) := by
  obtain ⟨is, h1, h⟩ := bnd1 (show (trTs c sc ts).bind _ = some s' from h)
  obtain ⟨es, h2, h⟩ := bnd1 h
  split at h
  case isFalse => cases h
  rename_i hz
  have hz := of_decide_eq_true hz
  obtain ⟨_, _, hP, hpl⟩ := (sound_e w c C n X sc R.toXR).l vs es h2
  have hk : ∀ i ∈ is, i ∉ c.keep := fun i z => (own_in ts h1 i z).1
  cases hm : parMode sc ts vs with
  | none => rw [hm] at h; cases h
  | some b =>
    rw [hm] at h
    have sw := par_stores R (k := k) (k2 := k2) (p := p) (p2 := p2) hm
    cases b with
    | false =>
      cases h
      refine s_parG (pgT_of R h1) hP ?_ sw rfl hk (by rw [trTs_len ts h1]; exact hz)
      rfl
    | true =>
      have loc : ∀ x ∈ swNames sc ts, X.env.scope.names.lookup x = some .local := fun x hx => by rw [R.eqs]; exact sw_mem hx
      have hlen : vs.length = ts.length := by
        unfold parMode at hm
        split at hm
        · cases hm
        · rename_i z
          have z : (!(ts.length == 2 || ts.length == 3) || vs.length != ts.length) = false := by simpa using z
          rw [Bool.or_eq_false_iff] at z
          simpa using z.2
      have h : parPick sc ts is es = some s' := h
      unfold parPick at h
      split at h
      · rename_i x px y py
        match vs, hlen, hP, sw with
        | [a, b], hlen, hP, sw =>
          split at h
          case isFalse => cases h
          rename_i hc
          rw [Bool.and_eq_true, beq_iff_eq] at hc
          cases h
          obtain ⟨x1, p1, i, js, e1, l1, h3, rfl⟩ := trTs_cons h1
          obtain ⟨y1, p2, j, js', e2, l2, h4, rfl⟩ := trTs_cons h3
          rw [trTs_nil h4] at hc hk ⊢
          cases e1; cases e2
          obtain ⟨n1, n2⟩ := nodupN_cons hc.2
          rw [hc.1] at sw loc
          exact s_par2 R.calm R.nd (loc_of R.toXR l1).1 (loc_of R.toXR l2).1 (fun e => n1 (by simp [e])) (loc _ (.head _)) (loc _ (.tail _ (.head _))) hP sw hk
      · rename_i x px y py z pz
        match vs, hlen, hP, sw with
        | [a, b, d], hlen, hP, sw =>
          split at h
          case isFalse => cases h
          rename_i hc
          rw [Bool.and_eq_true, beq_iff_eq] at hc
          cases h
          obtain ⟨x1, p1, i, js, e1, l1, h3, rfl⟩ := trTs_cons h1
          obtain ⟨y1, p2, j, js', e2, l2, h4, rfl⟩ := trTs_cons h3
          obtain ⟨z1, p3, l, js2, e3, l3, h5, rfl⟩ := trTs_cons h4
          rw [trTs_nil h5] at hc hk ⊢
          cases e1; cases e2; cases e3
          obtain ⟨n1, n2⟩ := nodupN_cons hc.2
          obtain ⟨n3, n4⟩ := nodupN_cons n2
          rw [hc.1] at sw loc
          exact s_par3 R.calm R.nd (loc_of R.toXR l1).1 (loc_of R.toXR l2).1 (loc_of R.toXR l3).1 (fun e => n1 (by simp [e])) (fun e => n1 (by simp [e])) (fun e => n3 (by simp [e])) (loc _ (.head _)) (loc _ (.tail _ (.head _))) (loc _ (.tail _ (.tail _ (.head _)))) hP sw hk
      · cases h
theorem tr_asgT {ts : List Expr} {k : Nat} {p pos : Pos} {e : Expr} (h : ∀ vs k p, e ≠ .Tuple vs k p) : trS c (n + 1) sc (.Assign [.Tuple ts k p] e pos) = (trTs c sc ts).bind fun is => (trE c n sc e).map fun e' => .asg (.pr is) e' := by
  cases e with
  | Tuple vs k p => exact absurd rfl (h vs k p)
  | _ => rfl
theorem tr_exp {e : Expr} {pos : Pos} (h : ∀ x j p, e ≠ .Constant (.str x) j p) : trS c (n + 1) sc (.Expr e pos) = if isLc e then none else (trE c n sc e).map .exp := by
  cases e with
  | Constant k j p => cases k with
    | str x => exact absurd rfl (h x j p)
    | _ => rfl
  | _ => rfl
theorem ss_s (R : XS X w c C sc) (ih : SS w c C N n X sc) : ∀ s s', trS c (n + 1) sc s = some s' → PS X s (tSS c.keep w (ex C N s')) := by
  have hu := R.u
  have E := sound_e w c C n X sc R.toXR
  intro s s' h
  cases s with
  | Pass pos => cases h; exact s_pass
  | Break pos => cases h; exact s_brk
  | Return v pos =>
    cases v with
    | none => cases h; exact s_retN
    | some e => obtain ⟨e', h1, rfl⟩ := map1 (show (trE c n sc e).map S.ret = some s' from h); exact s_ret (E.e e e' h1)
  | Expr e pos =>
    by_cases hs : ∃ x j p, e = .Constant (.str x) j p
    · obtain ⟨x, j, p, rfl⟩ := hs
      cases h
      exact s_doc
    · rw [tr_exp fun x j p q => hs ⟨x, j, p, q⟩] at h
      split at h
      case isTrue => cases h
      rename_i hl
      obtain ⟨e', h1, rfl⟩ := map1 h
      exact s_exp (E.e e e' h1) (swaps_ok _ _ _ h1 (by simpa using hl))
  | If e a b pos =>
    obtain ⟨e', h1, h⟩ := bnd1 (show (trB c n sc e).bind _ = some s' from h)
    obtain ⟨a', h2, h⟩ := bnd1 h
    obtain ⟨b', h3, rfl⟩ := map1 h
    exact s_iff (E.b e e' h1) (ih.ss a a' h2) (ih.ss b b' h3)
  | While e b orelse pos =>
    cases orelse with
    | cons x r => cases h
    | nil =>
      obtain ⟨e', h1, h⟩ := bnd1 (show (trB c n sc e).bind _ = some s' from h)
      obtain ⟨b', h3, rfl⟩ := map1 h
      exact s_whl R.hp (E.b e e' h1) (ih.ss b b' h3)
  | For tg it b orelse pos =>
    cases orelse with
    | cons x r => cases h
    | nil =>
      obtain ⟨t, h1, h⟩ := bnd1 (show (trT c sc tg).bind _ = some s' from h)
      obtain ⟨i, h2, h⟩ := bnd1 h
      obtain ⟨b', h3, rfl⟩ := map1 h
      exact s_for R.hp R.calm (E.i tg it i h2).1 (pg_of R.toXR h1) (fun i z => (own_T h1 i z).1) (ih.ss b b' h3) (E.i tg it i h2).2
  | Assign ts e pos =>
    match ts, h with
    | [.Name x px], h => exact s_asgName R h
    | [.Tuple ts k p], h =>
      by_cases he : ∃ vs k p, e = .Tuple vs k p
      · obtain ⟨vs, k2, p2, rfl⟩ := he
        exact s_asgPar R h
      · have he' : ∀ vs k p, e ≠ .Tuple vs k p := fun vs k p q => he ⟨vs, k, p, q⟩
        rw [tr_asgT he'] at h
        obtain ⟨is, h1, h⟩ := bnd1 h
        obtain ⟨e', h2, rfl⟩ := map1 h
        exact s_setT (pgT_of R h1) (E.e e e' h2) (sole_ok _ _ _ h2 nofun) (stores_tup _ _ _ _ he') rfl fun i z => (own_in ts h1 i z).1
    | [.Subscript (.Name x xp) k tp], h =>
      obtain ⟨i, h1, h⟩ := bnd1 (show (varIn c sc x).bind _ = some s' from h)
      obtain ⟨k', h2, h⟩ := bnd1 h
      obtain ⟨e', h3, rfl⟩ := map1 h
      obtain ⟨g1, g2, g3⟩ := var_of R.toXR h1
      refine s_sub R.hw (by omega) g1 g2 g3 (E.e e e' h3) (E.e k k' h2) ?_ (sole_ok _ _ _ h3 nofun) (stores_sub _ _ _ _ _) rfl
      cases n with
      | zero => cases h2
      | succ m =>
        cases k with
        | Slice lo hi st p => cases h2
        | _ => exact fun _ => rfl
  | AugAssign t o e pos =>
    match t, h with
    | .Name x px, h =>
      obtain ⟨i, h1, h⟩ := bnd1 (show (locIn c sc x).bind _ = some s' from h)
      obtain ⟨o', h0, h⟩ := bnd1 h
      obtain ⟨e', h2, rfl⟩ := map1 h
      obtain ⟨g1, g2, g3, g4⟩ := loc_of R.toXR h1
      rw [← opOf_bopOf h0]
      exact s_aug R.nd g1 g2 (E.e e e' h2) g3 g4
    | .Subscript (.Name x xp) k tp, h =>
      obtain ⟨i, h1, h⟩ := bnd1 (show (varIn c sc x).bind _ = some s' from h)
      obtain ⟨o', h0, h⟩ := bnd1 h
      obtain ⟨k', h2, h⟩ := bnd1 h
      obtain ⟨e', h3, rfl⟩ := map1 h
      obtain ⟨g1, g2, g3⟩ := var_of R.toXR h1
      rw [← opOf_bopOf h0]
      refine s_augs R.hw (by omega) g1 g2 g3 (E.e e e' h3) (E.e k k' h2) ?_
      cases n with
      | zero => cases h2
      | succ m =>
        cases k with
        | Slice lo hi st p => cases h2
        | _ => intros; rfl
  | _ => cases h
theorem sound_s (w : World) (c : Tc) (C : Orc) (N : Nat) (X : Cx) (sc : Scope) (R : XS X w c C sc) : ∀ n : Nat, SS w c C N n X sc
  | 0 => ss_zero
  | n + 1 =>
    have ih := sound_s w c C N X sc R n
    ⟨ss_s R ih, ss_ss ih⟩
end
end Nv
end
section
set_option Elab.async false
set_option linter.all false
set_option maxRecDepth 100000
set_option maxHeartbeats 400000
namespace Nv
open PySem PySem.Spec PyProof.Rows L2

section
variable {F F' : Addr → Prop} {w : World} {H H' : Hp} {σ' : St} {st' : Sg}
theorem sget_nil (i : Nat) : sget [] i = .un := by unfold sget; simp
theorem sget_cons0 (x : Slot) (r : Sg) : sget (x :: r) 0 = x := rfl
theorem sget_consS (x : Slot) (r : Sg) (i : Nat) : sget (x :: r) (i + 1) = sget r i := by unfold sget; simp
theorem sget_pad (st : Sg) (k i : Nat) : sget (st ++ List.replicate k .un) i = sget st i := by
  unfold sget
  rw [List.getD_eq_getElem?_getD, List.getD_eq_getElem?_getD, List.getElem?_append]
  split
  · rfl
  · rename_i h
    rw [List.getElem?_eq_none (Nat.le_of_not_lt h), List.getElem?_replicate]
    split <;> rfl
/-- the parameters' slots -/
theorem params_at : ∀ {vs : List V} {as : List Arg} {bs : List Bool} {pst : Sg}, Ag F w H vs as → params bs as = some pst → pst.length = vs.length ∧ bs1 as = bs ∧ bs.length = vs.length ∧
    ∀ i, (∃ a d, sget pst i = .ow d ∧ vs[i]? = some (.ref a) ∧ Own F w H a d ∧ ¬ F a ∧ a ∈ ioA vs bs ∧ bs[i]? = some true) ∨ (∃ v d, sget pst i = .im d ∧ vs[i]? = some v ∧ Rp F w H v d) ∨ sget pst i = .un
  | _, _, bs, pst, .nil, h => by
    cases bs with
    | nil => cases h; exact ⟨rfl, rfl, rfl, fun i => .inr (.inr (sget_nil i))⟩
    | cons b r => cases b <;> cases h
  | _, _, bs, pst, .io (a := a) (d := d) (vs := vs) (as := as) o n t, h => by
    cases bs with
    | nil => cases h
    | cons b r =>
      cases b with
      | false => cases h
      | true =>
        obtain ⟨p2, h1, rfl⟩ := map1 (show (params r as).map (.ow d :: ·) = some pst from h)
        obtain ⟨g1, g2, g3, g4⟩ := params_at t h1
        refine ⟨congrArg (· + 1) g1, congrArg (true :: ·) g2, congrArg (· + 1) g3, fun i => ?_⟩
        cases i with
        | zero => exact .inl ⟨a, d, rfl, rfl, o, n, List.mem_cons_self .., rfl⟩
        | succ i =>
          rw [sget_consS]
          rcases g4 i with ⟨b, e, h1, h2, h3, h4, h5, h6⟩ | z
          · exact .inl ⟨b, e, h1, by simpa using h2, h3, h4, List.mem_cons_of_mem _ h5, by simpa using h6⟩
          · exact .inr (by simpa using z)
  | _, _, bs, pst, .im (v := v) (d := d) (vs := vs) (as := as) r0 t, h => by
    cases bs with
    | nil => cases h
    | cons b r =>
      cases b with
      | true => cases h
      | false =>
        obtain ⟨p2, h1, rfl⟩ := map1 (show (params r as).map (.im d :: ·) = some pst from h)
        obtain ⟨g1, g2, g3, g4⟩ := params_at t h1
        refine ⟨congrArg (· + 1) g1, congrArg (false :: ·) g2, congrArg (· + 1) g3, fun i => ?_⟩
        cases i with
        | zero => exact .inr (.inl ⟨v, d, rfl, rfl, r0⟩)
        | succ i =>
          rw [sget_consS]
          rcases g4 i with ⟨b, e, h1, h2, h3, h4, h5, h6⟩ | z
          · exact .inl ⟨b, e, h1, by simpa using h2, h3, h4, by cases v <;> exact h5, by simpa using h6⟩
          · exact .inr (by simpa using z)
theorem params_inj : ∀ {vs : List V} {as : List Arg} {bs : List Bool} {pst : Sg}, Ag F w H vs as → params bs as = some pst → (ioA vs bs).Nodup → ∀ i j a, (sget pst i).owned → (sget pst j).owned → vs[i]? = some (.ref a) → vs[j]? = some (.ref a) → i = j
  | _, _, bs, pst, .nil, h, _, i, j, a, _, _, e, _ => by simp at e
  | _, _, bs, pst, .io (a := a0) (d := d) (vs := vs) (as := as) o n t, h, nd, i, j, a, h1, h2, e1, e2 => by
    cases bs with
    | nil => cases h
    | cons b r =>
      cases b with
      | false => cases h
      | true =>
        obtain ⟨p2, h3, rfl⟩ := map1 (show (params r as).map (.ow d :: ·) = some pst from h)
        have nd : (a0 :: ioA vs r).Nodup := nd
        obtain ⟨n1, n2⟩ := List.nodup_cons.mp nd
        have at_ : ∀ k b, (sget p2 k).owned → vs[k]? = some (.ref b) → b ∈ ioA vs r := fun k b z e => by
          rcases (params_at t h3).2.2.2 k with ⟨x, y, y1, y2, _, _, y5, _⟩ | ⟨x, y, y1, y2, _⟩ | y
          · rw [e] at y2; cases y2; exact y5
          · rw [y1] at z; exact z.elim
          · rw [y] at z; exact z.elim
        cases i with
        | zero =>
          cases j with
          | zero => rfl
          | succ j =>
            have e1 : a0 = a := by simpa using e1
            rw [sget_consS] at h2
            exact absurd (at_ j a h2 (by simpa using e2)) (e1 ▸ n1)
        | succ i =>
          cases j with
          | zero =>
            have e2 : a0 = a := by simpa using e2
            rw [sget_consS] at h1
            exact absurd (at_ i a h1 (by simpa using e1)) (e2 ▸ n1)
          | succ j =>
            rw [sget_consS] at h1 h2
            exact congrArg (· + 1) (params_inj t h3 n2 i j a h1 h2 (by simpa using e1) (by simpa using e2))
  | _, _, bs, pst, .im (v := v) (d := d) (vs := vs) (as := as) r0 t, h, nd, i, j, a, h1, h2, e1, e2 => by
    cases bs with
    | nil => cases h
    | cons b r =>
      cases b with
      | true => cases h
      | false =>
        obtain ⟨p2, h3, rfl⟩ := map1 (show (params r as).map (.im d :: ·) = some pst from h)
        have nd : (ioA vs r).Nodup := by cases v <;> exact nd
        cases i with
        | zero => exact h1.elim
        | succ i =>
          cases j with
          | zero => exact h2.elim
          | succ j =>
            rw [sget_consS] at h1 h2
            exact congrArg (· + 1) (params_inj t h3 nd i j a h1 h2 (by simpa using e1) (by simpa using e2))
theorem start_at {N : List Str} {vs : List V} {i : Nat} {v : V} (h : vs[i]? = some v) : (start N vs)[i]? = some (some v) := by
  unfold L2.start
  obtain ⟨hl, e⟩ := List.getElem?_eq_some_iff.mp h
  rw [List.getElem?_append_left (by rw [List.length_map]; exact hl), List.getElem?_map, h]
  rfl
theorem start_len {N : List Str} {vs : List V} (h : vs.length ≤ N.length) : (start N vs).length = N.length := by
  unfold L2.start
  rw [List.length_append, List.length_map, List.length_replicate]
  omega
theorem start_rl {N : List Str} {vs : List V} {as : List Arg} {bs : List Bool} {pst : Sg} (g : Ag F w H vs as) (h : params bs as = some pst) (nd : (ioA vs bs).Nodup) (hl : vs.length ≤ N.length) : Rl F w H (start N vs) (pst ++ List.replicate (N.length - pst.length) .un) := by
  obtain ⟨g1, g2, g3, g4⟩ := params_at g h
  have own : ∀ i a, (sget (pst ++ List.replicate (N.length - pst.length) .un) i).owned → (start N vs)[i]? = some (some (.ref a)) → (sget pst i).owned ∧ vs[i]? = some (.ref a) := fun i a z e => by
    rw [sget_pad] at z
    refine ⟨z, ?_⟩
    rcases g4 i with ⟨b, d, h1, h2, _⟩ | ⟨v, d, h1, h2, _⟩ | h1
    · rw [start_at h2] at e; cases e; exact h2
    · rw [h1] at z; exact z.elim
    · rw [h1] at z; exact z.elim
  refine ⟨by rw [start_len hl, List.length_append, List.length_replicate]; omega, fun i => ?_, fun i j a h1 h2 e1 e2 => ?_⟩
  · rw [sget_pad]
    rcases g4 i with ⟨b, d, h1, h2, h3, h4, _⟩ | ⟨v, d, h1, h2, h3⟩ | h1
    · rw [h1]; exact ⟨b, start_at h2, h3, h4⟩
    · rw [h1]; exact ⟨v, start_at h2, h3⟩
    · rw [h1]; exact True.intro
  · obtain ⟨y1, y2⟩ := own i a h1 e1
    obtain ⟨y3, y4⟩ := own j a h2 e2
    exact params_inj g h nd i j a y1 y3 y2 y4
theorem outs_ok (rl : Rl F' w H' σ' st') : ∀ {vs : List V} {as : List Arg} {i0 : Nat} {os : List D}, Ag F w H vs as → (∀ j a, vs[j]? = some (.ref a) → (bs1 as)[j]? = some true → σ'[i0 + j]? = some (some (.ref a))) → outs st' (bs1 as) i0 = some os →
    Ou F' w H' vs (bs1 as) os ∧ ∀ j a, vs[j]? = some (.ref a) → (bs1 as)[j]? = some true → (sget st' (i0 + j)).owned
  | _, _, i0, os, .nil, _, h => by cases h; exact ⟨.nil, fun j a e => by simp at e⟩
  | _, _, i0, os, .io (a := a) (d := d) (vs := vs) (as := as) o n t, hs, h => by
    have h : (match sget st' i0 with | .ow d => (outs st' (bs1 as) (i0 + 1)).map (d :: ·) | .lk (.list xs) => (outs st' (bs1 as) (i0 + 1)).map (.list xs :: ·) | _ => none) = some os := h
    have hs0 : σ'[i0]? = some (some (.ref a)) := hs 0 a rfl rfl
    have hsS : ∀ j b, vs[j]? = some (.ref b) → (bs1 as)[j]? = some true → σ'[i0 + 1 + j]? = some (some (.ref b)) := fun j b e1 e2 => by
      have := hs (j + 1) b (by simpa using e1) (by simpa [bs1] using e2)
      rw [show i0 + (j + 1) = i0 + 1 + j by omega] at this
      exact this
    have ok := rl.ok i0
    have fin : ∀ {d' : D} {os' : List D}, Own F' w H' a d' → ¬ F' a → (sget st' i0).owned → outs st' (bs1 as) (i0 + 1) = some os' → d' :: os' = os → Ou F' w H' (.ref a :: vs) (bs1 ((true, d) :: as)) os ∧ ∀ j b, (V.ref a :: vs)[j]? = some (.ref b) → (bs1 ((true, d) :: as))[j]? = some true → (sget st' (i0 + j)).owned := fun {d' os'} o' n' oi e1 e2 => by
      subst e2
      obtain ⟨k1, k2⟩ := outs_ok rl t hsS e1
      refine ⟨.io o' n' k1, fun j b e1 e2 => ?_⟩
      cases j with
      | zero => exact oi
      | succ j =>
        have := k2 j b (by simpa using e1) (by simpa [bs1] using e2)
        rw [show i0 + (j + 1) = i0 + 1 + j by omega]
        exact this
    cases hx : sget st' i0 with
    | ow d' =>
      rw [hx] at h ok
      obtain ⟨os', e1, e2⟩ := map1 h
      obtain ⟨b, eb, o', n'⟩ := ok
      rw [hs0] at eb; cases eb
      exact fin o' n' (by rw [hx]; exact True.intro) e1 e2
    | lk d' =>
      rw [hx] at h ok
      cases d' with
      | list xs =>
        obtain ⟨os', e1, e2⟩ := map1 h
        obtain ⟨b, eb, o', n'⟩ := ok
        rw [hs0] at eb; cases eb
        cases o' with
        | lst h1 h2 => exact fin (.lst h1 h2) n' (by rw [hx]; exact True.intro) e1 e2
      | _ => cases h
    | un => rw [hx] at h; cases h
    | im d' => rw [hx] at h; cases h
  | _, _, i0, os, .im (v := v) (d := d) (vs := vs) (as := as) r0 t, hs, h => by
    have hsS : ∀ j b, vs[j]? = some (.ref b) → (bs1 as)[j]? = some true → σ'[i0 + 1 + j]? = some (some (.ref b)) := fun j b e1 e2 => by
      have := hs (j + 1) b (by simpa using e1) (by simpa [bs1] using e2)
      rw [show i0 + (j + 1) = i0 + 1 + j by omega] at this
      exact this
    obtain ⟨k1, k2⟩ := outs_ok rl t hsS (show outs st' (bs1 as) (i0 + 1) = some os from h)
    refine ⟨.im k1, fun j b e1 e2 => ?_⟩
    cases j with
    | zero => simp [bs1] at e2
    | succ j =>
      have := k2 j b (by simpa using e1) (by simpa [bs1] using e2)
      rw [show i0 + (j + 1) = i0 + 1 + j by omega]
      exact this
end
structure DD where
  name : Str
  st : Stmt
  ps : List Str
  N : List Str
  ios : List Bool
  body : S
def ioIx : Nat → List Bool → List Nat
  | _, [] => []
  | i, true :: r => i :: ioIx (i + 1) r
  | i, false :: r => ioIx (i + 1) r
theorem ioIx_mem : ∀ (bs : List Bool) (i j : Nat), bs[j]? = some true → i + j ∈ ioIx i bs
  | [], _, _, h => by simp at h
  | true :: r, i, 0, _ => List.mem_cons_self ..
  | true :: r, i, j + 1, h => List.mem_cons_of_mem _ (by
      have := ioIx_mem r (i + 1) j (by simpa using h)
      rw [show i + (j + 1) = i + 1 + j by omega]
      exact this)
  | false :: r, i, 0, h => by simp at h
  | false :: r, i, j + 1, h => by
      have := ioIx_mem r (i + 1) j (by simpa using h)
      show i + (j + 1) ∈ ioIx (i + 1) r
      rw [show i + (j + 1) = i + 1 + j by omega]
      exact this
def fsOf (dds : List DD) : List (Str × List Bool) := dds.map fun d => (d.name, d.ios)
def tcOf (fs : List (Str × List Bool)) (N : List Str) (ios : List Bool) : Tc := ⟨N, fs, ioIx 0 ios⟩
def dfOf (d : DD) : Df := ⟨d.ios, d.N.length, d.body⟩
/-- what is seen of a def's text -/
structure DOk (fs : List (Str × List Bool)) (d : DD) : Prop where
  tr : trSs (tcOf fs d.N d.ios) 300 (defScope d.st) (defBody d.st) = some d.body
  sc : FnScope d.N d.ps (defScope d.st)
  len : d.ps.length = d.ios.length
/-- the defs as the module holds them -/
structure POk (K : PySem.W.Frag) (mg : Str → Option Value) (dds : List DD) (fa : Nat → Addr) (fd : Nat → FuncData) : Prop where
  txt : ∀ d ∈ dds, DOk (fsOf dds) d
  fn : ∀ i d, dds[i]? = some d → FunD K d.name d.name (defArgs d.st) (defBody d.st) (defScope d.st) [] [] (fa i) (fd i)
  gl : ∀ i d, dds[i]? = some d → mg d.name = some (.ref (fa i))
  bi : ∀ i d, dds[i]? = some d → Binds K (fd i) d.ps []
  no : ∀ x ∈ bltNames, mg x = none
section
variable {P : Program} {w : World} {K : PySem.W.Frag} {mg : Str → Option Value} {base : Heap} {dds : List DD} {fa : Nat → Addr} {fd : Nat → FuncData}
theorem pre_le {N ps : List Str} {sc : Scope} (S : FnScope N ps sc) : ps.length ≤ N.length := by
  have := congrArg List.length S.pre
  rw [List.length_take] at this
  omega
theorem ok_def (M : Nat) (p : POk K mg dds fa fd) : ∀ (k i : Nat) (d : DD), dds[i]? = some d → FnOk P w K mg base CX0 k (fa i) (fd i) d.ps (spN w (callF (dds.map dfOf) M k) i d.ios.length)
  | 0, i, d, hi => ⟨fun vs H Q E h => by rw [h.1, (p.txt d (List.mem_of_getElem? hi)).len], fun A outer s H args us vs Q E hr he hb hv h => by
      obtain ⟨_, F, as, r, os, _, _, _, h, _⟩ := h
      cases h⟩
  | k + 1, i, d, hi => by
    have T := p.txt d (List.mem_of_getElem? hi)
    refine (p.fn i d hi).ok T.sc (fun vs H Q E h => by rw [h.1, T.len]) fun cdv A outer s H vs Q E hr h => ?_
    obtain ⟨hlen, F, as, r, os, fo, ag, nd, run, q⟩ := h
    have R : XS (cxOf CX0 P w K mg base d.N d.name (defScope d.st) (fa i) cdv A outer s H E).nox w (tcOf (fsOf dds) d.N d.ios) (callF (dds.map dfOf) M k) (defScope d.st) :=
      { hw := rfl, N := rfl, nd := T.sc.nd, calm := rfl, u := by have := hr.un; show (A.deeper (envOfC d.name (defScope d.st) s.heap.objs.size (fa i) cdv)).units + 100 < cLine; omega, mg := p.no, scope := ScOk.refl _, fn := fun _ _ => rfl, eqs := rfl, kind := T.sc.kind, hp := PassesOwn.never
        call := fun f x ios hf => by
          have hf : (dds.map fun d => (d.name, d.ios))[f]? = some (x, ios) := hf
          rw [List.getElem?_map] at hf
          obtain ⟨d2, h1, h2⟩ := map1 hf
          cases h2
          exact ⟨k, fa f, fd f, d2.ps, ok_def M p k f d2 h1, hr, p.gl f d2 h1, (p.fn f d2 h1).kp, p.bi f d2 h1⟩ }
    refine ⟨_, PSs.nox ((sound_s w _ _ M _ _ R 300).ss _ _ T.tr), ?_⟩
    -- the run
    have run : (((dds.map dfOf)[i]?).bind fun df => (params df.ios as).bind fun st => (ex (callF (dds.map dfOf) M k) M df.body (st ++ List.replicate (df.n - st.length) .un)).bind fun
      | .nx st' => (outs st' df.ios 0).map fun os => (.im .none, os)
      | .rt r st' => (outs st' df.ios 0).map fun os => (r, os)
      | .bk _ => none) = some (r, os) := run
    obtain ⟨df, h1, run⟩ := bnd1 run
    rw [List.getElem?_map, hi] at h1
    cases h1
    obtain ⟨pst, h2, run⟩ := bnd1 run
    obtain ⟨fl, h3, run⟩ := bnd1 run
    obtain ⟨g1, g2, g3, g4⟩ := params_at ag h2
    have hN : vs.length ≤ d.N.length := by rw [hlen, ← T.len]; exact pre_le T.sc
    have nd' : (ioA vs d.ios).Nodup := by rw [← show bs1 as = d.ios from g2]; exact nd
    have rl : Rl F w H (start d.N vs) (pst ++ List.replicate (d.N.length - pst.length) .un) := start_rl ag h2 nd' hN
    have gb : bs1 as = d.ios := g2
    -- what stands at a parameter that may be changed
    have own0 : ∀ j a, (sget (pst ++ List.replicate (d.N.length - pst.length) .un) j).owned → (start d.N vs)[j]? = some (some (.ref a)) → vs[j]? = some (.ref a) ∧ (bs1 as)[j]? = some true ∧ a ∈ ioA vs (bs1 as) := fun j a z e => by
      rw [sget_pad] at z
      rcases g4 j with ⟨b, y, y1, y2, _, _, y5, y6⟩ | ⟨v, y, y1, _⟩ | y1
      · rw [start_at y2] at e; cases e; exact ⟨y2, by rw [gb]; exact y6, by rw [gb]; exact y5⟩
      · rw [y1] at z; exact z.elim
      · rw [y1] at z; exact z.elim
    have fin : ∀ {σ' : St} {F' : Addr → Prop} {H' : Hp} {st' : Sg} {os' : List D}, AftS (ioIx 0 d.ios) F w H (start d.N vs) (pst ++ List.replicate (d.N.length - pst.length) .un) F' H' σ' st' → outs st' d.ios 0 = some os' →
        Ou F' w H' vs (bs1 as) os' ∧ Stp F H (fun a => a ∈ ioA vs (bs1 as)) (fun _ => False) F' H' ∧ ∀ a, Wo (start d.N vs) (pst ++ List.replicate (d.N.length - pst.length) .un) a → Wo σ' st' a := fun {σ' F' H' st' os'} A ho => by
      have hs : ∀ j a, vs[j]? = some (.ref a) → (bs1 as)[j]? = some true → σ'[0 + j]? = some (some (.ref a)) := fun j a e1 e2 => by
        rw [gb] at e2
        rw [A.ks _ (ioIx_mem d.ios 0 j e2), Nat.zero_add]
        exact start_at e1
      rw [← gb] at ho
      obtain ⟨k1, k2⟩ := outs_ok A.rl ag hs ho
      have wo : ∀ a, Wo (start d.N vs) (pst ++ List.replicate (d.N.length - pst.length) .un) a → Wo σ' st' a := fun a ⟨j, z1, z2⟩ => by
        obtain ⟨y1, y2, _⟩ := own0 j a z1 z2
        have h1 := k2 j a y1 y2
        have h2 := hs j a y1 y2
        exact ⟨_, h1, h2⟩
      refine ⟨k1, ⟨A.stp.sub, fun a z => ?_, fun a h1 h2 => A.stp.kp a h1 fun ⟨j, z1, z2⟩ => h2 (own0 j a (open_owned z1) z2).2.2, A.stp.th⟩, wo⟩
      rcases A.stp.new a z with y | y | y
      · exact .inl y
      · exact .inr (.inl y)
      · exact absurd z (A.rl.wo (wo a y)).2
    refine ⟨F, _, fl, fo, rl, h3, ?_⟩
    cases fl with
    | nx st' =>
      obtain ⟨os', h4, h5⟩ := map1 run
      cases h5
      intro σ' F' H' A
      obtain ⟨k1, k2, _⟩ := fin A h4
      exact q .non F' H' k2 A.fo k1 .non
    | rt r' st' =>
      obtain ⟨os', h4, h5⟩ := map1 run
      cases h5
      intro v σ' F' H' A ro
      obtain ⟨k1, k2, k3⟩ := fin A h4
      refine q v F' H' k2 A.fo k1 ?_
      cases r with
      | im x => exact ro
      | tm x =>
        obtain ⟨a, e, o, n, m, z⟩ := ro
        exact ⟨a, e, o, n, z.elim id fun y => absurd (k3 a y) m⟩
      | sl j => exact ro
    | bk st' => cases run
end
end Nv
end
section
set_option Elab.async false
set_option linter.all false
set_option maxRecDepth 100000
set_option maxHeartbeats 400000
namespace Nv
open PySem PySem.Spec PyProof.Rows L2

/-- what is known of the module, but for what stands at a -/
def wo (K : PySem.W.Frag) (a : Addr) : PySem.W.Frag := K.filter fun p => !(p.1 == a)
theorem wo_self : ∀ (K : PySem.W.Frag) (a : Addr), (wo K a).lookup a = none
  | [], _ => rfl
  | (b, o) :: r, a => by
    unfold wo
    rw [List.filter_cons]
    by_cases h : (b == a) = true
    · rw [if_neg (by simp [h])]; exact wo_self r a
    · rw [if_pos (by simpa using h), List.lookup_cons]
      have h' : (a == b) = false := by
        rw [beq_eq_false_iff_ne]
        intro e
        exact h (by rw [e]; simp)
      rw [h']
      exact wo_self r a
theorem wo_other : ∀ (K : PySem.W.Frag) {a b : Addr}, b ≠ a → (wo K a).lookup b = K.lookup b
  | [], _, _, _ => rfl
  | (c, o) :: r, a, b, h => by
    unfold wo
    rw [List.filter_cons]
    by_cases hc : (c == a) = true
    · rw [if_neg (by simp [hc]), List.lookup_cons]
      have e : c = a := by simpa using hc
      have h' : (b == c) = false := by rw [beq_eq_false_iff_ne]; rw [e]; exact h
      rw [h']
      exact wo_other r h
    · rw [if_pos (by simpa using hc), List.lookup_cons, List.lookup_cons]
      have := wo_other r h
      unfold wo at this
      rw [this]
theorem wo_in {K : PySem.W.Frag} {a : Addr} {h : Heap} (X : K.In h) : (wo K a).In h := fun b o e => by
  by_cases q : b = a
  · subst q; rw [wo_self] at e; cases e
  · rw [wo_other K q] at e; exact X b o e
/-- what stands at a is a list, if the module has it -/
def Lst (K : PySem.W.Frag) (a : Addr) : Prop := ∀ o, K.lookup a = some o → ∃ its n, o.data = .seq its n
theorem funD_wo {K : PySem.W.Frag} {a : Addr} {x qual : Str} {params : Arguments} {body : List Stmt} {scope : Scope} {f : Addr} {fd : FuncData} (hl : Lst K a) (F : FunD K x qual params body scope [] [] f fd) : FunD (wo K a) x qual params body scope [] [] f fd := by
  obtain ⟨⟨oc, od, dV, kV, doc, pm, an, cdv, ct, osl, h1, h2, h3, h4, h5⟩, kp⟩ := F
  have nf : f ≠ a := fun e => by
    subst e
    obtain ⟨its, n, e⟩ := hl _ h2
    cases e
  have hc : PySem.W.codeIn (wo K a) cdv qual = true := by
    unfold PySem.W.codeIn at h3 ⊢
    cases cdv with
    | ref c =>
      have nc : c ≠ a := fun e => by
        subst e
        have h3 : (match K.lookup c with | some ⟨_, _, .fields vs, _⟩ => (match vs.toList with | _ :: .str n _ :: _ => n == qual | _ => false) | _ => false) = true := h3
        split at h3
        · rename_i hk
          obtain ⟨its, n, e⟩ := hl _ hk
          cases e
        · cases h3
      show (match (wo K a).lookup c with | some ⟨_, _, .fields vs, _⟩ => (match vs.toList with | _ :: .str n _ :: _ => n == qual | _ => false) | _ => false) = true
      rw [wo_other K nc]
      exact h3
    | _ => exact h3
  refine ⟨⟨oc, od, dV, kV, doc, pm, an, cdv, ct, osl, h1, by rw [wo_other K nf]; exact h2, hc, ?_, .inl rfl⟩, ?_⟩
  · rcases h4 with h4 | h4
    · exact .inl h4
    · exact absurd rfl h4.1
  · show (match (wo K a).lookup f with | some ⟨_, _, .func _, _⟩ => true | some ⟨_, _, .cls _, _⟩ => PySem.W.specialIn (wo K a) (.ref f) "__call__" == some (some (.builtin "type.__call__")) | _ => false) = true
    rw [wo_other K nf, h2]
/-- a law's walk -/
theorem walk_of2 {l : PySem.W.OpenLaw} {n k : Nat} {q : Program} {loose : List Str} {XP : (Str → Option Value) → Heap → Prop} {YP : World → Heap → Prop} {d : DefRec} {x : Str}
    (hn : l.most = some n) (hn2 : n ≤ sizeLine) (hdf : d.params.defaults = []) (hr : Room k callerA)
    (F : ∀ (w : World) (mg : Str → Option Value) (fa : Addr) (h : Heap), YP w h → h.Ns mainGlobals mg → mg d.name = some (.ref fa) →
      ∃ (K : PySem.W.Frag) (fd : FuncData) (sp : Sp), K.In h ∧ (∀ (s : Shared) (u : Value), BindsTo s fd ⟨[u], []⟩ [(x, u)]) ∧
        (∀ (H : Hp) (a : Addr) (ns : List Int), ns.length ≤ n → Rd H a (.lst (ns.map V.int)) → sp [.ref a] H (fun v _ => v = .bl true) fun _ _ _ => False) ∧
        ∀ a, Lst K a → ∀ base : Heap, (wo K a).In base → base.Ns mainGlobals mg → FnOk l.prog w (wo K a) mg base CX0 k fa fd [x] sp) :
    PySem.W.WalkO q loose XP YP l.row.toRowW d [] (fun f vs => PySem.call f vs) := by
  refine Att.attach_call hn hdf fun w s₀ s₁ mg mb fa o pm cd doc a vs ns G Y ho hd hcd hmg hobj hints hlen hg => ?_
  obtain ⟨K, fd, sp, KX, hb, hsp, hF⟩ := F w mg fa _ Y G.T.g hmg
  have hl : Lst K a := fun o e => by
    have := KX a o e
    rw [hobj] at this
    cases this
    exact ⟨_, _, rfl⟩
  refine law_call (K := wo K a) (wo_in KX) G.T.g G.T.b G.T.builtins G.T.nolimit hg hobj hints (Nat.le_trans hlen hn2) hr (hF a hl) hb (fun H hO hS => ?_) fun H e s' z => z
  rcases hS with hS | ⟨o, its, m, e, _⟩
  · exact hsp H a ns hlen hS
  · rw [wo_self] at e; cases e
def fnsOf (dds : List DD) : List He.DefD := dds.map fun d => ⟨(d.name, none), d.name, d.name, defArgs d.st, defBody d.st, defScope d.st, [], []⟩
def fasOf (dds : List DD) : List He.Fa := dds.map (fun d => .glo d.name) ++ bltNames.map .free
/-- what is seen of a def's text, as a test -/
def dchk (fs : List (Str × List Bool)) (d : DD) : Bool :=
  (trSs (tcOf fs d.N d.ios) 300 (defScope d.st) (defBody d.st)).isSome && (defScope d.st).kind == .function && !(defScope d.st).isCoroutine && !(defScope d.st).isGenerator && decide d.N.Nodup && decide (d.N.take d.ps.length = d.ps) &&
    d.ps.all (fun x => decide ((defScope d.st).names.lookup x = some .local) || decide ((defScope d.st).names.lookup x = some .cell)) && (defScope d.st).names.all (fun y => decide (y.2 ≠ .free)) && decide (d.ps.length = d.ios.length)
theorem dOk_of {fs : List (Str × List Bool)} {d : DD} (h : dchk fs d = true) (hb : d.body = (trSs (tcOf fs d.N d.ios) 300 (defScope d.st) (defBody d.st)).getD .pss) : DOk fs d := by
  unfold dchk at h
  simp only [Bool.and_eq_true] at h
  obtain ⟨⟨⟨⟨⟨⟨⟨⟨h1, h2⟩, h3⟩, h4⟩, h5⟩, h6⟩, h7⟩, h8⟩, h9⟩ := h
  refine ⟨?_, ⟨by simpa using h2, by simpa using h3, by simpa using h4, of_decide_eq_true h5, of_decide_eq_true h6, fun x hx => ?_, fun y hy => ?_⟩, of_decide_eq_true h9⟩
  · obtain ⟨s, e⟩ := Option.isSome_iff_exists.mp h1
    rw [e] at hb ⊢
    rw [hb]
    rfl
  · have := List.all_eq_true.mp h7 x hx
    rw [Bool.or_eq_true] at this
    exact this.imp of_decide_eq_true of_decide_eq_true
  · exact of_decide_eq_true (List.all_eq_true.mp h8 y hy)
/-- how a def's arguments bind -/
def BindsD (d : DD) : Prop := ∀ (kV doc pm : Value) (an : Option Addr) (cdv ct : Value) (us : List Value), us.length = d.ps.length → bindArgs (PySem.W.fnOf d.name d.name (defArgs d.st) (defBody d.st) (defScope d.st) .none kV doc pm an cdv ct) ⟨us, []⟩ = pure (d.ps.zip us)
theorem facts {P : Program} {w : World} {K : PySem.W.Frag} {h : Heap} {mg : Str → Option Value} {f : Addr} {dds : List DD} {iL : Nat} {dL : DD} (M k : Nat) (X : K.In h) (G : h.Ns mainGlobals mg) (hfa : mg dL.name = some (.ref f)) (c : He.SaysD (fasOf dds) (fnsOf dds) K)
    (hd : ∀ d ∈ dds, DOk (fsOf dds) d) (hb : ∀ d ∈ dds, BindsD d) (hL : dds[iL]? = some dL) (hps : dL.ps = [("script" : Str)]) :
    ∃ fd : FuncData, (∀ (s : Shared) (v : Value), BindsTo s fd ⟨[v], []⟩ [(("script" : Str), v)]) ∧ ∀ a, Lst K a → ∀ base : Heap, (wo K a).In base → base.Ns mainGlobals mg → FnOk P w (wo K a) mg base CX0 k f fd [("script" : Str)] (spN w (callF (dds.map dfOf) M k) iL dL.ios.length) := by
  have glo : ∀ (i : Nat) (d : DD), dds[i]? = some d → mg d.name = some (.ref (He.ga K d.name)) := fun i d hi => He.glo_ok X G (c.facts (f := .glo d.name) (List.mem_append_left _ (List.mem_map_of_mem (f := fun d : DD => He.Fa.glo d.name) (List.mem_of_getElem? hi))))
  have free : ∀ x ∈ bltNames, mg x = none := fun x hx => He.free_ok X G (c.facts (f := .free x) (List.mem_append_right _ (List.mem_map_of_mem hx)))
  have fds : ∀ i : Nat, ∃ fd : FuncData, ∀ d : DD, dds[i]? = some d → FunD K d.name d.name (defArgs d.st) (defBody d.st) (defScope d.st) [] [] (He.ga K d.name) fd := fun i => by
    cases hi : dds[i]? with
    | none =>
      obtain ⟨fd, F⟩ := c.def_ iL (d := ⟨(dL.name, none), dL.name, dL.name, defArgs dL.st, defBody dL.st, defScope dL.st, [], []⟩) (by unfold fnsOf; rw [List.getElem?_map, hL]; rfl)
      exact ⟨fd, nofun⟩
    | some d =>
      obtain ⟨fd, F⟩ := c.def_ i (d := ⟨(d.name, none), d.name, d.name, defArgs d.st, defBody d.st, defScope d.st, [], []⟩) (by unfold fnsOf; rw [List.getElem?_map, hi]; rfl)
      exact ⟨fd, fun d' e => by cases e; exact F⟩
  obtain ⟨fd, hF⟩ := Classical.skolem.mp fds
  have e := hfa.symm.trans (glo iL dL hL)
  cases e
  have FL := hF iL dL hL
  refine ⟨fd iL, fun s v => ?_, fun a hl base hB hG => ?_⟩
  · have := FunD.bindsA (ps := dL.ps) FL (hb dL (List.mem_of_getElem? hL)) s [v] (by rw [hps]; rfl)
    rw [hps] at this
    exact this
  · have p : POk (wo K a) mg dds (fun i => He.ga K ((dds[i]?.map (·.name)).getD "")) fd :=
      { txt := hd
        fn := fun i d hi => by rw [hi]; exact funD_wo hl (hF i d hi)
        gl := fun i d hi => by rw [hi]; exact glo i d hi
        bi := fun i d hi => FunD.bindsN (funD_wo hl (hF i d hi)) (hb d (List.mem_of_getElem? hi))
        no := free }
    have := ok_def (P := P) (w := w) (base := base) M p k iL dL hL
    rw [hps, hL] at this
    exact this
/-- the law's promise, from what its text says in the value language -/
theorem sp_law {w : World} {C : Orc} {iL n : Nat} (h : ∀ ns : List Int, ns.length ≤ n → C iL [(false, .list (ns.map .int))] = some (.im (.bool true), [])) (H : Hp) (a : Addr) (ns : List Int) (hn : ns.length ≤ n) (hr : Rd H a (.lst (ns.map V.int))) :
    spN w C iL 1 [.ref a] H (fun v _ => v = .bl true) fun _ _ _ => False := by
  have all : ∀ (F : Addr → Prop) (ns : List Int), RpA F w H (ns.map V.int) (ns.map .int) := fun F ns => by
    induction ns with
    | nil => exact .nil
    | cons i r ih => exact .cons (.int i) ih
  have there : H a ≠ none := by rcases hr with hr | ⟨_, hr⟩ <;> (rw [hr]; exact nofun)
  refine ⟨rfl, fun x => x = a, [(false, .list (ns.map .int))], _, _, fun x e => e ▸ there, .im (.lst rfl hr (all _ ns)) .nil, List.nodup_nil, h ns hn, fun v F' H' _ _ _ r => ?_⟩
  cases r
  rfl
structure Raw where
  name : Str
  at_ : Nat
  ps : List Str
  N : List Str
  ios : List Bool
def fsR (raw : List Raw) : List (Str × List Bool) := raw.map fun r => (r.name, r.ios)
def mkD (top : Nat → Stmt) (fs : List (Str × List Bool)) (r : Raw) : DD := ⟨r.name, top r.at_, r.ps, r.N, r.ios, (trSs (tcOf fs r.N r.ios) 300 (defScope (top r.at_)) (defBody (top r.at_))).getD .pss⟩
def ddsR (top : Nat → Stmt) (raw : List Raw) : List DD := raw.map (mkD top (fsR raw))
theorem fsOf_R (top : Nat → Stmt) (raw : List Raw) : fsOf (ddsR top raw) = fsR raw := by
  unfold fsOf ddsR fsR
  rw [List.map_map]
  rfl
theorem dOk_R {top : Nat → Stmt} {raw : List Raw} (h : (ddsR top raw).all (dchk (fsR raw)) = true) : ∀ d ∈ ddsR top raw, DOk (fsOf (ddsR top raw)) d := fun d hd => by
  rw [fsOf_R]
  refine dOk_of (List.all_eq_true.mp h d hd) ?_
  obtain ⟨r, _, rfl⟩ := List.mem_map.mp hd
  rfl
end Nv
end
section
set_option linter.all false
set_option maxRecDepth 100000
namespace Nv
open PySem

theorem callF_succ (ds : List Df) (N k f : Nat) (as : List Arg) {df : Df} (h : ds[f]? = some df) : callF ds N (k + 1) f as = (params df.ios as).bind fun st => (ex (callF ds N k) N df.body (st ++ List.replicate (df.n - st.length) .un)).bind fun
      | .nx st' => (outs st' df.ios 0).map fun os => (.im .none, os)
      | .rt r st' => (outs st' df.ios 0).map fun os => (r, os)
      | .bk _ => none := by
  show ((ds[f]?).bind fun df => _) = _
  rw [h]
  rfl
/-- a, a + 1, .. (n of them) -/
def upto : Nat → Nat → List D
  | _, 0 => []
  | a, n + 1 => .int (a : Int) :: upto (a + 1) n
theorem rngD_upto_aux (lo n a : Nat) : (List.range' a n).map (fun (k : Nat) => PyData.int ((lo : Int) + k)) = upto (lo + a) n := by
  induction n generalizing a with
  | zero => rfl
  | succ n ih =>
    rw [List.range'_succ, List.map_cons, ih]
    show _ :: _ = PyData.int ((lo + a : Nat) : Int) :: upto (lo + a + 1) n
    rw [Int.natCast_add]
    rfl
theorem rngD_upto (lo hi : Nat) : rngD (lo : Int) (hi : Int) = upto lo (hi - lo) := by
  unfold rngD
  rw [show (((hi : Int) - (lo : Int)).toNat) = hi - lo by omega, List.range_eq_range', rngD_upto_aux lo (hi - lo) 0, Nat.add_zero]
theorem rngD_zero (hi : Nat) : rngD 0 (hi : Int) = upto 0 hi := rngD_upto 0 hi
theorem idx_tup {xs : List D} {i : Nat} {d : D} (h : xs[i]? = some d) : idxD (.tuple xs) (.int (i : Int)) = some d := by
  obtain ⟨hl, _⟩ := List.getElem?_eq_some_iff.mp h
  show ((place xs.length (i : Int)).bind fun k => xs[k]?) = _
  have : place xs.length (i : Int) = some i := by
    unfold place
    rw [if_pos (by omega), if_pos (by omega)]
    simp
  rw [this]
  exact h
theorem idx_lst {xs : List D} {i : Nat} {d : D} (h : xs[i]? = some d) : idxD (.list xs) (.int (i : Int)) = some d := idx_tup h
theorem okR_nat {n : Nat} (h : n ≤ lim) : okR (n : Int) = true := by
  unfold okR
  have : lim = 16777216 := rfl
  exact decide_eq_true (by omega)
section
variable {C : Orc} {N : Nat} {a b : S} {c : B} {e : E} {it : I} {t : T} {st st1 st2 : Sg} {fl : Fl} {r : R} {xs : List D} {l : Option Nat}
theorem x_seq (h1 : ex C N a st = some (.nx st1)) (h2 : ex C N b st1 = some fl) : ex C N (.seq a b) st = some fl := by
  show (ex C N a st).bind _ = _
  rw [h1]; exact h2
theorem x_seqR (h1 : ex C N a st = some (.rt r st1)) : ex C N (.seq a b) st = some (.rt r st1) := by
  show (ex C N a st).bind _ = _
  rw [h1]; rfl
theorem x_seqB (h1 : ex C N a st = some (.bk st1)) : ex C N (.seq a b) st = some (.bk st1) := by
  show (ex C N a st).bind _ = _
  rw [h1]; rfl
theorem x_ift (h1 : evB C c st = some (true, st1)) (h2 : ex C N a st1 = some fl) : ex C N (.iff c a b) st = some fl := by
  show (evB C c st).bind _ = _
  rw [h1]; exact h2
theorem x_iff (h1 : evB C c st = some (false, st1)) (h2 : ex C N b st1 = some fl) : ex C N (.iff c a b) st = some fl := by
  show (evB C c st).bind _ = _
  rw [h1]; exact h2
theorem x_for (h1 : evI C it st = some (xs, l, st1)) (h2 : forL (bindT t) (ex C N b) xs st1 = some fl) : ex C N (.for_ t it b) st = some (fl.unlock l) := by
  show (evI C it st).bind _ = _
  rw [h1]
  show (forL (bindT t) (ex C N b) xs st1).map _ = _
  rw [h2]; rfl
theorem x_ret (h1 : ev C e st = some (r, st1)) (h2 : leave st1 r = some fl) : ex C N (.ret e) st = some fl := by
  show (ev C e st).bind _ = _
  rw [h1]; exact h2
theorem x_retI {d : D} (h1 : ev C e st = some (.im d, st1)) : ex C N (.ret e) st = some (.rt (.im d) st1) := x_ret h1 rfl
theorem x_asg {i : Nat} (h1 : ev C e st = some (r, st1)) (h2 : sto st1 i r = some st2) : ex C N (.asg (.nm i) e) st = some (.nx st2) := by
  show (ev C e st).bind _ = _
  rw [h1]
  show (sto st1 i r).map _ = _
  rw [h2]; rfl
theorem x_exp (h1 : ev C e st = some (r, st1)) : ex C N (.exp e) st = some (.nx st1) := by
  show (ev C e st).map _ = _
  rw [h1]; rfl
variable {bnd : D → Sg → Option Sg} {bd : Sg → Option Fl} {cd : Sg → Option (Bool × Sg)} {el : Sg → Option (D × Sg)} {d x : D} {n : Nat} {vs : List Nat} {acc : List D} {res : List D × Sg}
theorem fl_cons (h1 : bnd d st = some st1) (h2 : bd st1 = some (.nx st2)) (h3 : forL bnd bd xs st2 = some fl) : forL bnd bd (d :: xs) st = some fl := by
  show (bnd d st).bind _ = _
  rw [h1]
  show (bd st1).bind _ = _
  rw [h2]; exact h3
theorem fl_rt (h1 : bnd d st = some st1) (h2 : bd st1 = some (.rt r st2)) : forL bnd bd (d :: xs) st = some (.rt r st2) := by
  show (bnd d st).bind _ = _
  rw [h1]
  show (bd st1).bind _ = _
  rw [h2]; rfl
theorem wl_stop (h1 : cd st = some (false, st1)) : whlL cd bd (n + 1) st = some (.nx st1) := by
  show (cd st).bind _ = _
  rw [h1]; rfl
theorem wl_go (h1 : cd st = some (true, st1)) (h2 : bd st1 = some (.nx st2)) (h3 : whlL cd bd n st2 = some fl) : whlL cd bd (n + 1) st = some fl := by
  show (cd st).bind _ = _
  rw [h1]
  show (bd st1).bind _ = _
  rw [h2]; exact h3
theorem wl_rt (h1 : cd st = some (true, st1)) (h2 : bd st1 = some (.rt r st2)) : whlL cd bd (n + 1) st = some (.rt r st2) := by
  show (cd st).bind _ = _
  rw [h1]
  show (bd st1).bind _ = _
  rw [h2]; rfl
theorem lc_drop (h1 : bnd d (wipes st vs) = some st1) (h2 : cd st1 = some (false, st2)) (h3 : lcL bnd cd el vs xs st2 acc = some res) : lcL bnd cd el vs (d :: xs) st acc = some res := by
  unfold lcL
  rw [h1, Option.bind_some, h2, Option.bind_some]
  exact h3
theorem lc_take {st3 : Sg} (h1 : bnd d (wipes st vs) = some st1) (h2 : cd st1 = some (true, st2)) (h3 : el st2 = some (x, st3)) (hl : acc.length < lim) (h4 : lcL bnd cd el vs xs st3 (acc ++ [x]) = some res) : lcL bnd cd el vs (d :: xs) st acc = some res := by
  unfold lcL
  rw [h1, Option.bind_some, h2, Option.bind_some]
  show ((el st2).bind fun (x, st3) => if acc.length < lim then lcL bnd cd el vs xs st3 (acc ++ [x]) else none) = some res
  rw [h3]
  show (if acc.length < lim then lcL bnd cd el vs xs st3 (acc ++ [x]) else none) = some res
  rw [if_pos hl]
  exact h4
theorem e_lc {elt : E} (h1 : evI C it st = some (xs, l, st1)) (h2 : lcL (bindT t) (evB C c) (fun s => (ev C elt s).bind fun u => fz u.2 u.1) t.own xs st1 [] = some res) : ev C (.lc elt t it c) st = some (.tm (.list res.1), unlock (back st1 res.2 t.own) l) := by
  show (evI C it st).bind _ = _
  rw [h1]
  show Option.map _ (lcL _ _ _ _ _ _ _) = _
  rw [h2]; rfl
variable {ds : List Df} {k f : Nat} {as : List Arg} {df : Df} {os : List D} {pst : Sg}
theorem run_rt (h : ds[f]? = some df) (hp : params df.ios as = some pst) (hx : ex (callF ds N k) N df.body (pst ++ List.replicate (df.n - pst.length) .un) = some (.rt r st1)) (ho : outs st1 df.ios 0 = some os) : callF ds N (k + 1) f as = some (r, os) := by
  rw [callF_succ ds N k f as h, hp]
  show (ex (callF ds N k) N df.body _).bind _ = _
  rw [hx]
  show (outs st1 df.ios 0).map _ = _
  rw [ho]; rfl
theorem run_nx (h : ds[f]? = some df) (hp : params df.ios as = some pst) (hx : ex (callF ds N k) N df.body (pst ++ List.replicate (df.n - pst.length) .un) = some (.nx st1)) (ho : outs st1 df.ios 0 = some os) : callF ds N (k + 1) f as = some (.im .none, os) := by
  rw [callF_succ ds N k f as h, hp]
  show (ex (callF ds N k) N df.body _).bind _ = _
  rw [hx]
  show (outs st1 df.ios 0).map _ = _
  rw [ho]; rfl
end
theorem rngW1 {n : Nat} (hn : n ≤ lim) : rngW [.int (n : Int)] = some (upto 0 n) := by
  rw [rngW.eq_1, if_pos (okR_nat hn), rngD_zero]
theorem i_rngX {C : Orc} {a : E} {st st1 : Sg} {r : R} {x : D} {xs : List D} (h : ev C a st = some (r, st1)) (hd : dr st1 r = some x) (hr : rngW [x] = some xs) : evI C (.rng1 a) st = some (xs, none, st1) := by
  show (ev C a st).bind (fun p => (dr p.2 p.1).bind fun x => (rngW [x]).map fun xs => (xs, none, p.2)) = _
  rw [h, Option.bind_some, hd, Option.bind_some, hr]
  rfl
theorem i_rng {C : Orc} {a : E} {st st1 : Sg} {n : Nat} (h : ev C a st = some (.im (.int (n : Int)), st1)) (hn : n ≤ lim) : evI C (.rng1 a) st = some (upto 0 n, none, st1) := i_rngX h rfl (rngW1 hn)
end Nv
end
section
set_option linter.all false
set_option maxRecDepth 100000
namespace Nv
open PySem
def kDraws : D := .str ⟨#[100, 114, 97, 119, 115]⟩
def kAt : D := .str ⟨#[97, 116]⟩
abbrev nD (n : Nat) : D := .int (n : Int)
def bTurn : S :=
  (.iff (.of (.cmp .gt (.var 6) (.cst (nD 0))))
  (.seq (.exp (.mut .append 2 (.cs (.bin .mod (.blt .int (.cs (.var 6) .nl)) (.cst (nD 997))) .nl)))
  (.asg (.nm 6) (.bin .fdiv (.var 6) (.cst (nD 997)))))
  .pss)
def bTake : S :=
  (.iff (.of (.cmp .ge (.var 5) (.bin .pow (.cst (nD 10)) (.cst (nD 18)))))
  (.asg (.nm 6) (.var 5))
  (.seq (.exp (.mut .append 2 (.cs (.bin .mod (.blt .int (.cs (.var 5) .nl)) (.cst (nD 997))) .nl)))
  (.exp (.mut .append 2 (.cs (.bin .mod (.bin .mod (.blt .int (.cs (.bin .add (.bin .mul (.var 3) (.cst (nD 69621))) (.cst (nD 5))) .nl)) (.cst (nD 65521))) (.cst (nD 997))) .nl)))))
def bCell : S :=
  (.seq (.asg (.nm 5) (.blt .abs (.cs (.blt .int (.cs (.idx (.var 0) (.var 4)) .nl)) .nl)))
  (.seq (.asg (.nm 3) (.bin .mod (.blt .int (.cs (.bin .add (.bin .add (.bin .mul (.var 3) (.cst (nD 48271))) (.bin .mod (.var 5) (.cst (nD 1000003)))) (.var 4)) .nl)) (.cst (nD 65537))))
  (.seq (.asg (.nm 6) (.cst (nD 0)))
  (.seq bTake
  (.for_ (.nm 7) (.rng1 (.cst (nD 60))) bTurn)))))
def bMore : S :=
  (.seq (.asg (.nm 3) (.bin .mod (.blt .int (.cs (.bin .add (.bin .add (.bin .mul (.var 3) (.cst (nD 16807))) (.var 4)) (.cst (nD 1))) .nl)) (.cst (nD 65537))))
  (.exp (.mut .append 2 (.cs (.bin .mod (.blt .int (.cs (.var 3) .nl)) (.cst (nD 997))) .nl))))
def bDraws : S :=
  (.seq (.asg (.nm 2) (.lst .nl))
  (.seq (.asg (.nm 3) (.cst (nD 7)))
  (.seq (.for_ (.nm 4) (.rng1 (.blt .len (.cs (.var 0) .nl))) bCell)
  (.seq (.for_ (.nm 4) (.rng1 (.var 1)) bMore)
  (.ret (.slc (.var 2) .no (.so (.var 1))))))))
def bNext : S :=
  (.seq (.augs 0 (.cst kAt) .add (.cst (.int (1))))
  (.seq (.iff (.of (.cmp .gt (.idx (.var 0) (.cst kAt)) (.blt .len (.cs (.idx (.var 0) (.cst kDraws)) .nl))))
  (.ret (.cst (.int (0))))
  .pss)
  (.ret (.bin .mod (.blt .int (.cs (.idx (.idx (.var 0) (.cst kDraws)) (.bin .sub (.idx (.var 0) (.cst kAt)) (.cst (.int (1))))) .nl)) (.var 1)))))
def bSame : S :=
  (.seq (.asg (.nm 2) (.lst (.cs (.tup (.cs (.var 0) (.cs (.var 1) .nl))) .nl)))
  (.seq (.whl (.of (.cmp .ne (.var 2) (.lst .nl)))
  (.seq (.asg (.pr [3, 4]) (.mut .pop0 2 .nl))
  (.iff (.of (.isi (.var 4) .dict))
  (.seq (.iff (.or2 (.not1 (.of (.isi (.var 3) .dict))) (.or2 (.of (.cmp .ne (.blt .len (.cs (.var 3) .nl)) (.blt .len (.cs (.var 4) .nl)))) (.of (.cmp .ne (.lc (.var 5) (.nm 5) (.of (.var 4)) (.of (.cmp .nin (.var 5) (.var 3)))) (.lst .nl)))))
  (.ret (.cst (.bool false)))
  .pss)
  (.seq (.asg (.nm 6) (.blt .dict (.cs (.lc (.tup (.cs (.var 5) (.cs (.var 5) .nl))) (.nm 5) (.of (.var 3)) .yes) .nl)))
  (.exp (.mut .extend 2 (.cs (.bin .add (.lc (.tup (.cs (.idx (.var 3) (.var 5)) (.cs (.idx (.var 4) (.var 5)) .nl))) (.nm 5) (.of (.var 4)) .yes) (.lc (.tup (.cs (.idx (.var 6) (.var 5)) (.cs (.var 5) .nl))) (.nm 5) (.of (.var 4)) .yes)) .nl)))))
  (.iff (.or2 (.of (.isi (.var 4) .tuple)) (.of (.isi (.var 4) .list)))
  (.seq (.iff (.or2 (.of (.cmp .ne (.isi (.var 3) .tuple) (.isi (.var 4) .tuple))) (.or2 (.of (.cmp .ne (.isi (.var 3) .list) (.isi (.var 4) .list))) (.of (.cmp .ne (.blt .len (.cs (.var 3) .nl)) (.blt .len (.cs (.var 4) .nl))))))
  (.ret (.cst (.bool false)))
  .pss)
  (.exp (.mut .extend 2 (.cs (.lc (.tup (.cs (.idx (.var 3) (.var 7)) (.cs (.idx (.var 4) (.var 7)) .nl))) (.nm 7) (.rng1 (.blt .len (.cs (.var 4) .nl))) .yes) .nl))))
  (.iff (.or2 (.of (.cmp .ne (.isi (.var 3) .bool) (.isi (.var 4) .bool))) (.or2 (.of (.cmp .ne (.isi (.var 3) .int) (.isi (.var 4) .int))) (.or2 (.of (.cmp .ne (.isi (.var 3) .str) (.isi (.var 4) .str))) (.of (.cmp .ne (.var 3) (.var 4))))))
  (.ret (.cst (.bool false)))
  .pss)))))
  (.ret (.cst (.bool true)))))
def bPick (j : Nat) : S := .ret (.idx (.var 1) (.call j (.io 0 (.cs (.blt .len (.cs (.var 1) .nl)) .nl))))
/-- what is drawn from: the numbers, the place -/
def wD (ds : List Nat) (p : Nat) : D := .dict [(kDraws, .list (ds.map nD)), (kAt, nD p)]
theorem w_at (ds : List Nat) (p : Nat) : idxD (wD ds p) kAt = some (nD p) := rfl
theorem w_draws (ds : List Nat) (p : Nat) : idxD (wD ds p) kDraws = some (.list (ds.map nD)) := rfl
theorem w_set (ds : List Nat) (p q : Nat) : subD (wD ds p) kAt (nD q) = some (wD ds q) := rfl
/-- the next number -/
def nxt (ds : List Nat) (p m : Nat) : Nat := match ds[p]? with
  | none => 0
  | some d => d % m
theorem nxt_lt {ds : List Nat} {p m : Nat} (h : 0 < m) : nxt ds p m < m := by
  unfold nxt
  split
  · exact h
  · exact Nat.mod_lt _ h
theorem x_augs {C : Orc} {N i : Nat} {k e : E} {o : Bop} {st st1 st2 st3 : Sg} {d0 d d2 d' x y z u : D} {r r2 : R} (h0 : sget st i = .ow d0) (h1 : ev C k st = some (r, st1)) (h2 : fz st1 r = some (u, st2)) (h3 : sget st2 i = .ow d) (h4 : idxD d u = some x) (h5 : ev C e st2 = some (r2, st3)) (h6 : dr st3 r2 = some y) (h7 : augD o x y = some z) (h8 : sget st3 i = .ow d2) (h9 : subD d2 u z = some d') :
    ex C N (.augs i k o e) st = some (.nx (st3.set i (.ow d'))) := by
  show (ownOf (sget st i)).bind _ = _
  rw [h0]
  show (ev C k st).bind _ = _
  rw [h1]
  show (fz st1 r).bind _ = _
  rw [h2]
  show (ownOf (sget st2 i)).bind _ = _
  rw [h3]
  show (idxD d u).bind _ = _
  rw [h4]
  show (ev C e st2).bind _ = _
  rw [h5]
  show (dr st3 r2).bind _ = _
  rw [h6]
  show (augD o x y).bind _ = _
  rw [h7]
  show (ownOf (sget st3 i)).bind _ = _
  rw [h8]
  show (subD d2 u z).map _ = _
  rw [h9]
  rfl
theorem next_ok (C : Orc) (N : Nat) (ds : List Nat) (p m : Nat) (hm : 0 < m) : ex C N bNext [.ow (wD ds p), .im (nD m)] = some (.rt (.im (nD (nxt ds p m))) [.ow (wD ds (p + 1)), .im (nD m)]) := by
  have a1 : ex C N (.augs 0 (.cst kAt) .add (.cst (.int 1))) [.ow (wD ds p), .im (nD m)] = some (.nx [.ow (wD ds (p + 1)), .im (nD m)]) :=
    x_augs (i := 0) (st := [.ow (wD ds p), .im (nD m)]) (st1 := [.ow (wD ds p), .im (nD m)]) (st2 := [.ow (wD ds p), .im (nD m)]) (st3 := [.ow (wD ds p), .im (nD m)]) (d0 := wD ds p) (d := wD ds p) (d2 := wD ds p) (u := kAt) (x := nD p) (y := .int 1) (z := nD (p + 1)) (r := .im kAt) (r2 := .im (.int 1)) rfl rfl rfl rfl (w_at ds p) rfl rfl rfl rfl (w_set ds p (p + 1))
  have l1 : bltD .len [.list (ds.map nD)] = some (.im (nD ds.length)) := by
    show some (R.im (.int ((ds.map nD).length : Int))) = _
    rw [List.length_map]
  refine x_seq a1 ?_
  have e1 := w_at ds (p + 1)
  have e2 := w_draws ds (p + 1)
  by_cases h : ds.length < p + 1
  · have hn : nxt ds p m = 0 := by
      unfold nxt
      rw [List.getElem?_eq_none (by omega)]
    have c1 : cmpD .gt (nD (p + 1)) (nD ds.length) = some true := by
      show some (decide ((ds.length : Int) < ((p + 1 : Nat) : Int))) = _
      rw [decide_eq_true (by omega)]
    rw [hn]
    refine x_seqR (x_ift (st1 := [.ow (wD ds (p + 1)), .im (nD m)]) ?_ (x_retI rfl))
    simp only [evB, ev, evL, sget, List.getD_cons_zero, Option.bind_some, Option.map_some, dr, Slot.val, drs, e1, e2, l1, c1, notR, tru]
  · have hp : ∃ d, ds[p]? = some d := ⟨ds[p], List.getElem?_eq_getElem (by omega)⟩
    obtain ⟨d, hd⟩ := hp
    have hn : nxt ds p m = d % m := by
      unfold nxt
      rw [hd]
    have c1 : cmpD .gt (nD (p + 1)) (nD ds.length) = some false := by
      show some (decide ((ds.length : Int) < ((p + 1 : Nat) : Int))) = _
      rw [decide_eq_false (by omega)]
    have i1 : idxD (.list (ds.map nD)) (nD p) = some (nD d) := idx_lst (by rw [List.getElem?_map, hd]; rfl)
    have s1 : binD .sub (nD (p + 1)) (.int 1) = some (.im (nD p)) := by
      show some (R.im (.int (((p + 1 : Nat) : Int) - 1))) = _
      rw [show ((p + 1 : Nat) : Int) - 1 = (p : Int) by omega]
    have m1 : binD .mod (nD d) (nD m) = some (.im (nD (d % m))) := by
      show (if (m : Int) ≠ 0 then some (R.im (.int ((d : Int).fmod (m : Int)))) else none) = _
      rw [if_pos (by omega), Int.fmod_eq_emod_of_nonneg _ (by omega)]
      rfl
    rw [hn]
    refine x_seq (x_iff (st1 := [.ow (wD ds (p + 1)), .im (nD m)]) ?_ rfl) (x_retI ?_)
    · simp only [evB, ev, evL, sget, List.getD_cons_zero, Option.bind_some, Option.map_some, dr, Slot.val, drs, e1, e2, l1, c1, notR, tru]
    · have b1 : bltD .int [nD d] = some (.im (nD d)) := rfl
      simp only [ev, evL, sget, List.getD_cons_zero, List.getD_cons_succ, Option.bind_some, Option.map_some, dr, Slot.val, drs, e1, e2, i1, s1, m1, b1]

theorem upto_len : ∀ (n k : Nat), (upto k n).length = n
  | 0, _ => rfl
  | n + 1, k => congrArg (· + 1) (upto_len n (k + 1))
theorem n_add (a b : Nat) : binD .add (nD a) (nD b) = some (.im (nD (a + b))) := rfl
theorem n_mul (a b : Nat) (h : b < 4294967296) : binD .mul (nD a) (nD b) = some (.im (nD (a * b))) := by
  show (if small64 (a : Int) || small64 (b : Int) then some (R.im (.int ((a : Int) * (b : Int)))) else none) = _
  have : small64 (b : Int) = true := by
    unfold small64
    exact decide_eq_true (by rw [Int.natAbs_natCast]; omega)
  rw [this, Bool.or_true, if_pos rfl]
  rfl
theorem n_mod (a b : Nat) (h : 0 < b) : binD .mod (nD a) (nD b) = some (.im (nD (a % b))) := by
  show (if (b : Int) ≠ 0 then some (R.im (.int ((a : Int).fmod (b : Int)))) else none) = _
  rw [if_pos (by omega), Int.fmod_eq_emod_of_nonneg _ (by omega)]
  rfl
theorem n_fdiv (a b : Nat) (h : 0 < b) (h2 : b < 1073741824) : binD .fdiv (nD a) (nD b) = some (.im (nD (a / b))) := by
  show (if (b : Int) ≠ 0 ∧ (b : Int).natAbs < 1073741824 then some (R.im (.int ((a : Int).fdiv (b : Int)))) else none) = _
  rw [if_pos ⟨by omega, by rw [Int.natAbs_natCast]; exact h2⟩, Int.fdiv_eq_ediv_of_nonneg _ (by omega)]
  rfl
theorem n_gt (a b : Nat) : cmpD .gt (nD a) (nD b) = some (decide (b < a)) := by
  show some (decide ((b : Int) < (a : Int))) = _
  simp
theorem n_lt (a b : Nat) : cmpD .lt (nD a) (nD b) = some (decide (a < b)) := by
  show some (decide ((a : Int) < (b : Int))) = _
  simp
theorem n_ge (a b : Nat) : cmpD .ge (nD a) (nD b) = some (decide (b ≤ a)) := by
  show (some (decide ((a : Int) < (b : Int)))).map not = _
  have : (!decide ((a : Int) < (b : Int))) = decide (b ≤ a) := by
    by_cases h : b ≤ a
    · rw [decide_eq_false (by omega), decide_eq_true h]; rfl
    · rw [decide_eq_true (by omega), decide_eq_false h]; rfl
  exact congrArg some this
theorem n_eq (a b : Nat) : cmpD .eq (nD a) (nD b) = some (decide (a = b)) := by
  show some ((a : Int) == (b : Int)) = _
  by_cases h : a = b
  · subst h; simp
  · rw [decide_eq_false h, show ((a : Int) == (b : Int)) = false from beq_eq_false_iff_ne.mpr (by omega)]
theorem n_ne (a b : Nat) : cmpD .ne (nD a) (nD b) = some (decide (a ≠ b)) := by
  show (cmpD .eq (nD a) (nD b)).map not = _
  rw [n_eq]
  simp
theorem n_int (a : Nat) : bltD .int [nD a] = some (.im (nD a)) := rfl
theorem z_int (a : Int) : bltD .int [.int a] = some (.im (.int a)) := rfl
theorem z_abs (a : Int) : bltD .abs [.int a] = some (.im (nD a.natAbs)) := by
  show some (R.im (.int (if a < 0 then -a else a))) = _
  rw [show (if a < 0 then -a else a) = (a.natAbs : Int) by split <;> omega]
theorem n_pow : binD .pow (nD 10) (nD 18) = some (.im (nD (10 ^ 18))) := by
  show (if (0 : Int) ≤ ((18 : Nat) : Int) ∧ ((18 : Nat) : Int) ≤ 1000000 ∧ ((10 : Nat) : Int).natAbs < 18446744073709551616 then some (R.im (.int (((10 : Nat) : Int) ^ ((18 : Nat) : Int).toNat))) else none) = _
  rw [if_pos (by decide)]
  rfl
theorem map_snoc (ds : List Nat) (x : Nat) : ds.map nD ++ [nD x] = (ds ++ [x]).map nD := by simp
theorem app_ok (ds : List Nat) (x : Nat) (h : ds.length < lim) : mutD .append (.list (ds.map nD)) [nD x] = some (.list ((ds ++ [x]).map nD), .none) := by
  show (if (ds.map nD).length < lim then some (PyData.list (ds.map nD ++ [nD x]), PyData.none) else none) = _
  rw [List.length_map, if_pos h, map_snoc]
theorem turn_ok (C : Orc) (N : Nat) (S M : Slot) (a b c : Slot) : ∀ (xs : List D) (ds : List Nat) (rest : Nat) (w : Slot), ds.length + xs.length ≤ lim →
    ∃ (ds' : List Nat) (rest' : Nat) (w' : Slot), ds.length ≤ ds'.length ∧ ds'.length ≤ ds.length + xs.length ∧ forL (bindT (.nm 7)) (ex C N bTurn) xs [S, M, .ow (.list (ds.map nD)), a, b, c, .im (nD rest), w] = some (.nx [S, M, .ow (.list (ds'.map nD)), a, b, c, .im (nD rest'), w'])
  | [], ds, rest, w, _ => ⟨ds, rest, w, Nat.le_refl _, Nat.le_refl _, rfl⟩
  | x :: xs, ds, rest, w, h => by
    have hl : ds.length < lim := by simp at h; omega
    by_cases hr : 0 < rest
    · obtain ⟨ds', rest', w', h0, h1, h2⟩ := turn_ok C N S M a b c xs (ds ++ [rest % 997]) (rest / 997) (.im x) (by simp at h ⊢; omega)
      refine ⟨ds', rest', w', by simp at h0; omega, by simp at h1 ⊢; omega, fl_cons (st1 := [S, M, .ow (.list (ds.map nD)), a, b, c, .im (nD rest), .im x]) (st2 := [S, M, .ow (.list ((ds ++ [rest % 997]).map nD)), a, b, c, .im (nD (rest / 997)), .im x]) rfl ?_ h2⟩
      have ap := app_ok ds (rest % 997) hl
      simp only [ex, ev, evB, evL, evF, evA, evO, sget, List.getD_cons_zero, List.getD_cons_succ, List.set_cons_zero, List.set_cons_succ, Option.bind_some, Option.map_some, dr, drs, Slot.val, fz, notR, tru, boolOf, ownOf, imOf, isLst, argsOf, ios, nodupN, Nv.fresh, outsTo, leave, cond_true, cond_false, Bool.not_true, Bool.not_false, sto, ↓reduceIte, bTurn, n_gt, decide_eq_true hr, n_int, n_mod rest 997 (by decide), n_fdiv rest 997 (by decide) (by decide), ap]
    · obtain ⟨ds', rest', w', h0, h1, h2⟩ := turn_ok C N S M a b c xs ds rest (.im x) (by simp at h ⊢; omega)
      refine ⟨ds', rest', w', h0, by simp at h1 ⊢; omega, fl_cons (st1 := [S, M, .ow (.list (ds.map nD)), a, b, c, .im (nD rest), .im x]) (st2 := [S, M, .ow (.list (ds.map nD)), a, b, c, .im (nD rest), .im x]) rfl ?_ h2⟩
      simp only [ex, ev, evB, evL, evF, evA, evO, sget, List.getD_cons_zero, List.getD_cons_succ, List.set_cons_zero, List.set_cons_succ, Option.bind_some, Option.map_some, dr, drs, Slot.val, fz, notR, tru, boolOf, ownOf, imOf, isLst, argsOf, ios, nodupN, Nv.fresh, outsTo, leave, cond_true, cond_false, Bool.not_true, Bool.not_false, sto, ↓reduceIte, bTurn, n_gt, decide_eq_false hr]
theorem take_ok (C : Orc) (N : Nat) (S M b w : Slot) (ds : List Nat) (mixed cell : Nat) (h : ds.length + 2 ≤ lim) :
    ∃ (ds' : List Nat) (rest : Nat), ds.length ≤ ds'.length ∧ ds'.length ≤ ds.length + 2 ∧ ex C N bTake [S, M, .ow (.list (ds.map nD)), .im (nD mixed), b, .im (nD cell), .im (nD 0), w] = some (.nx [S, M, .ow (.list (ds'.map nD)), .im (nD mixed), b, .im (nD cell), .im (nD rest), w]) := by
  by_cases hc : 10 ^ 18 ≤ cell
  · refine ⟨ds, cell, Nat.le_refl _, by omega, ?_⟩
    simp only [ex, ev, evB, evL, evF, evA, evO, sget, List.getD_cons_zero, List.getD_cons_succ, List.set_cons_zero, List.set_cons_succ, Option.bind_some, Option.map_some, dr, drs, Slot.val, fz, notR, tru, boolOf, ownOf, imOf, isLst, argsOf, ios, nodupN, Nv.fresh, outsTo, leave, cond_true, cond_false, Bool.not_true, Bool.not_false, sto, ↓reduceIte, bTake, n_pow, n_ge, decide_eq_true hc]
  · have ap := app_ok ds (cell % 997) (by omega)
    have ap2 := app_ok (ds ++ [cell % 997]) ((mixed * 69621 + 5) % 65521 % 997) (by simp; omega)
    refine ⟨ds ++ [cell % 997] ++ [(mixed * 69621 + 5) % 65521 % 997], 0, by simp, by simp, ?_⟩
    simp only [ex, ev, evB, evL, evF, evA, evO, sget, List.getD_cons_zero, List.getD_cons_succ, List.set_cons_zero, List.set_cons_succ, Option.bind_some, Option.map_some, dr, drs, Slot.val, fz, notR, tru, boolOf, ownOf, imOf, isLst, argsOf, ios, nodupN, Nv.fresh, outsTo, leave, cond_true, cond_false, Bool.not_true, Bool.not_false, sto, ↓reduceIte, bTake, n_pow, n_ge, decide_eq_false hc, n_int, n_mod _ 997 (by decide), n_mod _ 65521 (by decide), n_add, n_mul _ 69621 (by decide), ap, ap2]
theorem cell_ok (C : Orc) (N : Nat) (M : Slot) (ns : List Int) (ds : List Nat) (mixed k : Nat) (hk : k < ns.length) (b c d e : Slot) (h : ds.length + 62 ≤ lim) :
    ∃ (ds' : List Nat) (mixed' : Nat) (c' d' e' : Slot), ds.length ≤ ds'.length ∧ ds'.length ≤ ds.length + 62 ∧ ex C N bCell [.im (.list (ns.map .int)), M, .ow (.list (ds.map nD)), .im (nD mixed), .im (nD k), c, d, e] = some (.nx [.im (.list (ns.map .int)), M, .ow (.list (ds'.map nD)), .im (nD mixed'), .im (nD k), c', d', e']) := by
  have hi : idxD (.list (ns.map .int)) (nD k) = some (.int (ns[k])) := idx_lst (by rw [List.getElem?_map, List.getElem?_eq_getElem hk]; rfl)
  obtain ⟨ds1, rest, t0, t1, t2⟩ := take_ok C N (.im (.list (ns.map .int))) M (.im (nD k)) e ds ((mixed * 48271 + ns[k].natAbs % 1000003 + k) % 65537) ns[k].natAbs (by omega)
  obtain ⟨ds2, rest2, w2, u0, u1, u2⟩ := turn_ok C N (.im (.list (ns.map .int))) M (.im (nD ((mixed * 48271 + ns[k].natAbs % 1000003 + k) % 65537))) (.im (nD k)) (.im (nD ns[k].natAbs)) (upto 0 60) ds1 rest e (by rw [upto_len]; omega)
  rw [upto_len] at u1
  refine ⟨ds2, (mixed * 48271 + ns[k].natAbs % 1000003 + k) % 65537, .im (nD ns[k].natAbs), .im (nD rest2), w2, by omega, by omega, ?_⟩
  refine x_seq (st1 := [.im (.list (ns.map .int)), M, .ow (.list (ds.map nD)), .im (nD mixed), .im (nD k), .im (nD ns[k].natAbs), d, e]) ?_ (x_seq (st1 := [.im (.list (ns.map .int)), M, .ow (.list (ds.map nD)), .im (nD ((mixed * 48271 + ns[k].natAbs % 1000003 + k) % 65537)), .im (nD k), .im (nD ns[k].natAbs), d, e]) ?_ (x_seq (st1 := [.im (.list (ns.map .int)), M, .ow (.list (ds.map nD)), .im (nD ((mixed * 48271 + ns[k].natAbs % 1000003 + k) % 65537)), .im (nD k), .im (nD ns[k].natAbs), .im (nD 0), e]) ?_ (x_seq t2 (x_for (i_rng (n := 60) (st1 := [.im (.list (ns.map .int)), M, .ow (.list (ds1.map nD)), .im (nD ((mixed * 48271 + ns[k].natAbs % 1000003 + k) % 65537)), .im (nD k), .im (nD ns[k].natAbs), .im (nD rest), e]) rfl (by decide)) u2))))
  · simp only [ex, ev, evB, evL, evF, evA, evO, sget, List.getD_cons_zero, List.getD_cons_succ, List.set_cons_zero, List.set_cons_succ, Option.bind_some, Option.map_some, dr, drs, Slot.val, fz, notR, tru, boolOf, ownOf, imOf, isLst, argsOf, ios, nodupN, Nv.fresh, outsTo, leave, cond_true, cond_false, Bool.not_true, Bool.not_false, sto, ↓reduceIte, hi, z_int, z_abs]
  · simp only [ex, ev, evB, evL, evF, evA, evO, sget, List.getD_cons_zero, List.getD_cons_succ, List.set_cons_zero, List.set_cons_succ, Option.bind_some, Option.map_some, dr, drs, Slot.val, fz, notR, tru, boolOf, ownOf, imOf, isLst, argsOf, ios, nodupN, Nv.fresh, outsTo, leave, cond_true, cond_false, Bool.not_true, Bool.not_false, sto, ↓reduceIte, n_mul _ 48271 (by decide), n_mod _ 1000003 (by decide), n_add, n_int, n_mod _ 65537 (by decide)]
  · simp only [ex, ev, evB, evL, evF, evA, evO, sget, List.getD_cons_zero, List.getD_cons_succ, List.set_cons_zero, List.set_cons_succ, Option.bind_some, Option.map_some, dr, drs, Slot.val, fz, notR, tru, boolOf, ownOf, imOf, isLst, argsOf, ios, nodupN, Nv.fresh, outsTo, leave, cond_true, cond_false, Bool.not_true, Bool.not_false, sto, ↓reduceIte, ]
theorem cells_ok (C : Orc) (N : Nat) (M : Slot) (ns : List Int) : ∀ (n k : Nat), k + n = ns.length → ∀ (ds : List Nat) (mixed : Nat) (b c d e : Slot), ds.length + 62 * n ≤ lim →
    ∃ (ds' : List Nat) (mixed' : Nat) (b' c' d' e' : Slot), ds.length ≤ ds'.length ∧ ds'.length ≤ ds.length + 62 * n ∧ forL (bindT (.nm 4)) (ex C N bCell) (upto k n) [.im (.list (ns.map .int)), M, .ow (.list (ds.map nD)), .im (nD mixed), b, c, d, e] = some (.nx [.im (.list (ns.map .int)), M, .ow (.list (ds'.map nD)), .im (nD mixed'), b', c', d', e'])
  | 0, k, _, ds, mixed, b, c, d, e, _ => ⟨ds, mixed, b, c, d, e, by omega, by omega, rfl⟩
  | n + 1, k, hk, ds, mixed, b, c, d, e, h => by
    obtain ⟨ds1, m1, c1, d1, e1, t0, t1, t2⟩ := cell_ok C N M ns ds mixed k (by omega) b c d e (by omega)
    obtain ⟨ds', m', b', c', d', e', u0, u1, u2⟩ := cells_ok C N M ns n (k + 1) (by omega) ds1 m1 (.im (nD k)) c1 d1 e1 (by omega)
    exact ⟨ds', m', b', c', d', e', by omega, by omega, fl_cons rfl t2 u2⟩
theorem more_ok (C : Orc) (N : Nat) (S M c d e : Slot) : ∀ (n k : Nat) (ds : List Nat) (mixed : Nat) (b : Slot), ds.length + n ≤ lim →
    ∃ (ds' : List Nat) (mixed' : Nat) (b' : Slot), ds'.length = ds.length + n ∧ forL (bindT (.nm 4)) (ex C N bMore) (upto k n) [S, M, .ow (.list (ds.map nD)), .im (nD mixed), b, c, d, e] = some (.nx [S, M, .ow (.list (ds'.map nD)), .im (nD mixed'), b', c, d, e])
  | 0, k, ds, mixed, b, _ => ⟨ds, mixed, b, rfl, rfl⟩
  | n + 1, k, ds, mixed, b, h => by
    have ap := app_ok ds ((mixed * 16807 + k + 1) % 65537 % 997) (by omega)
    obtain ⟨ds', m', b', u0, u1⟩ := more_ok C N S M c d e n (k + 1) (ds ++ [(mixed * 16807 + k + 1) % 65537 % 997]) ((mixed * 16807 + k + 1) % 65537) (.im (nD k)) (by simp; omega)
    refine ⟨ds', m', b', by rw [u0, List.length_append]; simp; omega, fl_cons (st1 := [S, M, .ow (.list (ds.map nD)), .im (nD mixed), .im (nD k), c, d, e]) (st2 := [S, M, .ow (.list ((ds ++ [(mixed * 16807 + k + 1) % 65537 % 997]).map nD)), .im (nD ((mixed * 16807 + k + 1) % 65537)), .im (nD k), c, d, e]) rfl ?_ u1⟩
    simp only [ex, ev, evB, evL, evF, evA, evO, sget, List.getD_cons_zero, List.getD_cons_succ, List.set_cons_zero, List.set_cons_succ, Option.bind_some, Option.map_some, dr, drs, Slot.val, fz, notR, tru, boolOf, ownOf, imOf, isLst, argsOf, ios, nodupN, Nv.fresh, outsTo, leave, cond_true, cond_false, Bool.not_true, Bool.not_false, sto, ↓reduceIte, bMore, n_mul _ 16807 (by decide), n_add, n_int, n_mod _ 65537 (by decide), n_mod _ 997 (by decide), ap]
/-- the draws: some numbers -/
theorem draws_ok (C : Orc) (N : Nat) (ns : List Int) (many : Nat) (hn : ns.length ≤ 63) (hm : many ≤ 10000) : ∃ (ds : List Nat) (st' : Sg), ex C N bDraws [.im (.list (ns.map .int)), .im (nD many), .un, .un, .un, .un, .un, .un] = some (.rt (.tm (.list (ds.map nD))) st') := by
  have hL : lim = 16777216 := rfl
  obtain ⟨ds1, m1, b1, c1, d1, e1, t0, t1, t2⟩ := cells_ok C N (.im (nD many)) ns ns.length 0 (by omega) [] 7 .un .un .un .un (by simp; omega)
  obtain ⟨ds2, m2, b2, u0, u1⟩ := more_ok C N (.im (.list (ns.map .int))) (.im (nD many)) c1 d1 e1 many 0 ds1 m1 b1 (by simp at t1; omega)
  refine ⟨ds2.take many, [.im (.list (ns.map .int)), .im (nD many), .ow (.list (ds2.map nD)), .im (nD m2), b2, c1, d1, e1], x_seq (st1 := [.im (.list (ns.map .int)), .im (nD many), .ow (.list (([] : List Nat).map nD)), .un, .un, .un, .un, .un]) ?_ (x_seq (st1 := [.im (.list (ns.map .int)), .im (nD many), .ow (.list (([] : List Nat).map nD)), .im (nD 7), .un, .un, .un, .un]) ?_ (x_seq (x_for (l := none) ?_ t2) (x_seq (x_for (l := none) (i_rng (n := many) rfl (by omega)) u1) (x_ret (r := .tm (.list ((ds2.take many).map nD))) ?_ rfl))))⟩
  · rfl
  · rfl
  · refine i_rng (n := ns.length) ?_ (by omega)
    have l1 : bltD .len [.list (ns.map PyData.int)] = some (.im (nD ns.length)) := by
      show some (R.im (.int ((ns.map PyData.int).length : Int))) = _
      rw [List.length_map]
    simp only [ev, evB, evL, evF, evA, evO, sget, List.getD_cons_zero, List.getD_cons_succ, List.set_cons_zero, List.set_cons_succ, Option.bind_some, Option.map_some, dr, drs, Slot.val, fz, notR, tru, boolOf, ownOf, imOf, isLst, argsOf, ios, nodupN, Nv.fresh, outsTo, leave, cond_true, cond_false, Bool.not_true, Bool.not_false, sto, ↓reduceIte, l1]
  · have hs : slcD (.list (ds2.map nD)) none (some (nD many)) = some (.tm (.list ((ds2.take many).map nD))) := by
      show ((some 0).bind fun a => (some (if (0 : Int) ≤ (many : Int) then min ((many : Int).toNat) (ds2.map nD).length else _)).bind fun b => some (R.tm (.list (cut (ds2.map nD) a b)))) = _
      rw [if_pos (by omega), Option.bind_some, Option.bind_some, List.length_map, Int.toNat_natCast, show min many ds2.length = many by omega]
      show some (R.tm (.list ((ds2.map nD).take (many - 0)))) = _
      rw [Nat.sub_zero, List.map_take]
    simp only [ev, evB, evL, evF, evA, evO, sget, List.getD_cons_zero, List.getD_cons_succ, List.set_cons_zero, List.set_cons_succ, Option.bind_some, Option.map_some, dr, drs, Slot.val, fz, notR, tru, boolOf, ownOf, imOf, isLst, argsOf, ios, nodupN, Nv.fresh, outsTo, leave, cond_true, cond_false, Bool.not_true, Bool.not_false, sto, ↓reduceIte, Fl.unlock, Nv.unlock, hs]
end Nv
end
section
set_option linter.all false
set_option maxRecDepth 100000
namespace Nv
open PySem
mutual
/-- a value that is the same as itself, part by part, and how many parts it has -/
inductive Sm : D → Nat → Prop
  | leaf (d : D) : isTy d .dict = false → isTy d .tuple = false → isTy d .list = false → eqD d d = some true → Sm d 1
  | tup (xs : List D) (n : Nat) : Sms xs n → Sm (.tuple xs) (n + 1)
  | lst (xs : List D) (n : Nat) : Sms xs n → Sm (.list xs) (n + 1)
inductive Sms : List D → Nat → Prop
  | nl : Sms [] 0
  | cs (x : D) (xs : List D) (m n : Nat) : Sm x m → Sms xs n → Sms (x :: xs) (m + n)
end
theorem Sm.pos {d : D} {n : Nat} (h : Sm d n) : 1 ≤ n := by
  cases h <;> omega
theorem Sms.len : ∀ {xs : List D} {n : Nat}, Sms xs n → xs.length ≤ n
  | [], _, _ => Nat.zero_le _
  | x :: xs, _, .cs _ _ m n hx hs => by
    have := hx.pos
    have := Sms.len hs
    simp; omega
theorem Sms.app : ∀ {xs ys : List D} {m n : Nat}, Sms xs m → Sms ys n → Sms (xs ++ ys) (m + n)
  | [], ys, _, n, .nl, h => by rw [Nat.zero_add]; exact h
  | x :: xs, ys, _, n, .cs _ _ a b hx hs, h => by
    rw [Nat.add_assoc]
    exact .cs x (xs ++ ys) a (b + n) hx (Sms.app hs h)
theorem Sms.snoc : ∀ {xs : List D} {x : D} {n : Nat}, Sms (xs ++ [x]) n → ∃ a b, Sms xs a ∧ Sm x b ∧ n = a + b
  | [], x, _, .cs _ _ m _ hx .nl => ⟨0, m, .nl, hx, by omega⟩
  | y :: ys, x, _, .cs _ _ m n hy hs => by
    obtain ⟨a, b, ha, hb, e⟩ := Sms.snoc hs
    exact ⟨m + a, b, .cs y ys m a hy ha, hb, by omega⟩
/-- a pair on the heap of what waits -/
def prD (d : D) : D := .tuple [d, d]
def cWait : B := .of (.cmp .ne (.var 2) (.lst .nl))
def bDic : S :=
  (.seq (.iff (.or2 (.not1 (.of (.isi (.var 3) .dict))) (.or2 (.of (.cmp .ne (.blt .len (.cs (.var 3) .nl)) (.blt .len (.cs (.var 4) .nl)))) (.of (.cmp .ne (.lc (.var 5) (.nm 5) (.of (.var 4)) (.of (.cmp .nin (.var 5) (.var 3)))) (.lst .nl)))))
  (.ret (.cst (.bool false)))
  .pss)
  (.seq (.asg (.nm 6) (.blt .dict (.cs (.lc (.tup (.cs (.var 5) (.cs (.var 5) .nl))) (.nm 5) (.of (.var 3)) .yes) .nl)))
  (.exp (.mut .extend 2 (.cs (.bin .add (.lc (.tup (.cs (.idx (.var 3) (.var 5)) (.cs (.idx (.var 4) (.var 5)) .nl))) (.nm 5) (.of (.var 4)) .yes) (.lc (.tup (.cs (.idx (.var 6) (.var 5)) (.cs (.var 5) .nl))) (.nm 5) (.of (.var 4)) .yes)) .nl)))))
def bSeq : S :=
  (.seq (.iff (.or2 (.of (.cmp .ne (.isi (.var 3) .tuple) (.isi (.var 4) .tuple))) (.or2 (.of (.cmp .ne (.isi (.var 3) .list) (.isi (.var 4) .list))) (.of (.cmp .ne (.blt .len (.cs (.var 3) .nl)) (.blt .len (.cs (.var 4) .nl))))))
  (.ret (.cst (.bool false)))
  .pss)
  (.exp (.mut .extend 2 (.cs (.lc (.tup (.cs (.idx (.var 3) (.var 7)) (.cs (.idx (.var 4) (.var 7)) .nl))) (.nm 7) (.rng1 (.blt .len (.cs (.var 4) .nl))) .yes) .nl))))
def bLeaf : S :=
  (.iff (.or2 (.of (.cmp .ne (.isi (.var 3) .bool) (.isi (.var 4) .bool))) (.or2 (.of (.cmp .ne (.isi (.var 3) .int) (.isi (.var 4) .int))) (.or2 (.of (.cmp .ne (.isi (.var 3) .str) (.isi (.var 4) .str))) (.of (.cmp .ne (.var 3) (.var 4))))))
  (.ret (.cst (.bool false)))
  .pss)
def bWait : S :=
  (.seq (.asg (.pr [3, 4]) (.mut .pop0 2 .nl))
  (.iff (.of (.isi (.var 4) .dict)) bDic
  (.iff (.or2 (.of (.isi (.var 4) .tuple)) (.of (.isi (.var 4) .list))) bSeq bLeaf)))
theorem bSame_eq : bSame = (.seq (.asg (.nm 2) (.lst (.cs (.tup (.cs (.var 0) (.cs (.var 1) .nl))) .nl))) (.seq (.whl cWait bWait) (.ret (.cst (.bool true))))) := rfl
theorem e_ext {C : Orc} {i : Nat} {e : E} {st st1 : Sg} {r : R} {d x x' y : D} (h0 : isLst (sget st i) = true) (h1 : ev C e st = some (r, st1)) (h2 : dr st1 r = some d) (h3 : sget st1 i = .ow x) (h4 : mutD .extend x [d] = some (x', y)) : ev C (.mut .extend i (.cs e .nl)) st = some (.im y, st1.set i (.ow x')) := by
  show (if isLst (sget st i) then (((ev C e st).bind fun p => (some ([], p.2)).map fun q => (p.1 :: q.1, q.2)).bind fun p => (drs p.2 p.1).map fun ds => (ds, p.2)).bind fun p => (ownOf (sget p.2 i)).bind fun d => (mutD .extend d p.1).map fun (u : D × D) => (R.im u.2, p.2.set i (.ow u.1)) else none) = _
  rw [if_pos h0, h1]
  show ((drs st1 [r]).map fun ds => (ds, st1)).bind _ = _
  rw [show drs st1 [r] = some [d] by show (dr st1 r).bind _ = _; rw [h2]; rfl]
  show (ownOf (sget st1 i)).bind _ = _
  rw [h3]
  show (mutD .extend x [d]).map _ = _
  rw [h4]
  rfl
theorem bb (b : Bool) : cmpD .ne (.bool b) (.bool b) = some false := by cases b <;> rfl
theorem nn (n : Nat) : cmpD .ne (nD n) (nD n) = some false := by rw [n_ne]; simp
variable {C : Orc} {N : Nat} {a b : Slot}
theorem wait_go (ds : List D) (d : D) (c e f g h : Slot) : evB C cWait [a, b, .ow (.list ((ds ++ [d]).map prD)), c, e, f, g, h] = some (true, [a, b, .ow (.list ((ds ++ [d]).map prD)), c, e, f, g, h]) := by
  have hc : cmpD .ne (.list ((ds ++ [d]).map prD)) (.list []) = some true := by
    show (some ((ds ++ [d]).map prD).isEmpty).map not = _
    simp
  have hl : (([] : List D).length ≤ lim) := by decide
  simp only [ev, evB, evL, evF, evA, evO, sget, List.getD_cons_zero, List.getD_cons_succ, List.set_cons_zero, List.set_cons_succ, Option.bind_some, Option.map_some, dr, drs, Slot.val, fz, notR, tru, boolOf, ownOf, imOf, isLst, argsOf, ios, nodupN, Nv.fresh, outsTo, leave, cond_true, cond_false, Bool.not_true, Bool.not_false, sto, ↓reduceIte, cWait, hl, hc]
theorem wait_stop (c e f g h : Slot) : evB C cWait [a, b, .ow (.list (([] : List D).map prD)), c, e, f, g, h] = some (false, [a, b, .ow (.list (([] : List D).map prD)), c, e, f, g, h]) := rfl
theorem wait_pop (ds : List D) (d : D) (c e f g h : Slot) : ex C N (.asg (.pr [3, 4]) (.mut .pop0 2 .nl)) [a, b, .ow (.list ((ds ++ [d]).map prD)), c, e, f, g, h] = some (.nx [a, b, .ow (.list (ds.map prD)), .im d, .im d, f, g, h]) := by
  have hp : mutD .pop0 (.list ((ds ++ [d]).map prD)) [] = some (.list (ds.map prD), prD d) := by
    show ((ds ++ [d]).map prD).getLast?.map (fun x => (PyData.list ((ds ++ [d]).map prD).dropLast, x)) = _
    rw [List.map_append]
    simp
  simp only [ex, ev, evB, evL, evF, evA, evO, sget, List.getD_cons_zero, List.getD_cons_succ, List.set_cons_zero, List.set_cons_succ, Option.bind_some, Option.map_some, dr, drs, Slot.val, fz, notR, tru, boolOf, ownOf, imOf, isLst, argsOf, ios, nodupN, Nv.fresh, outsTo, leave, cond_true, cond_false, Bool.not_true, Bool.not_false, sto, ↓reduceIte, hp]
  rfl
theorem leaf_ok {d : D} (he : eqD d d = some true) (s f g h : Slot) : ex C N bLeaf [a, b, s, .im d, .im d, f, g, h] = some (.nx [a, b, s, .im d, .im d, f, g, h]) := by
  have h1 : cmpD .ne d d = some false := by
    show (eqD d d).map not = _
    rw [he]; rfl
  simp only [ex, ev, evB, evL, evF, evA, evO, sget, List.getD_cons_zero, List.getD_cons_succ, List.set_cons_zero, List.set_cons_succ, Option.bind_some, Option.map_some, dr, drs, Slot.val, fz, notR, tru, boolOf, ownOf, imOf, isLst, argsOf, ios, nodupN, Nv.fresh, outsTo, leave, cond_true, cond_false, Bool.not_true, Bool.not_false, sto, ↓reduceIte, bLeaf, bb, h1]
theorem seqs_ok (q : List D → D) (hq : ∀ (xs : List D) (i : Nat) (x : D), xs[i]? = some x → idxD (q xs) (nD i) = some x) (xs0 : List D) (s f g : Slot) : ∀ (xs : List D) (k : Nat) (h : Slot) (acc : List D), (∀ j, xs0[k + j]? = xs[j]?) → acc.length + xs.length ≤ lim →
    ∃ h', lcL (bindT (.nm 7)) (evB C .yes) (fun s => (ev C (.tup (.cs (.idx (.var 3) (.var 7)) (.cs (.idx (.var 4) (.var 7)) .nl))) s).bind fun u => fz u.2 u.1) (T.nm 7).own (upto k xs.length) [a, b, s, .im (q xs0), .im (q xs0), f, g, h] acc = some (acc ++ xs.map prD, [a, b, s, .im (q xs0), .im (q xs0), f, g, h'])
  | [], k, h, acc, _, _ => ⟨h, by simp only [List.map_nil, List.append_nil]; rfl⟩
  | x :: xs, k, h, acc, hx, hl => by
    obtain ⟨h', e⟩ := seqs_ok q hq xs0 s f g xs (k + 1) (.im (nD k)) (acc ++ [prD x]) (fun j => by have := hx (j + 1); rw [show k + 1 + j = k + (j + 1) by omega, this]; rfl) (by simp at hl ⊢; omega)
    have h0 : idxD (q xs0) (nD k) = some x := hq xs0 k x (hx 0)
    have hl2 : [x, x].length ≤ lim := by show 2 ≤ 16777216; omega
    refine ⟨h', ?_⟩
    rw [show acc ++ (x :: xs).map prD = acc ++ [prD x] ++ xs.map prD by simp]
    refine lc_take (st1 := [a, b, s, .im (q xs0), .im (q xs0), f, g, .im (nD k)]) (st2 := [a, b, s, .im (q xs0), .im (q xs0), f, g, .im (nD k)]) (st3 := [a, b, s, .im (q xs0), .im (q xs0), f, g, .im (nD k)]) (x := prD x) rfl rfl ?_ (by simp at hl; omega) e
    simp only [ev, evB, evL, evF, evA, evO, sget, List.getD_cons_zero, List.getD_cons_succ, List.set_cons_zero, List.set_cons_succ, Option.bind_some, Option.map_some, dr, drs, Slot.val, fz, notR, tru, boolOf, ownOf, imOf, isLst, argsOf, ios, nodupN, Nv.fresh, outsTo, leave, cond_true, cond_false, Bool.not_true, Bool.not_false, sto, ↓reduceIte, h0, hl2]
    rfl
theorem seq_ok (q : List D → D) (hq : ∀ (xs : List D) (i : Nat) (x : D), xs[i]? = some x → idxD (q xs) (nD i) = some x) (hn : ∀ xs, bltD .len [q xs] = some (.im (nD xs.length))) (ds xs : List D) (f g h : Slot) (hl : ds.length + xs.length ≤ lim) :
    ex C N bSeq [a, b, .ow (.list (ds.map prD)), .im (q xs), .im (q xs), f, g, h] = some (.nx [a, b, .ow (.list ((ds ++ xs).map prD)), .im (q xs), .im (q xs), f, g, h]) := by
  obtain ⟨h', e⟩ := seqs_ok (C := C) (a := a) (b := b) q hq xs (.ow (.list (ds.map prD))) f g xs 0 h [] (fun j => by rw [Nat.zero_add]) (by simp; omega)
  have he : ev C (.lc (.tup (.cs (.idx (.var 3) (.var 7)) (.cs (.idx (.var 4) (.var 7)) .nl))) (.nm 7) (.rng1 (.blt .len (.cs (.var 4) .nl))) .yes) [a, b, .ow (.list (ds.map prD)), .im (q xs), .im (q xs), f, g, h] = some (.tm (.list (xs.map prD)), [a, b, .ow (.list (ds.map prD)), .im (q xs), .im (q xs), f, g, h]) := by
    refine e_lc (l := none) (i_rng (n := xs.length) ?_ (by omega)) e
    simp only [ev, evB, evL, evF, evA, evO, sget, List.getD_cons_zero, List.getD_cons_succ, List.set_cons_zero, List.set_cons_succ, Option.bind_some, Option.map_some, dr, drs, Slot.val, fz, notR, tru, boolOf, ownOf, imOf, isLst, argsOf, ios, nodupN, Nv.fresh, outsTo, leave, cond_true, cond_false, Bool.not_true, Bool.not_false, sto, ↓reduceIte, hn]
  have hm : mutD .extend (.list (ds.map prD)) [.list (xs.map prD)] = some (.list ((ds ++ xs).map prD), .none) := by
    show (if (ds.map prD).length + (xs.map prD).length ≤ lim then some (PyData.list (ds.map prD ++ xs.map prD), PyData.none) else none) = _
    rw [List.length_map, List.length_map, if_pos hl, List.map_append]
  refine x_seq (st1 := [a, b, .ow (.list (ds.map prD)), .im (q xs), .im (q xs), f, g, h]) ?_ (x_exp ?_ (r := .im .none))
  · simp only [ex, ev, evB, evL, evF, evA, evO, sget, List.getD_cons_zero, List.getD_cons_succ, List.set_cons_zero, List.set_cons_succ, Option.bind_some, Option.map_some, dr, drs, Slot.val, fz, notR, tru, boolOf, ownOf, imOf, isLst, argsOf, ios, nodupN, Nv.fresh, outsTo, leave, cond_true, cond_false, Bool.not_true, Bool.not_false, sto, ↓reduceIte, bb, hn, nn]
  · exact e_ext (x := .list (ds.map prD)) (d := .list (xs.map prD)) rfl he rfl rfl hm
theorem waits_ok : ∀ (n : Nat) (ds : List D) (M : Nat) (c e f g h : Slot), Sms ds n → n < M → n ≤ 1000000 →
    ∃ c' e' f' g' h', whlL (evB C cWait) (ex C N bWait) M [a, b, .ow (.list (ds.map prD)), c, e, f, g, h] = some (.nx [a, b, .ow (.list []), c', e', f', g', h'])
  | n, ds, 0, c, e, f, g, h, _, hM, _ => absurd hM (by omega)
  | n, ds, M + 1, c, e, f, g, h, hp, hM, hn => by
    have hL : lim = 16777216 := rfl
    rcases List.eq_nil_or_concat ds with hd | ⟨ds', d, hd⟩
    · subst hd
      exact ⟨c, e, f, g, h, wl_stop (wait_stop c e f g h)⟩
    · rw [List.concat_eq_append] at hd
      subst hd
      obtain ⟨m, k, hm, hk, hs⟩ := hp.snoc
      have hlen := hm.len
      cases hk with
      | leaf _ h1 h2 h3 h4 =>
        obtain ⟨c', e', f', g', h', er⟩ := waits_ok (n - 1) ds' M (.im d) (.im d) f g h (by rw [show n - 1 = m by omega]; exact hm) (by omega) (by omega)
        refine ⟨c', e', f', g', h', wl_go (wait_go ds' d c e f g h) (x_seq (wait_pop ds' d c e f g h) (x_iff (st1 := [a, b, .ow (.list (ds'.map prD)), .im d, .im d, f, g, h]) ?_ (x_iff (st1 := [a, b, .ow (.list (ds'.map prD)), .im d, .im d, f, g, h]) ?_ (leaf_ok h4 _ _ _ _)))) er⟩
        · simp only [ev, evB, evL, evF, evA, evO, sget, List.getD_cons_zero, List.getD_cons_succ, List.set_cons_zero, List.set_cons_succ, Option.bind_some, Option.map_some, dr, drs, Slot.val, fz, notR, tru, boolOf, ownOf, imOf, isLst, argsOf, ios, nodupN, Nv.fresh, outsTo, leave, cond_true, cond_false, Bool.not_true, Bool.not_false, sto, ↓reduceIte, h1]
        · simp only [ev, evB, evL, evF, evA, evO, sget, List.getD_cons_zero, List.getD_cons_succ, List.set_cons_zero, List.set_cons_succ, Option.bind_some, Option.map_some, dr, drs, Slot.val, fz, notR, tru, boolOf, ownOf, imOf, isLst, argsOf, ios, nodupN, Nv.fresh, outsTo, leave, cond_true, cond_false, Bool.not_true, Bool.not_false, sto, ↓reduceIte, h2, h3]
      | tup xs q hx =>
        have hl := hx.len
        obtain ⟨c', e', f', g', h', er⟩ := waits_ok (n - 1) (ds' ++ xs) M (.im (.tuple xs)) (.im (.tuple xs)) f g h (by rw [show n - 1 = m + q by omega]; exact hm.app hx) (by omega) (by omega)
        refine ⟨c', e', f', g', h', wl_go (wait_go ds' _ c e f g h) (x_seq (wait_pop ds' _ c e f g h) (x_iff (st1 := [a, b, .ow (.list (ds'.map prD)), .im (.tuple xs), .im (.tuple xs), f, g, h]) rfl (x_ift (st1 := [a, b, .ow (.list (ds'.map prD)), .im (.tuple xs), .im (.tuple xs), f, g, h]) rfl (seq_ok .tuple (fun xs i x => idx_tup) (fun xs => rfl) ds' xs f g h (by omega))))) er⟩
      | lst xs q hx =>
        have hl := hx.len
        obtain ⟨c', e', f', g', h', er⟩ := waits_ok (n - 1) (ds' ++ xs) M (.im (.list xs)) (.im (.list xs)) f g h (by rw [show n - 1 = m + q by omega]; exact hm.app hx) (by omega) (by omega)
        refine ⟨c', e', f', g', h', wl_go (wait_go ds' _ c e f g h) (x_seq (wait_pop ds' _ c e f g h) (x_iff (st1 := [a, b, .ow (.list (ds'.map prD)), .im (.list xs), .im (.list xs), f, g, h]) rfl (x_ift (st1 := [a, b, .ow (.list (ds'.map prD)), .im (.list xs), .im (.list xs), f, g, h]) rfl (seq_ok .list (fun xs i x => idx_lst) (fun xs => rfl) ds' xs f g h (by omega))))) er⟩
/-- a value is the same as itself -/
theorem same_ok (C : Orc) (N : Nat) (d : D) (n : Nat) (h : Sm d n) (hN : n < N) (hn : n ≤ 1000000) : ∃ st', ex C N bSame [.im d, .im d, .un, .un, .un, .un, .un, .un] = some (.rt (.im (.bool true)) st') := by
  obtain ⟨c', e', f', g', h', er⟩ := waits_ok (C := C) (N := N) (a := .im d) (b := .im d) n [d] N .un .un .un .un .un (by have := Sms.cs d [] n 0 h .nl; rwa [Nat.add_zero] at this) hN hn
  refine ⟨[.im d, .im d, .ow (.list []), c', e', f', g', h'], ?_⟩
  rw [bSame_eq]
  exact x_seq (st1 := [.im d, .im d, .ow (.list ([d].map prD)), .un, .un, .un, .un, .un]) rfl (x_seq er (x_retI rfl))
end Nv
end
section
set_option linter.all false
set_option maxRecDepth 100000
namespace Nv
open PySem
section
variable {C : Orc} {N : Nat}
theorem lc_mapF {α : Type} {bnd : D → Sg → Option Sg} {cd : Sg → Option (Bool × Sg)} {el : Sg → Option (D × Sg)} {vs : List Nat} (S : Slot → Sg) (f : α → D) (p : α → Bool) (g : α → D) : ∀ (xs : List α) (w : Slot) (acc : List D),
    (∀ x ∈ xs, ∀ w, bnd (f x) (wipes (S w) vs) = some (S (.im (f x)))) → (∀ x ∈ xs, cd (S (.im (f x))) = some (p x, S (.im (f x)))) → (∀ x ∈ xs, p x = true → el (S (.im (f x))) = some (g x, S (.im (f x)))) → acc.length + xs.length ≤ lim →
    ∃ w', lcL bnd cd el vs (xs.map f) (S w) acc = some (acc ++ (xs.filter p).map g, S w')
  | [], w, acc, _, _, _, _ => ⟨w, by simp only [List.filter_nil, List.map_nil, List.append_nil]; rfl⟩
  | x :: xs, w, acc, h1, h2, h3, hl => by
    cases hp : p x with
    | true =>
      obtain ⟨w', e⟩ := lc_mapF S f p g xs (.im (f x)) (acc ++ [g x]) (fun y hy => h1 y (List.mem_cons_of_mem _ hy)) (fun y hy => h2 y (List.mem_cons_of_mem _ hy)) (fun y hy => h3 y (List.mem_cons_of_mem _ hy)) (by simp at hl ⊢; omega)
      refine ⟨w', ?_⟩
      rw [List.filter_cons, hp, if_pos rfl, List.map_cons, List.map_cons, show acc ++ g x :: (xs.filter p).map g = acc ++ [g x] ++ (xs.filter p).map g by simp]
      exact lc_take (h1 x List.mem_cons_self w) (by rw [h2 x List.mem_cons_self, hp]) (h3 x List.mem_cons_self hp) (by simp at hl; omega) e
    | false =>
      obtain ⟨w', e⟩ := lc_mapF S f p g xs (.im (f x)) acc (fun y hy => h1 y (List.mem_cons_of_mem _ hy)) (fun y hy => h2 y (List.mem_cons_of_mem _ hy)) (fun y hy => h3 y (List.mem_cons_of_mem _ hy)) (by simp at hl ⊢; omega)
      refine ⟨w', ?_⟩
      rw [List.filter_cons, hp, if_neg (by decide), List.map_cons]
      exact lc_drop (h1 x List.mem_cons_self w) (by rw [h2 x List.mem_cons_self, hp]) e
/-- a comprehension over xs: those that pass p, each as g of it -/
theorem e_lcF {α : Type} {elt : E} {it : I} {c : B} {t : T} {l : Option Nat} {st : Sg} (S : Slot → Sg) (f : α → D) (p : α → Bool) (g : α → D) (xs : List α) (w : Slot) (hi : evI C it st = some (xs.map f, l, S w))
    (h1 : ∀ x ∈ xs, ∀ w, bindT t (f x) (wipes (S w) t.own) = some (S (.im (f x)))) (h2 : ∀ x ∈ xs, evB C c (S (.im (f x))) = some (p x, S (.im (f x)))) (h3 : ∀ x ∈ xs, p x = true → (ev C elt (S (.im (f x)))).bind (fun u => fz u.2 u.1) = some (g x, S (.im (f x)))) (hl : xs.length ≤ lim) (hb : ∀ w', back (S w) (S w') t.own = S w) :
    ev C (.lc elt t it c) st = some (.tm (.list ((xs.filter p).map g)), unlock (S w) l) := by
  obtain ⟨w', e⟩ := lc_mapF (bnd := bindT t) (cd := evB C c) (el := fun s => (ev C elt s).bind fun u => fz u.2 u.1) (vs := t.own) S f p g xs w [] h1 h2 h3 (by simpa using hl)
  have := e_lc (l := l) hi e
  rw [hb w', List.nil_append] at this
  exact this
/-- .. all of them -/
theorem e_lcA {α : Type} {elt : E} {it : I} {t : T} {l : Option Nat} {st : Sg} (S : Slot → Sg) (f : α → D) (g : α → D) (xs : List α) (w : Slot) (hi : evI C it st = some (xs.map f, l, S w))
    (h1 : ∀ x ∈ xs, ∀ w, bindT t (f x) (wipes (S w) t.own) = some (S (.im (f x)))) (h3 : ∀ x ∈ xs, (ev C elt (S (.im (f x)))).bind (fun u => fz u.2 u.1) = some (g x, S (.im (f x)))) (hl : xs.length ≤ lim) (hb : ∀ w', back (S w) (S w') t.own = S w) :
    ev C (.lc elt t it .yes) st = some (.tm (.list (xs.map g)), unlock (S w) l) := by
  have := e_lcF (C := C) (elt := elt) (c := .yes) S f (fun _ => true) g xs w hi h1 (fun _ _ => rfl) (fun x hx _ => h3 x hx) hl hb
  rwa [show xs.filter (fun _ => true) = xs from List.filter_eq_self.mpr (fun _ _ => rfl)] at this
/-- what an own expression gives, kept -/
theorem el_im {e : E} {st st1 : Sg} {d : D} (h : ev C e st = some (.im d, st1)) : (ev C e st).bind (fun u => fz u.2 u.1) = some (d, st1) := by
  rw [h]; rfl
theorem el_tm {e : E} {st st1 : Sg} {d : D} (h : ev C e st = some (.tm d, st1)) : (ev C e st).bind (fun u => fz u.2 u.1) = some (d, st1) := by
  rw [h]; rfl
theorem evB_of {e : E} {st st1 : Sg} {b : Bool} (h : ev C e st = some (.im (.bool b), st1)) : evB C (.of e) st = some (b, st1) := by
  show (ev C e st).bind _ = _
  rw [h]; rfl
theorem e_not {e : E} {st st1 : Sg} {b : Bool} (h : ev C e st = some (.im (.bool b), st1)) : ev C (.not1 e) st = some (.im (.bool (!b)), st1) := by
  show (ev C e st).bind _ = _
  rw [h]; rfl
theorem evB_not {c : B} {st st1 : Sg} {b : Bool} (h : evB C c st = some (b, st1)) : evB C (.not1 c) st = some (!b, st1) := by
  show (evB C c st).map _ = _
  rw [h]; rfl
theorem evB_orT {c d : B} {st st1 : Sg} (h : evB C c st = some (true, st1)) : evB C (.or2 c d) st = some (true, st1) := by
  show (evB C c st).bind _ = _
  rw [h]; rfl
theorem evB_orF {c d : B} {st st1 : Sg} {r : Option (Bool × Sg)} (h : evB C c st = some (false, st1)) (h2 : evB C d st1 = r) : evB C (.or2 c d) st = r := by
  show (evB C c st).bind _ = _
  rw [h]; exact h2
theorem evB_andF {c d : B} {st st1 : Sg} (h : evB C c st = some (false, st1)) : evB C (.and2 c d) st = some (false, st1) := by
  show (evB C c st).bind _ = _
  rw [h]; rfl
theorem evB_andT {c d : B} {st st1 : Sg} {r : Option (Bool × Sg)} (h : evB C c st = some (true, st1)) (h2 : evB C d st1 = r) : evB C (.and2 c d) st = r := by
  show (evB C c st).bind _ = _
  rw [h]; exact h2
/-- a call of a def with values that nobody changes -/
theorem e_call1 {f : Nat} {a : E} {st st1 st2 : Sg} {r q : R} {x : D} (h1 : ev C a st = some (r, st1)) (h2 : fz st1 r = some (x, st2)) (hC : C f [(false, x)] = some (q, [])) (hq : Nv.fresh q = some q) : ev C (.call f (.cs a .nl)) st = some (q, st2) := by
  simp only [ev, evA, h1, h2, Option.bind_some, Option.map_some, argsOf, ios, nodupN, cond_true, hC, hq, outsTo]
theorem e_call2 {f : Nat} {a b : E} {st st1 st2 st3 st4 : Sg} {r s q : R} {x y : D} (h1 : ev C a st = some (r, st1)) (h2 : fz st1 r = some (x, st2)) (h3 : ev C b st2 = some (s, st3)) (h4 : fz st3 s = some (y, st4)) (hC : C f [(false, x), (false, y)] = some (q, [])) (hq : Nv.fresh q = some q) : ev C (.call f (.cs a (.cs b .nl))) st = some (q, st4) := by
  simp only [ev, evA, h1, h2, h3, h4, Option.bind_some, Option.map_some, argsOf, ios, nodupN, cond_true, hC, hq, outsTo]
theorem e_c1 {f : Nat} {a : E} {st : Sg} {q : R} {x : D} (h1 : ev C a st = some (.im x, st)) (hC : C f [(false, x)] = some (q, [])) (hq : Nv.fresh q = some q) : ev C (.call f (.cs a .nl)) st = some (q, st) := e_call1 h1 rfl hC hq
theorem e_c2 {f : Nat} {a b : E} {st : Sg} {q : R} {x y : D} (h1 : ev C a st = some (.im x, st)) (h3 : ev C b st = some (.im y, st)) (hC : C f [(false, x), (false, y)] = some (q, [])) (hq : Nv.fresh q = some q) : ev C (.call f (.cs a (.cs b .nl))) st = some (q, st) := e_call2 h1 rfl h3 rfl hC hq
/-- a call of a def with an own thing that it may change, and a value -/
theorem e_io {f i : Nat} {a : E} {st : Sg} {r q : R} {d d' x : D} (h0 : sget st i = .ow d) (h1 : ev C a st = some (r, st)) (h2 : fz st r = some (x, st)) (hC : C f [(true, d), (false, x)] = some (q, [d'])) (hq : Nv.fresh q = some q) : ev C (.call f (.io i (.cs a .nl))) st = some (q, st.set i (.ow d')) := by
  show ((ownOf (sget st i)).bind fun _ => ((ev C a st).bind fun p => (fz p.2 p.1).bind fun u => (some ([], u.2)).map fun q => (.inr u.1 :: q.1, q.2)).map fun q => (Sum.inl i :: q.1, q.2)).bind (fun p => (argsOf p.1 p.2).bind fun l => bif nodupN (ios p.1) then (C f l).bind fun q => (Nv.fresh q.1).bind fun r => (outsTo p.1 q.2 p.2).map fun st2 => (r, st2) else none) = _
  rw [h0, h1]
  show (((fz st r).bind fun u => (some ([], u.2)).map fun q => (.inr u.1 :: q.1, q.2)).map fun q => (Sum.inl i :: q.1, q.2)).bind _ = _
  rw [h2]
  show (argsOf [.inl i, .inr x] st).bind (fun l => (C f l).bind fun q => (Nv.fresh q.1).bind fun r => (outsTo [.inl i, .inr x] q.2 st).map fun st2 => (r, st2)) = _
  rw [show argsOf [.inl i, .inr x] st = some [(true, d), (false, x)] by show (match sget st i with | .ow d => (argsOf [.inr x] st).map ((true, d) :: ·) | _ => none) = _; rw [h0]; rfl, Option.bind_some, hC, Option.bind_some, hq]
  rfl
theorem x_forE {t : T} {it : I} {b : S} {st st1 : Sg} {xs : List D} {l : Option Nat} {fl fl2 : Fl} (h1 : evI C it st = some (xs, l, st1)) (h2 : forL (bindT t) (ex C N b) xs st1 = some fl) (h3 : fl.unlock l = fl2) : ex C N (.for_ t it b) st = some fl2 := by
  rw [← h3]; exact x_for h1 h2
theorem x_pass {c : B} {a : S} {st : Sg} (h : evB C c st = some (false, st)) : ex C N (.iff c a .pss) st = some (.nx st) := x_iff h rfl
theorem f_cs {a : E} {r : L} {st st1 st2 st3 : Sg} {x : R} {d : D} {ds : List D} (h1 : ev C a st = some (x, st1)) (h2 : fz st1 x = some (d, st2)) (h3 : evF C r st2 = some (ds, st3)) : evF C (.cs a r) st = some (d :: ds, st3) := by
  show (ev C a st).bind _ = _
  rw [h1]
  show (fz st1 x).bind _ = _
  rw [h2]
  show (evF C r st2).map _ = _
  rw [h3]; rfl
theorem f_im {a : E} {r : L} {st : Sg} {d : D} {ds : List D} (h1 : ev C a st = some (.im d, st)) (h3 : evF C r st = some (ds, st)) : evF C (.cs a r) st = some (d :: ds, st) := f_cs h1 rfl h3
theorem f_tm {a : E} {r : L} {st : Sg} {d : D} {ds : List D} (h1 : ev C a st = some (.tm d, st)) (h3 : evF C r st = some (ds, st)) : evF C (.cs a r) st = some (d :: ds, st) := f_cs h1 rfl h3
theorem e_tup {es : L} {st st1 : Sg} {ds : List D} (h : evF C es st = some (ds, st1)) (hl : ds.length ≤ lim) : ev C (.tup es) st = some (.im (.tuple ds), st1) := by
  show (evF C es st).bind _ = _
  rw [h]
  exact if_pos hl
theorem e_lst {es : L} {st st1 : Sg} {ds : List D} (h : evF C es st = some (ds, st1)) (hl : ds.length ≤ lim) : ev C (.lst es) st = some (.tm (.list ds), st1) := by
  show (evF C es st).bind _ = _
  rw [h]
  exact if_pos hl
theorem i_own {i : Nat} {st : Sg} {xs : List D} (h : sget st i = .ow (.list xs)) : evI C (.of (.var i)) st = some (xs, some i, st.set i (.lk (.list xs))) := by
  show (ev C (.var i) st).bind (fun p => (dr p.2 p.1).bind fun d => (walkD d).map fun xs => (xs, (lock p.2 p.1).2, (lock p.2 p.1).1)) = _
  rw [show ev C (.var i) st = some (.sl i, st) by show (match sget st i with | .un => none | .im d => some (R.im d, st) | .ow _ => some (.sl i, st) | .lk _ => some (.sl i, st)) = _; rw [h]]
  show ((sget st i).val).bind (fun d => (walkD d).map fun xs => (xs, (lock st (.sl i)).2, (lock st (.sl i)).1)) = _
  have : lock st (.sl i) = (st.set i (.lk (.list xs)), some i) := by
    unfold lock
    simp only [h]
  rw [this, h]
  rfl
theorem i_lk {i : Nat} {st : Sg} {xs : List D} (h : sget st i = .lk (.list xs)) : evI C (.of (.var i)) st = some (xs, none, st) := by
  show (ev C (.var i) st).bind (fun p => (dr p.2 p.1).bind fun d => (walkD d).map fun xs => (xs, (lock p.2 p.1).2, (lock p.2 p.1).1)) = _
  rw [show ev C (.var i) st = some (.sl i, st) by show (match sget st i with | .un => none | .im d => some (R.im d, st) | .ow _ => some (.sl i, st) | .lk _ => some (.sl i, st)) = _; rw [h]]
  show ((sget st i).val).bind (fun d => (walkD d).map fun xs => (xs, (lock st (.sl i)).2, (lock st (.sl i)).1)) = _
  have : lock st (.sl i) = (st, none) := by
    unfold lock
    simp only [h]
  rw [this, h]
  rfl
/-- .. a blt of one thing -/
theorem e_blt1 {f : Blt} {a : E} {st st1 : Sg} {r q : R} {x : D} (h1 : ev C a st = some (r, st1)) (h2 : dr st1 r = some x) (hq : bltD f [x] = some q) : ev C (.blt f (.cs a .nl)) st = some (q, st1) := by
  simp only [ev, evL, drs, h1, h2, Option.bind_some, Option.map_some, hq]
theorem w_of {e : E} {st st1 : Sg} {d : D} {xs : List D} (h : ev C e st = some (.im d, st1)) (hw : walkD d = some xs) : evI C (.of e) st = some (xs, none, st1) := by
  show (ev C e st).bind (fun p => (dr p.2 p.1).bind fun d => (walkD d).map fun xs => (xs, (lock p.2 p.1).2, (lock p.2 p.1).1)) = _
  rw [h]
  show (walkD d).map (fun xs => (xs, (none : Option Nat), st1)) = _
  rw [hw]; rfl
theorem w_ofT {e : E} {st st1 : Sg} {d : D} {xs : List D} (h : ev C e st = some (.tm d, st1)) (hw : walkD d = some xs) : evI C (.of e) st = some (xs, none, st1) := by
  show (ev C e st).bind (fun p => (dr p.2 p.1).bind fun d => (walkD d).map fun xs => (xs, (lock p.2 p.1).2, (lock p.2 p.1).1)) = _
  rw [h]
  show (walkD d).map (fun xs => (xs, (none : Option Nat), st1)) = _
  rw [hw]; rfl
end
theorem bools_map {α : Type} (g : α → Bool) : ∀ xs : List α, bools (xs.map fun x => .bool (g x)) = some (xs.map g)
  | [] => rfl
  | x :: xs => by
    show (bools (xs.map fun x => .bool (g x))).map (g x :: ·) = _
    rw [bools_map g xs]; rfl
theorem all_map {α : Type} (g : α → Bool) (xs : List α) : bltD .all [.list (xs.map fun x => .bool (g x))] = some (.im (.bool (xs.all g))) := by
  show (bools (xs.map fun x => .bool (g x))).map (fun bs => R.im (.bool (bs.all id))) = _
  rw [bools_map]
  show some (R.im (.bool ((xs.map g).all id))) = _
  rw [List.all_map]; rfl
theorem any_map {α : Type} (g : α → Bool) (xs : List α) : bltD .any [.list (xs.map fun x => .bool (g x))] = some (.im (.bool (xs.any g))) := by
  show (bools (xs.map fun x => .bool (g x))).map (fun bs => R.im (.bool (bs.any id))) = _
  rw [bools_map]
  show some (R.im (.bool ((xs.map g).any id))) = _
  rw [List.any_map]; rfl
section
variable {ds : List Df} {N : Nat}
theorem run_draws {f : Nat} (h : ds[f]? = some ⟨[false, false], 8, bDraws⟩) (ns : List Int) (many k : Nat) (hn : ns.length ≤ 63) (hm : many ≤ 10000) : ∃ xs : List Nat, callF ds N (k + 1) f [(false, .list (ns.map .int)), (false, nD many)] = some (.tm (.list (xs.map nD)), []) := by
  obtain ⟨xs, st', e⟩ := draws_ok (callF ds N k) N ns many hn hm
  exact ⟨xs, run_rt h rfl e rfl⟩
theorem run_next {f : Nat} (h : ds[f]? = some ⟨[true, false], 2, bNext⟩) (xs : List Nat) (p m k : Nat) (hm : 0 < m) : callF ds N (k + 1) f [(true, wD xs p), (false, nD m)] = some (.im (nD (nxt xs p m)), [wD xs (p + 1)]) :=
  run_rt h rfl (next_ok (callF ds N k) N xs p m hm) rfl
theorem run_same {f : Nat} (h : ds[f]? = some ⟨[false, false], 8, bSame⟩) (d : D) (n k : Nat) (hp : Sm d n) (hn : n ≤ 90000) (hN : 100000 ≤ N) : callF ds N (k + 1) f [(false, d), (false, d)] = some (.im (.bool true), []) := by
  obtain ⟨st', e⟩ := same_ok (callF ds N k) N d n hp (by omega) (by omega)
  exact run_rt h rfl e rfl
theorem run_pick {f j : Nat} (hj : ds[j]? = some ⟨[true, false], 2, bNext⟩) (h : ds[f]? = some ⟨[true, false], 2, bPick j⟩) (xs : List Nat) (p k : Nat) (rows : List D) (hr : 0 < rows.length) : ∃ (i : Nat) (hi : i < rows.length), callF ds N (k + 2) f [(true, wD xs p), (false, .list rows)] = some (.im rows[i], [wD xs (p + 1)]) := by
  have hi := nxt_lt (ds := xs) (p := p) hr
  refine ⟨nxt xs p rows.length, hi, ?_⟩
  have hc := run_next (N := N) hj xs p rows.length k hr
  have hl : bltD .len [.list rows] = some (.im (nD rows.length)) := rfl
  have hx : idxD (.list rows) (nD (nxt xs p rows.length)) = some rows[nxt xs p rows.length] := idx_lst (List.getElem?_eq_getElem hi)
  refine run_rt (st1 := [.ow (wD xs (p + 1)), .im (.list rows)]) (k := k + 1) h rfl ?_ rfl
  simp only [ex, ev, evB, evL, evF, evA, evO, sget, List.getD_cons_zero, List.getD_cons_succ, List.set_cons_zero, List.set_cons_succ, Option.bind_some, Option.map_some, dr, drs, Slot.val, fz, notR, tru, boolOf, ownOf, imOf, isLst, argsOf, ios, nodupN, Nv.fresh, outsTo, leave, cond_true, cond_false, Bool.not_true, Bool.not_false, sto, ↓reduceIte, bPick, List.replicate, List.length_cons, List.length_nil, List.append_nil, Nat.reduceAdd, Nat.reduceSub, hl, hc, List.contains_nil, hx]
  simp only [List.contains, List.elem, Bool.not_false, Bool.and_true, Bool.true_and, cond_true, Option.bind_some, Option.map_some, Nv.fresh, outsTo, List.set_cons_zero, sget, List.getD_cons_zero, List.getD_cons_succ, dr, hx, leave]
end
end Nv
end
section
set_option linter.all false
set_option maxRecDepth 100000
namespace Nv
open PySem
theorem upto_map : ∀ n k : Nat, upto k n = (List.range' k n).map nD
  | 0, _ => rfl
  | n + 1, k => by
    show nD k :: upto (k + 1) n = _
    rw [upto_map n (k + 1)]
    rfl
/-- a for over a range, S j the state ahead of the turn j -/
theorem for_to {bnd : D → Sg → Option Sg} {bd : Sg → Option Fl} (S : Nat → Slot → Sg) : ∀ (d k : Nat) (w : Slot), (∀ j w, k ≤ j → j < k + d → bnd (nD j) (S j w) = some (S j (.im (nD j))) ∧ bd (S j (.im (nD j))) = some (.nx (S (j + 1) (.im (nD j))))) → ∃ w', forL bnd bd (upto k d) (S k w) = some (.nx (S (k + d) w'))
  | 0, k, w, _ => ⟨w, rfl⟩
  | d + 1, k, w, h => by
    obtain ⟨a, b⟩ := h k w (Nat.le_refl _) (by omega)
    obtain ⟨w', e⟩ := for_to S d (k + 1) (.im (nD k)) (fun j w hj hj2 => h j w (by omega) (by omega))
    rw [show k + 1 + d = k + (d + 1) by omega] at e
    exact ⟨w', fl_cons a b e⟩
theorem bnd_nat (n d k : Nat) : bnd n d (some (nD k)) = some (min k n) := by
  show some (if (0 : Int) ≤ (k : Int) then min ((k : Int).toNat) n else _) = _
  rw [if_pos (by omega), Int.toNat_natCast]
theorem take_min {α : Type} (xs : List α) (k : Nat) : xs.take (min k xs.length) = xs.take k := by
  by_cases h : k ≤ xs.length
  · rw [Nat.min_eq_left h]
  · rw [Nat.min_eq_right (by omega), List.take_of_length_le (Nat.le_refl _), List.take_of_length_le (by omega)]
theorem cut_to {α : Type} (xs : List α) (k : Nat) : cut xs 0 (min k xs.length) = xs.take k := by
  unfold cut
  rw [List.drop_zero, Nat.sub_zero, take_min]
theorem cut_from {α : Type} (xs : List α) (k : Nat) : cut xs (min k xs.length) xs.length = xs.drop k := by
  unfold cut
  by_cases h : k ≤ xs.length
  · rw [Nat.min_eq_left h, List.take_of_length_le (by rw [List.length_drop]; exact Nat.le_refl _)]
  · rw [Nat.min_eq_right (by omega), List.drop_of_length_le (Nat.le_refl _), List.drop_of_length_le (by omega), List.take_nil]
theorem slc_tup_to (xs : List D) (k : Nat) : slcD (.tuple xs) none (some (nD k)) = some (.im (.tuple (xs.take k))) := by
  show ((some 0).bind fun a => (bnd xs.length xs.length (some (nD k))).bind fun b => some (R.im (.tuple (cut xs a b)))) = _
  rw [bnd_nat, Option.bind_some, Option.bind_some, cut_to]
theorem slc_tup_from (xs : List D) (k : Nat) : slcD (.tuple xs) (some (nD k)) none = some (.im (.tuple (xs.drop k))) := by
  show ((bnd xs.length 0 (some (nD k))).bind fun a => (some xs.length).bind fun b => some (R.im (.tuple (cut xs a b)))) = _
  rw [bnd_nat, Option.bind_some, Option.bind_some, cut_from]
theorem slc_lst_to (xs : List D) (k : Nat) : slcD (.list xs) none (some (nD k)) = some (.tm (.list (xs.take k))) := by
  show ((some 0).bind fun a => (bnd xs.length xs.length (some (nD k))).bind fun b => some (R.tm (.list (cut xs a b)))) = _
  rw [bnd_nat, Option.bind_some, Option.bind_some, cut_to]
theorem slc_lst_from (xs : List D) (k : Nat) : slcD (.list xs) (some (nD k)) none = some (.tm (.list (xs.drop k))) := by
  show ((bnd xs.length 0 (some (nD k))).bind fun a => (some xs.length).bind fun b => some (R.tm (.list (cut xs a b)))) = _
  rw [bnd_nat, Option.bind_some, Option.bind_some, cut_from]
/-- xs[a:b] -/
theorem slc_lst (xs : List D) (j k : Nat) (h : k ≤ xs.length) : slcD (.list xs) (some (nD j)) (some (nD k)) = some (.tm (.list ((xs.drop j).take (k - j)))) := by
  show ((bnd xs.length 0 (some (nD j))).bind fun a => (bnd xs.length xs.length (some (nD k))).bind fun b => some (R.tm (.list (cut xs a b)))) = _
  rw [bnd_nat, bnd_nat, Option.bind_some, Option.bind_some, Nat.min_eq_left h]
  unfold cut
  by_cases hj : j ≤ xs.length
  · rw [Nat.min_eq_left hj]
  · rw [Nat.min_eq_right (by omega), show k - j = 0 by omega, List.take_zero, show k - xs.length = 0 by omega, List.take_zero]
theorem cat_tup (xs ys : List D) (h : xs.length + ys.length ≤ lim) : binD .add (.tuple xs) (.tuple ys) = some (.im (.tuple (xs ++ ys))) := if_pos h
theorem cat_lst (xs ys : List D) (h : xs.length + ys.length ≤ lim) : binD .add (.list xs) (.list ys) = some (.tm (.list (xs ++ ys))) := if_pos h
theorem len_lst (xs : List D) : bltD .len [.list xs] = some (.im (nD xs.length)) := rfl
theorem len_tup (xs : List D) : bltD .len [.tuple xs] = some (.im (nD xs.length)) := rfl
theorem ints_map {α : Type} (g : α → Nat) : ∀ xs : List α, intsOf (xs.map fun x => nD (g x)) = some (xs.map fun x => (g x : Int))
  | [] => rfl
  | x :: xs => by
    show (intsOf (xs.map fun x => nD (g x))).map ((g x : Int) :: ·) = _
    rw [ints_map g xs]; rfl
theorem sum_cast {α : Type} (g : α → Nat) : ∀ xs : List α, (xs.map fun x => (g x : Int)).sum = (((xs.map g).sum : Nat) : Int)
  | [] => rfl
  | x :: xs => by
    rw [List.map_cons, List.sum_cons, List.map_cons, List.sum_cons, sum_cast g xs, Int.natCast_add]
theorem sum_map {α : Type} (g : α → Nat) (xs : List α) : bltD .sum [.list (xs.map fun x => nD (g x))] = some (.im (nD (xs.map g).sum)) := by
  show (some (xs.map fun x => nD (g x))).bind (fun xs => (intsOf xs).map fun is => R.im (.int is.sum)) = _
  rw [Option.bind_some, ints_map]
  show some (R.im (.int (xs.map fun x => (g x : Int)).sum)) = _
  rw [sum_cast]
theorem sortable_nat (ns : List Nat) : sortable (ns.map nD) = true := by
  unfold sortable allAlike
  have h1 : (ns.map nD).all (fun x => SeqAt.shaped x) = true := by
    rw [List.all_map, List.all_eq_true]; intro n _; rfl
  have h2 : (ns.map nD).all (fun x => (ns.map nD).all fun y => W.alike x y) = true := by
    rw [List.all_map, List.all_eq_true]; intro n _
    show (ns.map nD).all (fun y => W.alike (nD n) y) = true
    rw [List.all_map, List.all_eq_true]; intro m _; rfl
  rw [h1, h2, Bool.true_and, Bool.true_and, Bool.or_eq_true]
  right
  rw [List.all_map, List.all_eq_true]
  intro n _
  rfl
theorem lt_nat (a b : Nat) : W.dataLt (nD a) (nD b) = decide (a < b) := by
  rw [W.dataLt_int]; simp
theorem fold_max : ∀ (ns : List Nat) (m : Nat), (ns.map nD).foldl (fun m y => if W.dataLt m y then y else m) (nD m) = nD (ns.foldl max m)
  | [], m => rfl
  | n :: ns, m => by
    rw [List.map_cons, List.foldl_cons, List.foldl_cons, lt_nat]
    by_cases h : m < n
    · rw [if_pos (by simpa using h), fold_max ns n, show max m n = n by omega]
    · rw [if_neg (by simpa using h), fold_max ns m, show max m n = m by omega]
theorem fold_min : ∀ (ns : List Nat) (m : Nat), (ns.map nD).foldl (fun m y => if W.dataLt y m then y else m) (nD m) = nD (ns.foldl min m)
  | [], m => rfl
  | n :: ns, m => by
    rw [List.map_cons, List.foldl_cons, List.foldl_cons, lt_nat]
    by_cases h : n < m
    · rw [if_pos (by simpa using h), fold_min ns n, show min m n = n by omega]
    · rw [if_neg (by simpa using h), fold_min ns m, show min m n = m by omega]
theorem max_nat (n : Nat) (ns : List Nat) : bltD .max [.list ((n :: ns).map nD)] = some (.im (nD (ns.foldl max n))) := by
  show (some ((n :: ns).map nD)).bind (fun xs => if sortable xs then (maxD xs).map R.im else none) = _
  rw [Option.bind_some, if_pos (sortable_nat _)]
  show some (R.im ((ns.map nD).foldl (fun m y => if W.dataLt m y then y else m) (nD n))) = _
  rw [fold_max]
theorem min_nat (n : Nat) (ns : List Nat) : bltD .min [.list ((n :: ns).map nD)] = some (.im (nD (ns.foldl min n))) := by
  show (some ((n :: ns).map nD)).bind (fun xs => if sortable xs then (minD xs).map R.im else none) = _
  rw [Option.bind_some, if_pos (sortable_nat _)]
  show some (R.im ((ns.map nD).foldl (fun m y => if W.dataLt y m then y else m) (nD n))) = _
  rw [fold_min]
theorem max2_nat (a b : Nat) : bltD .max2 [nD a, nD b] = some (.im (nD (max a b))) := by
  show some (R.im (.int (if (b : Int) > (a : Int) then (b : Int) else (a : Int)))) = _
  rw [show (if (b : Int) > (a : Int) then (b : Int) else (a : Int)) = ((max a b : Nat) : Int) by split <;> omega]
theorem n_sub (a b : Nat) (h : b ≤ a) : binD .sub (nD a) (nD b) = some (.im (nD (a - b))) := by
  show some (R.im (.int ((a : Int) - (b : Int)))) = _
  rw [show (a : Int) - (b : Int) = ((a - b : Nat) : Int) by omega]
theorem n_le (a b : Nat) : cmpD .le (nD a) (nD b) = some (decide (a ≤ b)) := n_ge b a
/-- the last one -/
theorem idx_last (xs : List D) (x : D) : idxD (.list (xs ++ [x])) (.int (-1)) = some x := by
  show ((place (xs ++ [x]).length (-1)).bind fun k => (xs ++ [x])[k]?) = _
  have : place (xs ++ [x]).length (-1) = some xs.length := by
    unfold place
    rw [if_neg (by decide), if_pos (by simp; omega)]
    congr 1
    simp
    omega
  rw [this, Option.bind_some]
  simp
theorem idx_lastT (xs : List D) (x : D) : idxD (.tuple (xs ++ [x])) (.int (-1)) = some x := idx_last xs x
theorem pop_at (xs : List D) (b : Nat) (x : D) (h : xs[b]? = some x) : mutD .pop1 (.list xs) [nD b] = some (.list (xs.eraseIdx b), x) := by
  obtain ⟨hl, _⟩ := List.getElem?_eq_some_iff.mp h
  show ((place xs.length (b : Int)).bind fun k => xs[k]?.map fun y => (PyData.list (xs.eraseIdx k), y)) = _
  have : place xs.length (b : Int) = some b := by
    unfold place
    rw [if_pos (by omega), if_pos (by omega)]
    simp
  rw [this, Option.bind_some, h]; rfl
theorem push_at (xs : List D) (x : D) (h : xs.length < lim) : mutD .append (.list xs) [x] = some (.list (xs ++ [x]), .none) := if_pos h
section
variable {C : Orc} {N : Nat}
theorem rngW2 {m n : Nat} (hm : m ≤ lim) (hn : n ≤ lim) : rngW [nD m, nD n] = some (upto m (n - m)) := by
  rw [rngW.eq_2, if_pos ⟨okR_nat hm, okR_nat hn⟩, rngD_upto]
theorem w_rng2X {a b : E} {st : Sg} {x y : D} {xs : List D} (h1 : ev C a st = some (.im x, st)) (h2 : ev C b st = some (.im y, st)) (h3 : rngW [x, y] = some xs) : evI C (.rng2 a b) st = some (xs, none, st) := by
  show (ev C a st).bind (fun p => (ev C b p.2).bind fun q => (dr q.2 p.1).bind fun x => (dr q.2 q.1).bind fun y => (rngW [x, y]).map fun xs => (xs, none, q.2)) = _
  rw [h1, Option.bind_some, h2, Option.bind_some]
  show (rngW [x, y]).map (fun xs => (xs, (none : Option Nat), st)) = _
  rw [h3]; rfl
theorem w_rng2 {a b : E} {st : Sg} {m n : Nat} (h1 : ev C a st = some (.im (nD m), st)) (h2 : ev C b st = some (.im (nD n), st)) (hm : m ≤ lim) (hn : n ≤ lim) : evI C (.rng2 a b) st = some (upto m (n - m), none, st) := w_rng2X h1 h2 (rngW2 hm hn)
theorem e_ife {c : B} {a b : E} {st st1 : Sg} {q : Bool} (h : evB C c st = some (q, st1)) : ev C (.ife c a b) st = if q then ev C a st1 else ev C b st1 := by
  show (evB C c st).bind _ = _
  rw [h]
  cases q <;> rfl
theorem e_c3 {f : Nat} {a b c : E} {st : Sg} {q : R} {x y z : D} (h1 : ev C a st = some (.im x, st)) (h3 : ev C b st = some (.im y, st)) (h5 : ev C c st = some (.im z, st)) (hC : C f [(false, x), (false, y), (false, z)] = some (q, [])) (hq : Nv.fresh q = some q) : ev C (.call f (.cs a (.cs b (.cs c .nl)))) st = some (q, st) := by
  simp only [ev, evA, h1, h3, h5, fz, Option.bind_some, Option.map_some, argsOf, ios, nodupN, cond_true, hC, hq, outsTo]
theorem e_c4 {f : Nat} {a b c d : E} {st : Sg} {q : R} {x y z u : D} (h1 : ev C a st = some (.im x, st)) (h3 : ev C b st = some (.im y, st)) (h5 : ev C c st = some (.im z, st)) (h6 : ev C d st = some (.im u, st)) (hC : C f [(false, x), (false, y), (false, z), (false, u)] = some (q, [])) (hq : Nv.fresh q = some q) : ev C (.call f (.cs a (.cs b (.cs c (.cs d .nl))))) st = some (q, st) := by
  simp only [ev, evA, h1, h3, h5, h6, fz, Option.bind_some, Option.map_some, argsOf, ios, nodupN, cond_true, hC, hq, outsTo]
theorem neg1 {st : Sg} : ev C (.neg (.cst (nD 1))) st = some (.im (.int (-1)), st) := rfl
/-- an item of an own list -/
theorem e_idxO {i : Nat} {e : E} {st : Sg} {x y d : D} (h1 : sget st i = .ow x) (h2 : ev C e st = some (.im y, st)) (hd : idxD x y = some d) : ev C (.idx (.var i) e) st = some (.im d, st) := by
  simp only [ev, h1, h2, dr, Slot.val, Option.bind_some, Option.map_some, hd]
theorem e_bin {o : Bop} {a b : E} {st : Sg} {x y : D} {q : R} (h1 : ev C a st = some (.im x, st)) (h2 : ev C b st = some (.im y, st)) (hq : binD o x y = some q) : ev C (.bin o a b) st = some (q, st) := by
  simp only [ev, h1, h2, dr, Option.bind_some, Option.map_some, hq]
/-- a list that is made, and another -/
theorem e_binT {o : Bop} {a b : E} {st : Sg} {x y : D} {q : R} (h1 : ev C a st = some (.tm x, st)) (h2 : ev C b st = some (.tm y, st)) (hq : binD o x y = some q) : ev C (.bin o a b) st = some (q, st) := by
  simp only [ev, h1, h2, dr, Option.bind_some, Option.map_some, hq]
/-- a list of the name i, and one that is made -/
theorem e_binO {o : Bop} {i : Nat} {b : E} {st : Sg} {x y : D} {q : R} (h1 : sget st i = .ow x) (h2 : ev C b st = some (.tm y, st)) (hq : binD o x y = some q) : ev C (.bin o (.var i) b) st = some (q, st) := by
  simp only [ev, h1, h2, dr, Slot.val, Option.bind_some, Option.map_some, hq]
theorem evB_cmp {o : Cop} {a b : E} {st : Sg} {x y : D} {v : Bool} (h1 : ev C a st = some (.im x, st)) (h2 : ev C b st = some (.im y, st)) (h3 : cmpD o x y = some v) : evB C (.of (.cmp o a b)) st = some (v, st) := by
  refine evB_of ?_
  simp only [ev, h1, h2, dr, Option.bind_some, Option.map_some, h3, notR]
theorem e_nil {st : Sg} : ev C (.tup .nl) st = some (.im (.tuple []), st) := e_tup (es := .nl) rfl (by decide)
/-- every law's first step -/
theorem x_w {f many : Nat} {st : Sg} {d : D} {xs : List Nat} (h0 : sget st 0 = .im d) (hd : C f [(false, d), (false, nD many)] = some (.tm (.list (xs.map nD)), [])) : ex C N (.asg (.nm 1) (.dct (.cs (.cst kDraws) (.cs (.call f (.cs (.var 0) (.cs (.cst (nD many)) .nl))) (.cs (.cst kAt) (.cs (.cst (nD 0)) .nl)))))) st = some (.nx (st.set 1 (.ow (wD xs 0)))) := by
  refine x_asg (r := .tm (wD xs 0)) (st1 := st) ?_ rfl
  have hv : ev C (.var 0) st = some (.im d, st) := by
    show (match sget st 0 with | .un => none | .im d => some (R.im d, st) | .ow _ => some (.sl 0, st) | .lk _ => some (.sl 0, st)) = _
    rw [h0]
  have hf := f_im (C := C) (a := .cst kDraws) (st := st) rfl (f_tm (e_c2 (b := .cst (nD many)) (a := .var 0) hv rfl hd rfl) (f_im (a := .cst kAt) rfl (f_im (a := .cst (nD 0)) (r := .nl) rfl rfl)))
  show (evF C _ _).bind _ = _
  rw [hf]
  rfl
/-- i.append(e) -/
theorem e_app1 {i : Nat} {e : E} {st st1 : Sg} {x x' d y : D} (h0 : sget st i = .ow x) (h1 : ev C e st = some (.im d, st1)) (h2 : isLst (.ow x) = true) (h3 : sget st1 i = .ow x) (h4 : mutD .append x [d] = some (x', y)) : ev C (.mut .append i (.cs e .nl)) st = some (.im y, st1.set i (.ow x')) := by
  have hi : isLst (sget st i) = true := by rw [h0]; exact h2
  simp only [ev, evF, hi, h1, fz, Option.bind_some, Option.map_some, h3, ownOf, h4, ↓reduceIte]
theorem e_idx {a i : E} {st : Sg} {x y d : D} (h1 : ev C a st = some (.im x, st)) (h2 : ev C i st = some (.im y, st)) (hd : idxD x y = some d) : ev C (.idx a i) st = some (.im d, st) := by
  simp only [ev, h1, h2, dr, Option.bind_some, Option.map_some, hd]
end
end Nv
end
section
set_option maxRecDepth 100000
set_option Elab.async false
set_option linter.all false
namespace L64
open PySem PySem.Spec PyProof.Rows L2 Nv
def top (i : Nat) : Stmt := PySem.Challenge.pw_neveratrest_k64_whole_ways_to_find_a_rin.main.body.getD i (.Pass ⟨0, 0, 0, 0⟩)
def r_by_two : Raw := ⟨"by_two", 1, ["steps", "x"], ["steps", "x", "one", "other", "asked", "begin", "long"], [false, false]⟩
def r_by_doubling : Raw := ⟨"by_doubling", 2, ["steps", "x"], ["steps", "x", "room", "long", "one", "other", "asked", "_", "begin"], [false, false]⟩
def r_by_least : Raw := ⟨"by_least", 3, ["steps", "x"], ["steps", "x", "kept", "place", "most"], [false, false]⟩
def r_by_marks : Raw := ⟨"by_marks", 4, ["steps", "x", "gap"], ["steps", "x", "gap", "marks", "place"], [false, false, false]⟩
def r_first_of_ring : Raw := ⟨"first_of_ring", 5, ["steps", "x"], ["steps", "x", "begin", "_"], [false, false]⟩
def r_is_in_ring : Raw := ⟨"is_in_ring", 6, ["steps", "x"], ["steps", "x"], [false, false]⟩
def r_meet_at : Raw := ⟨"meet_at", 7, ["steps", "one", "other"], ["steps", "one", "other", "met", "seen"], [false, false, false]⟩
def r__law_draws : Raw := ⟨"_law_draws", 9, ["script", "many"], ["script", "many", "draws", "mixed", "k", "cell", "rest", "turn"], [false, false]⟩
def r__law_next : Raw := ⟨"_law_next", 10, ["w", "many"], ["w", "many"], [true, false]⟩
def r__law_pick : Raw := ⟨"_law_pick", 11, ["w", "rows"], ["w", "rows"], [true, false]⟩
def r__law_same : Raw := ⟨"_law_same", 12, ["seen", "due"], ["seen", "due", "waiting", "one", "other", "key", "keys", "k"], [false, false]⟩
def r__law_rows : Raw := ⟨"_law_rows", 13, ["steps", "x"], ["steps", "x", "row", "k"], [false, false]⟩
def r_law : Raw := ⟨"law", 14, ["script"], ["script", "w", "turn", "size", "steps", "k", "x", "row", "begin", "long", "meet", "wait", "at", "asked", "stack", "most", "found", "pair", "gap", "mark", "other", "behind", "able", "own"], [false]⟩
def raw : List Raw := [r_by_two, r_by_doubling, r_by_least, r_by_marks, r_first_of_ring, r_is_in_ring, r_meet_at, r__law_draws, r__law_next, r__law_pick, r__law_same, r__law_rows, r_law]
abbrev dds : List DD := ddsR top raw
abbrev defs : List Df := dds.map dfOf
abbrev i_by_two : Nat := 0
abbrev i_by_doubling : Nat := 1
abbrev i_by_least : Nat := 2
abbrev i_by_marks : Nat := 3
abbrev i_first_of_ring : Nat := 4
abbrev i_is_in_ring : Nat := 5
abbrev i_meet_at : Nat := 6
abbrev i__law_draws : Nat := 7
abbrev i__law_next : Nat := 8
abbrev i__law_pick : Nat := 9
abbrev i__law_same : Nat := 10
abbrev i__law_rows : Nat := 11
abbrev i_law : Nat := 12
end L64
end
section
set_option maxRecDepth 100000
set_option linter.all false
namespace Q64
open PySem Nv
def by_two_1 : S := (.par [2, 3, 4] (.cs (.idx (.var 0) (.var 1)) (.cs (.idx (.var 0) (.idx (.var 0) (.var 1))) (.cs (.cst (nD 3)) .nl))))
def by_two_2c : B := (.of (.cmp .ne (.var 2) (.var 3)))
def by_two_2b : S := (.par [2, 3, 4] (.cs (.idx (.var 0) (.var 2)) (.cs (.idx (.var 0) (.idx (.var 0) (.var 3))) (.cs (.bin .add (.var 4) (.cst (nD 3))) .nl))))
def by_two_2 : S := (.whl by_two_2c by_two_2b)
def by_two_3 : S := (.par [5, 2] (.cs (.cst (nD 0)) (.cs (.var 1) .nl)))
def by_two_4c : B := (.of (.cmp .ne (.var 2) (.var 3)))
def by_two_4b : S := (.par [2, 3, 5, 4] (.cs (.idx (.var 0) (.var 2)) (.cs (.idx (.var 0) (.var 3)) (.cs (.bin .add (.var 5) (.cst (nD 1))) (.cs (.bin .add (.var 4) (.cst (nD 2))) .nl)))))
def by_two_4 : S := (.whl by_two_4c by_two_4b)
def by_two_5 : S := (.par [6, 3, 4] (.cs (.cst (nD 1)) (.cs (.idx (.var 0) (.var 2)) (.cs (.bin .add (.var 4) (.cst (nD 1))) .nl))))
def by_two_6c : B := (.of (.cmp .ne (.var 2) (.var 3)))
def by_two_6b : S := (.par [3, 6, 4] (.cs (.idx (.var 0) (.var 3)) (.cs (.bin .add (.var 6) (.cst (nD 1))) (.cs (.bin .add (.var 4) (.cst (nD 1))) .nl))))
def by_two_6 : S := (.whl by_two_6c by_two_6b)
def by_two_7 : S := (.ret (.tup (.cs (.var 5) (.cs (.var 6) (.cs (.var 4) .nl)))))
def by_two : S := (.seq by_two_1 (.seq by_two_2 (.seq by_two_3 (.seq by_two_4 (.seq by_two_5 (.seq by_two_6 by_two_7))))))
def q_by_two : Df := ⟨[false, false], 7, by_two⟩
def by_doubling_1 : S := (.par [2, 3, 4, 5, 6] (.cs (.cst (nD 1)) (.cs (.cst (nD 1)) (.cs (.var 1) (.cs (.idx (.var 0) (.var 1)) (.cs (.cst (nD 1)) .nl))))))
def by_doubling_2c : B := (.of (.cmp .ne (.var 4) (.var 5)))
def by_doubling_2b_1t : S := (.par [4, 2, 3] (.cs (.var 5) (.cs (.bin .mul (.var 2) (.cst (nD 2))) (.cs (.cst (nD 0)) .nl))))
def by_doubling_2b_1 : S := (.iff (.of (.cmp .eq (.var 2) (.var 3))) by_doubling_2b_1t .pss)
def by_doubling_2b_2 : S := (.par [5, 3, 6] (.cs (.idx (.var 0) (.var 5)) (.cs (.bin .add (.var 3) (.cst (nD 1))) (.cs (.bin .add (.var 6) (.cst (nD 1))) .nl))))
def by_doubling_2b : S := (.seq by_doubling_2b_1 by_doubling_2b_2)
def by_doubling_2 : S := (.whl by_doubling_2c by_doubling_2b)
def by_doubling_3 : S := (.par [4, 5] (.cs (.var 1) (.cs (.var 1) .nl)))
def by_doubling_4b : S := (.par [5, 6] (.cs (.idx (.var 0) (.var 5)) (.cs (.bin .add (.var 6) (.cst (nD 1))) .nl)))
def by_doubling_4 : S := (.for_ (.nm 7) (.rng1 (.var 3)) by_doubling_4b)
def by_doubling_5 : S := (.asg (.nm 8) (.cst (nD 0)))
def by_doubling_6c : B := (.of (.cmp .ne (.var 4) (.var 5)))
def by_doubling_6b : S := (.par [4, 5, 8, 6] (.cs (.idx (.var 0) (.var 4)) (.cs (.idx (.var 0) (.var 5)) (.cs (.bin .add (.var 8) (.cst (nD 1))) (.cs (.bin .add (.var 6) (.cst (nD 2))) .nl)))))
def by_doubling_6 : S := (.whl by_doubling_6c by_doubling_6b)
def by_doubling_7 : S := (.ret (.tup (.cs (.var 8) (.cs (.var 3) (.cs (.var 6) .nl)))))
def by_doubling : S := (.seq by_doubling_1 (.seq by_doubling_2 (.seq by_doubling_3 (.seq by_doubling_4 (.seq by_doubling_5 (.seq by_doubling_6 by_doubling_7))))))
def q_by_doubling : Df := ⟨[false, false], 9, by_doubling⟩
def by_least_1 : S := (.par [2, 3, 4] (.cs (.lst .nl) (.cs (.cst (nD 0)) (.cs (.cst (nD 0)) .nl))))
def by_least_2c : B := (.of (.cst (.bool true)))
def by_least_2b_1c : B := (.and2 (.of (.cmp .ne (.var 2) (.lst .nl))) (.of (.cmp .gt (.idx (.idx (.var 2) (.neg (.cst (nD 1)))) (.cst (nD 0))) (.var 1))))
def by_least_2b_1b : S := (.exp (.mut .pop0 2 .nl))
def by_least_2b_1 : S := (.whl by_least_2b_1c by_least_2b_1b)
def by_least_2b_2t : S := (.ret (.tup (.cs (.var 1) (.cs (.bin .sub (.var 3) (.idx (.idx (.var 2) (.neg (.cst (nD 1)))) (.cst (nD 1)))) (.cs (.var 4) .nl)))))
def by_least_2b_2 : S := (.iff (.and2 (.of (.cmp .ne (.var 2) (.lst .nl))) (.of (.cmp .eq (.idx (.idx (.var 2) (.neg (.cst (nD 1)))) (.cst (nD 0))) (.var 1)))) by_least_2b_2t .pss)
def by_least_2b_3 : S := (.exp (.mut .append 2 (.cs (.tup (.cs (.var 1) (.cs (.var 3) .nl))) .nl)))
def by_least_2b_4 : S := (.asg (.nm 4) (.blt .max2 (.cs (.var 4) (.cs (.blt .len (.cs (.var 2) .nl)) .nl))))
def by_least_2b_5 : S := (.par [1, 3] (.cs (.idx (.var 0) (.var 1)) (.cs (.bin .add (.var 3) (.cst (nD 1))) .nl)))
def by_least_2b : S := (.seq by_least_2b_1 (.seq by_least_2b_2 (.seq by_least_2b_3 (.seq by_least_2b_4 by_least_2b_5))))
def by_least_2 : S := (.whl by_least_2c by_least_2b)
def by_least : S := (.seq by_least_1 by_least_2)
def q_by_least : Df := ⟨[false, false], 5, by_least⟩
def by_marks_1 : S := (.par [3, 4] (.cs (.dct .nl) (.cs (.cst (nD 0)) .nl)))
def by_marks_2c : B := (.of (.cst (.bool true)))
def by_marks_2b_1t : S := (.ret (.tup (.cs (.bin .sub (.var 4) (.idx (.var 3) (.var 1))) (.cs (.blt .len (.cs (.var 3) .nl)) .nl))))
def by_marks_2b_1 : S := (.iff (.of (.cmp .inn (.var 1) (.var 3))) by_marks_2b_1t .pss)
def by_marks_2b_2t : S := (.sub 3 (.var 1) (.var 4))
def by_marks_2b_2 : S := (.iff (.of (.cmp .eq (.bin .mod (.var 4) (.var 2)) (.cst (nD 0)))) by_marks_2b_2t .pss)
def by_marks_2b_3 : S := (.par [1, 4] (.cs (.idx (.var 0) (.var 1)) (.cs (.bin .add (.var 4) (.cst (nD 1))) .nl)))
def by_marks_2b : S := (.seq by_marks_2b_1 (.seq by_marks_2b_2 by_marks_2b_3))
def by_marks_2 : S := (.whl by_marks_2c by_marks_2b)
def by_marks : S := (.seq by_marks_1 by_marks_2)
def q_by_marks : Df := ⟨[false, false, false], 5, by_marks⟩
def first_of_ring_1 : S := (.asg (.pr [2, 3, 3]) (.call 1 (.cs (.var 0) (.cs (.var 1) .nl))))
def first_of_ring_2b : S := (.asg (.nm 1) (.idx (.var 0) (.var 1)))
def first_of_ring_2 : S := (.for_ (.nm 3) (.rng1 (.var 2)) first_of_ring_2b)
def first_of_ring : S := (.seq first_of_ring_1 (.seq first_of_ring_2 (.ret (.var 1))))
def q_first_of_ring : Df := ⟨[false, false], 4, first_of_ring⟩
def is_in_ring : S := (.ret (.cmp .eq (.call 4 (.cs (.var 0) (.cs (.var 1) .nl))) (.var 1)))
def q_is_in_ring : Df := ⟨[false, false], 2, is_in_ring⟩
def meet_at_1 : S := (.asg (.nm 3) (.lst .nl))
def meet_at_2c : B := (.of (.cmp .nin (.var 2) (.var 3)))
def meet_at_2b_1 : S := (.exp (.mut .append 3 (.cs (.var 2) .nl)))
def meet_at_2b_2 : S := (.asg (.nm 2) (.idx (.var 0) (.var 2)))
def meet_at_2b : S := (.seq meet_at_2b_1 meet_at_2b_2)
def meet_at_2 : S := (.whl meet_at_2c meet_at_2b)
def meet_at_3 : S := (.asg (.nm 4) (.lst .nl))
def meet_at_4c : B := (.of (.cmp .nin (.var 1) (.var 4)))
def meet_at_4b_1 : S := (.iff (.of (.cmp .inn (.var 1) (.var 3))) (.ret (.var 1)) .pss)
def meet_at_4b_2 : S := (.exp (.mut .append 4 (.cs (.var 1) .nl)))
def meet_at_4b_3 : S := (.asg (.nm 1) (.idx (.var 0) (.var 1)))
def meet_at_4b : S := (.seq meet_at_4b_1 (.seq meet_at_4b_2 meet_at_4b_3))
def meet_at_4 : S := (.whl meet_at_4c meet_at_4b)
def meet_at : S := (.seq meet_at_1 (.seq meet_at_2 (.seq meet_at_3 (.seq meet_at_4 (.ret (.cst .none))))))
def q_meet_at : Df := ⟨[false, false, false], 5, meet_at⟩
def law_draws_1 : S := (.asg (.nm 2) (.lst .nl))
def law_draws_2 : S := (.asg (.nm 3) (.cst (nD 7)))
def law_draws_3b_1 : S := (.asg (.nm 5) (.blt .abs (.cs (.blt .int (.cs (.idx (.var 0) (.var 4)) .nl)) .nl)))
def law_draws_3b_2 : S := (.asg (.nm 3) (.bin .mod (.blt .int (.cs (.bin .add (.bin .add (.bin .mul (.var 3) (.cst (nD 48271))) (.bin .mod (.var 5) (.cst (nD 1000003)))) (.var 4)) .nl)) (.cst (nD 65537))))
def law_draws_3b_3 : S := (.asg (.nm 6) (.cst (nD 0)))
def law_draws_3b_4t : S := (.asg (.nm 6) (.var 5))
def law_draws_3b_4e_1 : S := (.exp (.mut .append 2 (.cs (.bin .mod (.blt .int (.cs (.var 5) .nl)) (.cst (nD 997))) .nl)))
def law_draws_3b_4e_2 : S := (.exp (.mut .append 2 (.cs (.bin .mod (.bin .mod (.blt .int (.cs (.bin .add (.bin .mul (.var 3) (.cst (nD 69621))) (.cst (nD 5))) .nl)) (.cst (nD 65521))) (.cst (nD 997))) .nl)))
def law_draws_3b_4e : S := (.seq law_draws_3b_4e_1 law_draws_3b_4e_2)
def law_draws_3b_4 : S := (.iff (.of (.cmp .ge (.var 5) (.bin .pow (.cst (nD 10)) (.cst (nD 18))))) law_draws_3b_4t law_draws_3b_4e)
def law_draws_3b_5bt_1 : S := (.exp (.mut .append 2 (.cs (.bin .mod (.blt .int (.cs (.var 6) .nl)) (.cst (nD 997))) .nl)))
def law_draws_3b_5bt_2 : S := (.asg (.nm 6) (.bin .fdiv (.var 6) (.cst (nD 997))))
def law_draws_3b_5bt : S := (.seq law_draws_3b_5bt_1 law_draws_3b_5bt_2)
def law_draws_3b_5b : S := (.iff (.of (.cmp .gt (.var 6) (.cst (nD 0)))) law_draws_3b_5bt .pss)
def law_draws_3b_5 : S := (.for_ (.nm 7) (.rng1 (.cst (nD 60))) law_draws_3b_5b)
def law_draws_3b : S := (.seq law_draws_3b_1 (.seq law_draws_3b_2 (.seq law_draws_3b_3 (.seq law_draws_3b_4 law_draws_3b_5))))
def law_draws_3 : S := (.for_ (.nm 4) (.rng1 (.blt .len (.cs (.var 0) .nl))) law_draws_3b)
def law_draws_4b_1 : S := (.asg (.nm 3) (.bin .mod (.blt .int (.cs (.bin .add (.bin .add (.bin .mul (.var 3) (.cst (nD 16807))) (.var 4)) (.cst (nD 1))) .nl)) (.cst (nD 65537))))
def law_draws_4b_2 : S := (.exp (.mut .append 2 (.cs (.bin .mod (.blt .int (.cs (.var 3) .nl)) (.cst (nD 997))) .nl)))
def law_draws_4b : S := (.seq law_draws_4b_1 law_draws_4b_2)
def law_draws_4 : S := (.for_ (.nm 4) (.rng1 (.var 1)) law_draws_4b)
def law_draws : S := (.seq law_draws_1 (.seq law_draws_2 (.seq law_draws_3 (.seq law_draws_4 (.ret (.slc (.var 2) .no (.so (.var 1))))))))
def q__law_draws : Df := ⟨[false, false], 8, law_draws⟩
def law_next_1 : S := (.augs 0 (.cst (.str ⟨#[97, 116]⟩)) .add (.cst (nD 1)))
def law_next_2 : S := (.iff (.of (.cmp .gt (.idx (.var 0) (.cst (.str ⟨#[97, 116]⟩))) (.blt .len (.cs (.idx (.var 0) (.cst (.str ⟨#[100, 114, 97, 119, 115]⟩))) .nl)))) (.ret (.cst (nD 0))) .pss)
def law_next_3 : S := (.ret (.bin .mod (.blt .int (.cs (.idx (.idx (.var 0) (.cst (.str ⟨#[100, 114, 97, 119, 115]⟩))) (.bin .sub (.idx (.var 0) (.cst (.str ⟨#[97, 116]⟩))) (.cst (nD 1)))) .nl)) (.var 1)))
def law_next : S := (.seq law_next_1 (.seq law_next_2 law_next_3))
def q__law_next : Df := ⟨[true, false], 2, law_next⟩
def law_pick : S := (.ret (.idx (.var 1) (.call 8 (.io 0 (.cs (.blt .len (.cs (.var 1) .nl)) .nl)))))
def q__law_pick : Df := ⟨[true, false], 2, law_pick⟩
def law_same_1 : S := (.asg (.nm 2) (.lst (.cs (.tup (.cs (.var 0) (.cs (.var 1) .nl))) .nl)))
def law_same_2c : B := (.of (.cmp .ne (.var 2) (.lst .nl)))
def law_same_2b_1 : S := (.asg (.pr [3, 4]) (.mut .pop0 2 .nl))
def law_same_2b_2t_1 : S := (.iff (.or2 (.not1 (.of (.isi (.var 3) .dict))) (.or2 (.of (.cmp .ne (.blt .len (.cs (.var 3) .nl)) (.blt .len (.cs (.var 4) .nl)))) (.of (.cmp .ne (.lc (.var 5) (.nm 5) (.of (.var 4)) (.of (.cmp .nin (.var 5) (.var 3)))) (.lst .nl))))) (.ret (.cst (.bool false))) .pss)
def law_same_2b_2t_2 : S := (.asg (.nm 6) (.blt .dict (.cs (.lc (.tup (.cs (.var 5) (.cs (.var 5) .nl))) (.nm 5) (.of (.var 3)) .yes) .nl)))
def law_same_2b_2t_3 : S := (.exp (.mut .extend 2 (.cs (.bin .add (.lc (.tup (.cs (.idx (.var 3) (.var 5)) (.cs (.idx (.var 4) (.var 5)) .nl))) (.nm 5) (.of (.var 4)) .yes) (.lc (.tup (.cs (.idx (.var 6) (.var 5)) (.cs (.var 5) .nl))) (.nm 5) (.of (.var 4)) .yes)) .nl)))
def law_same_2b_2t : S := (.seq law_same_2b_2t_1 (.seq law_same_2b_2t_2 law_same_2b_2t_3))
def law_same_2b_2et_1 : S := (.iff (.or2 (.of (.cmp .ne (.isi (.var 3) .tuple) (.isi (.var 4) .tuple))) (.or2 (.of (.cmp .ne (.isi (.var 3) .list) (.isi (.var 4) .list))) (.of (.cmp .ne (.blt .len (.cs (.var 3) .nl)) (.blt .len (.cs (.var 4) .nl)))))) (.ret (.cst (.bool false))) .pss)
def law_same_2b_2et_2 : S := (.exp (.mut .extend 2 (.cs (.lc (.tup (.cs (.idx (.var 3) (.var 7)) (.cs (.idx (.var 4) (.var 7)) .nl))) (.nm 7) (.rng1 (.blt .len (.cs (.var 4) .nl))) .yes) .nl)))
def law_same_2b_2et : S := (.seq law_same_2b_2et_1 law_same_2b_2et_2)
def law_same_2b_2ee : S := (.iff (.or2 (.of (.cmp .ne (.isi (.var 3) .bool) (.isi (.var 4) .bool))) (.or2 (.of (.cmp .ne (.isi (.var 3) .int) (.isi (.var 4) .int))) (.or2 (.of (.cmp .ne (.isi (.var 3) .str) (.isi (.var 4) .str))) (.of (.cmp .ne (.var 3) (.var 4)))))) (.ret (.cst (.bool false))) .pss)
def law_same_2b_2e : S := (.iff (.or2 (.of (.isi (.var 4) .tuple)) (.of (.isi (.var 4) .list))) law_same_2b_2et law_same_2b_2ee)
def law_same_2b_2 : S := (.iff (.of (.isi (.var 4) .dict)) law_same_2b_2t law_same_2b_2e)
def law_same_2b : S := (.seq law_same_2b_1 law_same_2b_2)
def law_same_2 : S := (.whl law_same_2c law_same_2b)
def law_same : S := (.seq law_same_1 (.seq law_same_2 (.ret (.cst (.bool true)))))
def q__law_same : Df := ⟨[false, false], 8, law_same⟩
def law_rows_1 : S := (.asg (.nm 2) (.lst (.cs (.var 1) .nl)))
def law_rows_2b : S := (.exp (.mut .append 2 (.cs (.idx (.var 0) (.idx (.var 2) (.neg (.cst (nD 1))))) .nl)))
def law_rows_2 : S := (.for_ (.nm 3) (.rng1 (.bin .add (.bin .mul (.cst (nD 4)) (.blt .len (.cs (.var 0) .nl))) (.cst (nD 8)))) law_rows_2b)
def law_rows : S := (.seq law_rows_1 (.seq law_rows_2 (.ret (.var 2))))
def q__law_rows : Df := ⟨[false, false], 4, law_rows⟩
def law_1 : S := (.asg (.nm 1) (.dct (.cs (.cst (.str ⟨#[100, 114, 97, 119, 115]⟩)) (.cs (.call 7 (.cs (.var 0) (.cs (.cst (nD 60)) .nl))) (.cs (.cst (.str ⟨#[97, 116]⟩)) (.cs (.cst (nD 0)) .nl))))))
def law_2b_1 : S := (.asg (.nm 3) (.bin .add (.cst (nD 1)) (.call 8 (.io 1 (.cs (.cst (nD 9)) .nl)))))
def law_2b_2 : S := (.asg (.nm 4) (.blt .tuple (.cs (.lc (.call 8 (.io 1 (.cs (.var 3) .nl))) (.nm 5) (.rng1 (.var 3)) .yes) .nl)))
def law_2b_3t : S := (.asg (.nm 4) (.bin .add (.blt .tuple (.cs (.lc (.bin .add (.var 5) (.cst (nD 1))) (.nm 5) (.rng1 (.bin .sub (.var 3) (.cst (nD 1)))) .yes) .nl)) (.tup (.cs (.call 8 (.io 1 (.cs (.var 3) .nl))) .nl))))
def law_2b_3 : S := (.iff (.of (.cmp .eq (.call 8 (.io 1 (.cs (.cst (nD 2)) .nl))) (.cst (nD 0)))) law_2b_3t .pss)
def law_2b_4b_1 : S := (.asg (.nm 7) (.call 11 (.cs (.var 4) (.cs (.var 6) .nl))))
def law_2b_4b_2 : S := (.asg (.nm 8) (.idx (.lc (.var 5) (.nm 5) (.rng1 (.bin .add (.var 3) (.cst (nD 1)))) (.of (.cmp .inn (.idx (.var 7) (.var 5)) (.slc (.var 7) (.so (.bin .add (.var 5) (.cst (nD 1)))) (.so (.bin .add (.bin .add (.var 3) (.var 5)) (.cst (nD 1)))))))) (.cst (nD 0))))
def law_2b_4b_3 : S := (.asg (.nm 9) (.idx (.lc (.var 5) (.nm 5) (.rng2 (.cst (nD 1)) (.bin .add (.var 3) (.cst (nD 1)))) (.of (.cmp .eq (.idx (.var 7) (.bin .add (.var 8) (.var 5))) (.idx (.var 7) (.var 8))))) (.cst (nD 0))))
def law_2b_4b_4 : S := (.asg (.nm 10) (.idx (.lc (.var 5) (.nm 5) (.rng2 (.cst (nD 1)) (.bin .add (.bin .mul (.cst (nD 2)) (.var 3)) (.cst (nD 2)))) (.of (.cmp .eq (.idx (.var 7) (.var 5)) (.idx (.var 7) (.bin .mul (.cst (nD 2)) (.var 5)))))) (.cst (nD 0))))
def law_2b_4b_5 : S := (.iff (.not1 (.of (.call 10 (.cs (.call 0 (.cs (.var 4) (.cs (.var 6) .nl))) (.cs (.tup (.cs (.var 8) (.cs (.var 9) (.cs (.bin .add (.bin .add (.bin .mul (.cst (nD 3)) (.var 10)) (.bin .mul (.cst (nD 2)) (.var 8))) (.var 9)) .nl)))) .nl))))) (.ret (.cst (.bool false))) .pss)
def law_2b_4b_6 : S := (.par [11, 12, 13] (.cs (.cst (nD 0)) (.cs (.cst (nD 1)) (.cs (.cst (nD 1)) .nl))))
def law_2b_4b_7bt_1t : S := (.asg (.nm 11) (.var 12))
def law_2b_4b_7bt_1 : S := (.iff (.of (.cmp .eq (.bin .sub (.var 12) (.var 11)) (.bin .add (.var 11) (.cst (nD 1))))) law_2b_4b_7bt_1t .pss)
def law_2b_4b_7bt_2 : S := (.par [12, 13] (.cs (.bin .add (.var 12) (.cst (nD 1))) (.cs (.bin .add (.var 13) (.cst (nD 1))) .nl)))
def law_2b_4b_7bt : S := (.seq law_2b_4b_7bt_1 law_2b_4b_7bt_2)
def law_2b_4b_7b : S := (.iff (.of (.cmp .ne (.idx (.var 7) (.var 11)) (.idx (.var 7) (.var 12)))) law_2b_4b_7bt .pss)
def law_2b_4b_7 : S := (.for_ (.nm 5) (.rng1 (.bin .add (.bin .mul (.cst (nD 4)) (.var 3)) (.cst (nD 6)))) law_2b_4b_7b)
def law_2b_4b_8 : S := (.iff (.not1 (.of (.call 10 (.cs (.call 1 (.cs (.var 4) (.cs (.var 6) .nl))) (.cs (.tup (.cs (.var 8) (.cs (.var 9) (.cs (.bin .add (.bin .add (.var 13) (.var 9)) (.bin .mul (.cst (nD 2)) (.var 8))) .nl)))) .nl))))) (.ret (.cst (.bool false))) .pss)
def law_2b_4b_9 : S := (.par [14, 15, 16] (.cs (.lst .nl) (.cs (.cst (nD 0)) (.cs (.cst .none) .nl))))
def law_2b_4b_10bt_1 : S := (.asg (.nm 14) (.lc (.var 17) (.nm 17) (.of (.var 14)) (.of (.cmp .le (.idx (.var 17) (.cst (nD 0))) (.idx (.var 7) (.var 5))))))
def law_2b_4b_10bt_2t : S := (.asg (.nm 16) (.tup (.cs (.idx (.var 7) (.var 5)) (.cs (.bin .sub (.var 5) (.idx (.idx (.var 14) (.neg (.cst (nD 1)))) (.cst (nD 1)))) (.cs (.var 15) .nl)))))
def law_2b_4b_10bt_2 : S := (.iff (.and2 (.of (.cmp .ne (.var 14) (.lst .nl))) (.of (.cmp .eq (.idx (.idx (.var 14) (.neg (.cst (nD 1)))) (.cst (nD 0))) (.idx (.var 7) (.var 5))))) law_2b_4b_10bt_2t .pss)
def law_2b_4b_10bt_3 : S := (.exp (.mut .append 14 (.cs (.tup (.cs (.idx (.var 7) (.var 5)) (.cs (.var 5) .nl))) .nl)))
def law_2b_4b_10bt_4 : S := (.asg (.nm 15) (.blt .max2 (.cs (.var 15) (.cs (.blt .len (.cs (.var 14) .nl)) .nl))))
def law_2b_4b_10bt : S := (.seq law_2b_4b_10bt_1 (.seq law_2b_4b_10bt_2 (.seq law_2b_4b_10bt_3 law_2b_4b_10bt_4)))
def law_2b_4b_10b : S := (.iff (.of (.cmp .is (.var 16) (.cst .none))) law_2b_4b_10bt .pss)
def law_2b_4b_10 : S := (.for_ (.nm 5) (.rng1 (.blt .len (.cs (.var 7) .nl))) law_2b_4b_10b)
def law_2b_4b_11 : S := (.iff (.or2 (.of (.cmp .is (.var 16) (.cst .none))) (.or2 (.not1 (.of (.call 10 (.cs (.call 2 (.cs (.var 4) (.cs (.var 6) .nl))) (.cs (.var 16) .nl))))) (.or2 (.of (.cmp .ne (.idx (.var 16) (.cst (nD 0))) (.blt .min (.cs (.slc (.var 7) (.so (.var 8)) (.so (.bin .add (.var 8) (.var 9)))) .nl)))) (.of (.cmp .ne (.idx (.var 16) (.cst (nD 1))) (.var 9)))))) (.ret (.cst (.bool false))) .pss)
def law_2b_4b_12 : S := (.asg (.nm 18) (.bin .add (.cst (nD 1)) (.call 8 (.io 1 (.cs (.cst (nD 5)) .nl)))))
def law_2b_4b_13 : S := (.asg (.nm 19) (.idx (.lc (.var 5) (.nm 5) (.rng3 (.cst (nD 0)) (.cst (nD 60)) (.var 18)) (.of (.cmp .ge (.var 5) (.var 8)))) (.cst (nD 0))))
def law_2b_4b_14 : S := (.iff (.not1 (.of (.call 10 (.cs (.call 3 (.cs (.var 4) (.cs (.var 6) (.cs (.var 18) .nl)))) (.cs (.tup (.cs (.var 9) (.cs (.bin .add (.bin .fdiv (.bin .sub (.bin .add (.var 19) (.var 9)) (.cst (nD 1))) (.var 18)) (.cst (nD 1))) .nl))) .nl))))) (.ret (.cst (.bool false))) .pss)
def law_2b_4b_15 : S := (.iff (.or2 (.not1 (.of (.call 10 (.cs (.call 4 (.cs (.var 4) (.cs (.var 6) .nl))) (.cs (.idx (.var 7) (.var 8)) .nl))))) (.not1 (.of (.call 10 (.cs (.call 5 (.cs (.var 4) (.cs (.var 6) .nl))) (.cs (.cmp .eq (.var 8) (.cst (nD 0))) .nl)))))) (.ret (.cst (.bool false))) .pss)
def law_2b_4b_16 : S := (.asg (.nm 20) (.call 8 (.io 1 (.cs (.var 3) .nl))))
def law_2b_4b_17 : S := (.asg (.nm 21) (.call 11 (.cs (.var 4) (.cs (.var 20) .nl))))
def law_2b_4b_18 : S := (.asg (.nm 22) (.lc (.var 23) (.nm 23) (.of (.var 7)) (.of (.cmp .inn (.var 23) (.var 21)))))
def law_2b_4b_19 : S := (.iff (.not1 (.of (.call 10 (.cs (.call 6 (.cs (.var 4) (.cs (.var 6) (.cs (.var 20) .nl)))) (.cs (.ife (.of (.cmp .ne (.var 22) (.lst .nl))) (.idx (.var 22) (.cst (nD 0))) (.cst .none)) .nl))))) (.ret (.cst (.bool false))) .pss)
def law_2b_4b : S := (.seq law_2b_4b_1 (.seq law_2b_4b_2 (.seq law_2b_4b_3 (.seq law_2b_4b_4 (.seq law_2b_4b_5 (.seq law_2b_4b_6 (.seq law_2b_4b_7 (.seq law_2b_4b_8 (.seq law_2b_4b_9 (.seq law_2b_4b_10 (.seq law_2b_4b_11 (.seq law_2b_4b_12 (.seq law_2b_4b_13 (.seq law_2b_4b_14 (.seq law_2b_4b_15 (.seq law_2b_4b_16 (.seq law_2b_4b_17 (.seq law_2b_4b_18 law_2b_4b_19))))))))))))))))))
def law_2b_4 : S := (.for_ (.nm 6) (.rng1 (.var 3)) law_2b_4b)
def law_2b : S := (.seq law_2b_1 (.seq law_2b_2 (.seq law_2b_3 law_2b_4)))
def law_2 : S := (.for_ (.nm 2) (.rng1 (.cst (nD 2))) law_2b)
def law : S := (.seq law_1 (.seq law_2 (.ret (.cst (.bool true)))))
def q_law : Df := ⟨[false], 24, law⟩
def qs : List Df := [q_by_two, q_by_doubling, q_by_least, q_by_marks, q_first_of_ring, q_is_in_ring, q_meet_at, q__law_draws, q__law_next, q__law_pick, q__law_same, q__law_rows, q_law]
end Q64
end
section
set_option linter.all false
set_option maxRecDepth 100000
namespace K64
open PySem Nv
def f (L : List Nat) (k : Nat) : Nat := L.getD k 0
def it (L : List Nat) (x : Nat) : Nat → Nat
  | 0 => x
  | k + 1 => f L (it L x k)
/-- a map of n numbers -/
structure Mp (L : List Nat) (n : Nat) : Prop where
  len : L.length = n
  lt : ∀ v ∈ L, v < n
  pos : 1 ≤ n
  few : n ≤ 9
theorem Mp.f_lt {L : List Nat} {n k : Nat} (h : Mp L n) (hk : k < n) : f L k < n := by
  unfold f
  rw [List.getD_eq_getElem?_getD, List.getElem?_eq_getElem (by rw [h.len]; exact hk)]
  exact h.lt _ (List.getElem_mem _)
theorem Mp.it_lt {L : List Nat} {n x : Nat} (h : Mp L n) (hx : x < n) : ∀ k : Nat, it L x k < n
  | 0 => hx
  | k + 1 => h.f_lt (Mp.it_lt h hx k)
theorem least {P : Nat → Prop} : ∀ n : Nat, P n → ∃ m, m ≤ n ∧ P m ∧ ∀ k, k < m → ¬ P k := by
  intro n
  induction n using Nat.strongRecOn with
  | ind n ih =>
    intro h
    by_cases q : ∃ k, k < n ∧ P k
    · obtain ⟨k, hk, hp⟩ := q
      obtain ⟨m, h1, h2, h3⟩ := ih k hk hp
      exact ⟨m, by omega, h2, h3⟩
    · exact ⟨n, Nat.le_refl _, h, fun k hk hp => q ⟨k, hk, hp⟩⟩
theorem pigeon : ∀ (n : Nat) (g : Nat → Nat), (∀ i, i ≤ n → g i < n) → ∃ i j, i < j ∧ j ≤ n ∧ g i = g j
  | 0, g, h => absurd (h 0 (Nat.le_refl _)) (Nat.not_lt_zero _)
  | n + 1, g, h => by
    by_cases q : ∃ i, i ≤ n ∧ g i = g (n + 1)
    · obtain ⟨i, hi, e⟩ := q
      exact ⟨i, n + 1, by omega, Nat.le_refl _, e⟩
    · have hv := h (n + 1) (Nat.le_refl _)
      obtain ⟨i, j, h1, h2, h3⟩ := pigeon n (fun i => if g i = n then g (n + 1) else g i) (fun i hi => by
        have hg := h i (by omega)
        show (if g i = n then g (n + 1) else g i) < n
        split
        · rename_i e
          by_cases e2 : g (n + 1) = n
          · exact absurd ⟨i, hi, by rw [e, e2]⟩ q
          · omega
        · omega)
      refine ⟨i, j, h1, by omega, ?_⟩
      have h3 : (if g i = n then g (n + 1) else g i) = (if g j = n then g (n + 1) else g j) := h3
      split at h3
      · rename_i e1
        split at h3
        · rename_i e2; rw [e1, e2]
        · exact absurd ⟨j, h2, h3.symm⟩ q
      · split at h3
        · exact absurd ⟨i, by omega, h3⟩ q
        · exact h3
theorem it_add (L : List Nat) (x a : Nat) : ∀ b : Nat, it L x (a + b) = it L (it L x a) b
  | 0 => rfl
  | b + 1 => congrArg (f L) (it_add L x a b)
/-- the places i and j hold the same -/
def eqr (m l i j : Nat) : Bool := decide (i = j) || (decide (m ≤ i) && decide (m ≤ j) && decide (i % l = j % l))
theorem eqr_iff {m l i j : Nat} : eqr m l i j = true ↔ (i = j ∨ (m ≤ i ∧ m ≤ j ∧ i % l = j % l)) := by
  unfold eqr
  simp only [Bool.or_eq_true, Bool.and_eq_true, decide_eq_true_eq, and_assoc]
theorem rho {L : List Nat} {n x : Nat} (h : Mp L n) (hx : x < n) : ∃ m l, 1 ≤ l ∧ m + l ≤ n ∧ ∀ i j, it L x i = it L x j ↔ eqr m l i j = true := by
  obtain ⟨i, j, h1, h2, h3⟩ := pigeon n (it L x) (fun i _ => h.it_lt hx i)
  obtain ⟨t, t1, ⟨m, hm, hmt⟩, t3⟩ := least (P := fun j => ∃ i, i < j ∧ it L x i = it L x j) j ⟨i, h1, h3⟩
  have hd : ∀ a b, a < b → b < t → it L x a ≠ it L x b := fun a b hab hb e => t3 b hb ⟨a, hab, e⟩
  obtain ⟨l, rfl⟩ : ∃ l, t = m + l := ⟨t - m, by omega⟩
  have hl : 1 ≤ l := by omega
  have per : ∀ d q, it L x (m + d + l * q) = it L x (m + d) := by
    intro d q
    induction q with
    | zero => rw [Nat.mul_zero, Nat.add_zero]
    | succ q ih =>
      rw [Nat.mul_succ, show m + d + (l * q + l) = m + l + (d + l * q) by omega, it_add, ← hmt, ← it_add, show m + (d + l * q) = m + d + l * q by omega, ih]
  have perm : ∀ i j, m ≤ i → i ≤ j → i % l = j % l → it L x i = it L x j := by
    intro i j hi hij hmod
    have hz : (j - i) % l = 0 := Nat.sub_mod_eq_zero_of_mod_eq hmod.symm
    obtain ⟨q, hq⟩ := Nat.dvd_of_mod_eq_zero hz
    have := per (i - m) q
    rw [show m + (i - m) = i by omega, show i + l * q = j by omega] at this
    exact this.symm
  have red : ∀ k, m ≤ k → it L x (m + (k - m) % l) = it L x k := by
    intro k hk
    have hle : (k - m) % l ≤ k - m := Nat.mod_le _ _
    refine perm _ _ (by omega) (by omega) ?_
    rw [Nat.add_mod, Nat.mod_mod, ← Nat.add_mod, show m + (k - m) = k by omega]
  have inj : ∀ a b, a < m + l → b < m + l → it L x a = it L x b → a = b := by
    intro a b ha hb e
    rcases Nat.lt_trichotomy a b with q | q | q
    · exact absurd e (hd a b q hb)
    · exact q
    · exact absurd e.symm (hd b a q ha)
  refine ⟨m, l, hl, by omega, fun i j => ?_⟩
  rw [eqr_iff]
  constructor
  · intro e
    have hmod : ∀ k : Nat, (k - m) % l < l := fun k => Nat.mod_lt _ hl
    by_cases hi : m ≤ i
    · by_cases hj : m ≤ j
      · right
        refine ⟨hi, hj, ?_⟩
        rw [← red i hi, ← red j hj] at e
        have hmi := hmod i
        have hmj := hmod j
        have := inj _ _ (by omega) (by omega) e
        have e2 : (i - m) % l = (j - m) % l := by omega
        rw [show i = (i - m) + m by omega, show j = (j - m) + m by omega, Nat.add_mod, e2, ← Nat.add_mod]
      · rw [← red i hi] at e
        have hmi := hmod i
        have := inj _ _ (by omega) (by omega) e
        omega
    · by_cases hj : m ≤ j
      · rw [← red j hj] at e
        have hmj := hmod j
        have := inj _ _ (by omega) (by omega) e
        omega
      · exact .inl (inj _ _ (by omega) (by omega) e)
  · rintro (e | ⟨hi, hj, hmod⟩)
    · rw [e]
    · rcases Nat.le_total i j with q | q
      · exact perm i j hi q hmod
      · exact (perm j i hj q hmod.symm).symm
/-- where one waits while the other is at a + 1 -/
def W : Nat → Nat
  | 0 => 0
  | a + 1 => if a + 1 - W a = W a + 1 then a + 1 else W a
/-- (W a: the wait when the other is at a + 1) -/
def Mt (m l : Nat) : Nat := ((List.range 20).find? fun k => decide (1 ≤ k) && eqr m l k (2 * k)).getD 0
def Am (m l : Nat) : Nat := ((List.range 40).find? fun a => eqr m l (W a) (a + 1)).getD 0
def Fact (m l M A : Nat) : Prop := 1 ≤ M ∧ M ≤ m + l ∧ eqr m l M (2 * M) = true ∧ (∀ k, k < M → 1 ≤ k → eqr m l k (2 * k) = false)
  ∧ eqr m l m (2 * M + m) = true ∧ (∀ b, b < m → eqr m l b (2 * M + b) = false)
  ∧ eqr m l m (m + l) = true ∧ (∀ k, k < l → 1 ≤ k → eqr m l m (m + k) = false)
  ∧ eqr m l (W A) (A + 1) = true ∧ (∀ a, a < A → eqr m l (W a) (a + 1) = false) ∧ A + 1 = W A + l ∧ A ≤ 4 * (m + l) + 5
  ∧ eqr m l m (l + m) = true ∧ (∀ b, b < m → eqr m l b (l + b) = false)
instance (m l M A : Nat) : Decidable (Fact m l M A) := by unfold Fact; infer_instance
theorem facts0 : ∀ m, m < 9 → ∀ l, l < 10 → 1 ≤ l → m + l ≤ 9 → Fact m l (Mt m l) (Am m l) := by decide +kernel
/-- the first marked place from the ring's begin on -/
def Mk (m g : Nat) : Nat := (m + g - 1) / g * g
def MFact (m l g : Nat) : Prop := m ≤ Mk m g ∧ Mk m g % g = 0 ∧ Mk m g < m + g ∧ eqr m l (Mk m g) (Mk m g + l) = true ∧ (∀ p, p < Mk m g + l → ∀ q, q < p → q % g = 0 → eqr m l q p = false)
  ∧ (∀ q, q < Mk m g + l → q % g = 0 → q ≠ Mk m g → eqr m l q (Mk m g + l) = false) ∧ ((List.range (Mk m g + l)).filter fun q => decide (q % g = 0)).length = (Mk m g + l - 1) / g + 1
instance (m l g : Nat) : Decidable (MFact m l g) := by unfold MFact; infer_instance
theorem mfacts1 : ((List.range 9).all fun m => (List.range 10).all fun l => (List.range 6).all fun g => !(decide (1 ≤ l) && decide (m + l ≤ 9) && decide (1 ≤ g)) || decide (MFact m l g)) = true := by decide +kernel
theorem mfacts0 {m l g : Nat} (hl : 1 ≤ l) (hn : m + l ≤ 9) (hg : 1 ≤ g) (hg5 : g ≤ 5) : MFact m l g := by
  have h := mfacts1
  rw [List.all_eq_true] at h
  have h := h m (List.mem_range.mpr (by omega))
  rw [List.all_eq_true] at h
  have h := h l (List.mem_range.mpr (by omega))
  rw [List.all_eq_true] at h
  have h := h g (List.mem_range.mpr (by omega))
  rw [decide_eq_true hl, decide_eq_true hn, decide_eq_true hg] at h
  exact of_decide_eq_true (by simpa using h)
end K64
end
section
set_option linter.all false
set_option maxRecDepth 100000
namespace K64
open PySem Nv Q64
theorem p_im {C : Orc} {a : E} {r : Nv.L} {st st1 st2 : Sg} {d : D} {rs : List R} (h1 : ev C a st = some (.im d, st1)) (h2 : evP C r st1 = some (rs, st2)) : evP C (.cs a r) st = some (.im d :: rs, st2) := by
  show (ev C a st).bind _ = _
  rw [h1]
  show (evP C r st1).map _ = _
  rw [h2]; rfl
theorem x_par {C : Orc} {N : Nat} {is : List Nat} {es : Nv.L} {st st1 st2 : Sg} {rs : List R} (h1 : evP C es st = some (rs, st1)) (h2 : stos is rs st1 = some st2) : ex C N (.par is es) st = some (.nx st2) := by
  show (evP C es st).bind _ = _
  rw [h1]
  show (stos is rs st1).map _ = _
  rw [h2]; rfl
/-- a while that goes on d turns -/
theorem whl_to {cd : Sg → Option (Bool × Sg)} {bd : Sg → Option Fl} (S : Nat → Sg) : ∀ (d k M : Nat), d < M → (∀ j, k ≤ j → j < k + d → cd (S j) = some (true, S j) ∧ bd (S j) = some (.nx (S (j + 1)))) → cd (S (k + d)) = some (false, S (k + d)) → whlL cd bd M (S k) = some (.nx (S (k + d)))
  | _, _, 0, h, _, _ => absurd h (Nat.not_lt_zero _)
  | 0, k, M + 1, _, _, h => wl_stop h
  | d + 1, k, M + 1, hM, h1, h2 => by
    obtain ⟨a, b⟩ := h1 k (Nat.le_refl _) (by omega)
    have r := whl_to S d (k + 1) M (by omega) (fun j hj hj2 => h1 j (by omega) (by omega)) (by rw [show k + 1 + d = k + (d + 1) by omega]; exact h2)
    rw [show k + 1 + d = k + (d + 1) by omega] at r
    exact wl_go a b r
/-- .. and leaves in the next one -/
theorem whl_ret {cd : Sg → Option (Bool × Sg)} {bd : Sg → Option Fl} {r : R} {st : Sg} (S : Nat → Sg) : ∀ (d k M : Nat), d < M → (∀ j, k ≤ j → j < k + d → cd (S j) = some (true, S j) ∧ bd (S j) = some (.nx (S (j + 1)))) → cd (S (k + d)) = some (true, S (k + d)) → bd (S (k + d)) = some (.rt r st) → whlL cd bd M (S k) = some (.rt r st)
  | _, _, 0, h, _, _, _ => absurd h (Nat.not_lt_zero _)
  | 0, k, M + 1, _, _, h, h2 => wl_rt h h2
  | d + 1, k, M + 1, hM, h1, h2, h3 => by
    obtain ⟨a, b⟩ := h1 k (Nat.le_refl _) (by omega)
    exact wl_go a b (whl_ret S d (k + 1) M (by omega) (fun j hj hj2 => h1 j (by omega) (by omega)) (by rw [show k + 1 + d = k + (d + 1) by omega]; exact h2) (by rw [show k + 1 + d = k + (d + 1) by omega]; exact h3))
theorem n_mul' (a b : Nat) (h : a < 4294967296) : binD .mul (nD a) (nD b) = some (.im (nD (a * b))) := by
  show (if small64 (a : Int) || small64 (b : Int) then some (R.im (.int ((a : Int) * (b : Int)))) else none) = _
  have : small64 (a : Int) = true := by
    unfold small64
    exact decide_eq_true (by rw [Int.natAbs_natCast]; omega)
  rw [this, Bool.true_or, if_pos rfl]
  rfl
def dS (L : List Nat) : D := .tuple (L.map nD)
/-- the map L of n numbers, from x on: m ahead of a ring of l -/
structure Rh (L : List Nat) (n x m l : Nat) : Prop where
  mp : Mp L n
  hx : x < n
  l1 : 1 ≤ l
  ml : m + l ≤ n
  eq : ∀ i j, it L x i = it L x j ↔ eqr m l i j = true
section
variable {L : List Nat} {n x m l : Nat} (h : Rh L n x m l) {C : Orc} {N : Nat}
include h
theorem Rh.ix {k : Nat} (hk : k < n) : idxD (dS L) (nD k) = some (nD (f L k)) := by
  refine idx_tup ?_
  rw [List.getElem?_map, List.getElem?_eq_getElem (by rw [h.mp.len]; exact hk)]
  unfold f
  rw [List.getD_eq_getElem?_getD, List.getElem?_eq_getElem (by rw [h.mp.len]; exact hk)]
  rfl
theorem Rh.ixi (k : Nat) : idxD (dS L) (nD (it L x k)) = some (nD (it L x (k + 1))) := h.ix (h.mp.it_lt h.hx k)
theorem Rh.ne (i j : Nat) : cmpD .ne (nD (it L x i)) (nD (it L x j)) = some (!eqr m l i j) := by
  rw [n_ne]
  congr 1
  cases e : eqr m l i j with
  | true => exact decide_eq_false (fun q => q ((h.eq i j).mpr e))
  | false => exact decide_eq_true (fun q => by rw [(h.eq i j).mp q] at e; cases e)
theorem Rh.fact : Fact m l (Mt m l) (Am m l) := facts0 m (by have := h.mp.few; have := h.ml; have := h.l1; omega) l (by have := h.mp.few; have := h.ml; omega) h.l1 (by have := h.mp.few; have := h.ml; omega)
theorem Rh.ml9 : m + l ≤ 9 := by have := h.mp.few; have := h.ml; omega
theorem run_two (k : Nat) (hN : 100 ≤ N) : callF qs N (k + 1) 0 [(false, dS L), (false, nD x)] = some (.im (.tuple [nD m, nD l, nD (3 * Mt m l + 2 * m + l)]), []) := by
  obtain ⟨f1, f2, f3, f4, f5, f6, f7, f8, _⟩ := h.fact
  have h9 := h.ml9
  generalize Mt m l = M at f1 f2 f3 f4 f5 f6 ⊢
  have e1 := whl_to (cd := evB (callF qs N k) by_two_2c) (bd := ex (callF qs N k) N by_two_2b) (fun j => [.im (dS L), .im (nD x), .im (nD (it L x j)), .im (nD (it L x (2 * j))), .im (nD (3 * j)), .un, .un]) (M - 1) 1 N (by omega) (fun j hj hj2 => by
    have hn := h.ne j (2 * j)
    rw [f4 j (by omega) hj] at hn
    exact ⟨evB_cmp rfl rfl hn, x_par (p_im (e_idx rfl rfl (h.ixi j)) (p_im (e_idx rfl (e_idx rfl rfl (h.ixi (2 * j))) (h.ixi (2 * j + 1))) (p_im (e_bin rfl rfl (n_add (3 * j) 3)) rfl))) rfl⟩) (by
    rw [show 1 + (M - 1) = M by omega]
    have hn := h.ne M (2 * M)
    rw [f3] at hn
    exact evB_cmp rfl rfl hn)
  rw [show 1 + (M - 1) = M by omega] at e1
  have e2 := whl_to (cd := evB (callF qs N k) by_two_4c) (bd := ex (callF qs N k) N by_two_4b) (fun b => [.im (dS L), .im (nD x), .im (nD (it L x b)), .im (nD (it L x (2 * M + b))), .im (nD (3 * M + 2 * b)), .im (nD b), .un]) m 0 N (by omega) (fun j hj hj2 => by
    have hn := h.ne j (2 * M + j)
    rw [f6 j (by omega)] at hn
    exact ⟨evB_cmp rfl rfl hn, x_par (p_im (e_idx rfl rfl (h.ixi j)) (p_im (e_idx rfl rfl (h.ixi (2 * M + j))) (p_im (e_bin rfl rfl (n_add j 1)) (p_im (e_bin rfl rfl (n_add (3 * M + 2 * j) 2)) rfl)))) rfl⟩) (by
    rw [Nat.zero_add]
    have hn := h.ne m (2 * M + m)
    rw [f5] at hn
    exact evB_cmp rfl rfl hn)
  rw [Nat.zero_add] at e2
  have e3 := whl_to (cd := evB (callF qs N k) by_two_6c) (bd := ex (callF qs N k) N by_two_6b) (fun j => [.im (dS L), .im (nD x), .im (nD (it L x m)), .im (nD (it L x (m + j))), .im (nD (3 * M + 2 * m + j)), .im (nD m), .im (nD j)]) (l - 1) 1 N (by omega) (fun j hj hj2 => by
    have hn := h.ne m (m + j)
    rw [f8 j (by omega) hj] at hn
    exact ⟨evB_cmp rfl rfl hn, x_par (p_im (e_idx rfl rfl (h.ixi (m + j))) (p_im (e_bin rfl rfl (n_add j 1)) (p_im (e_bin rfl rfl (n_add (3 * M + 2 * m + j) 1)) rfl))) rfl⟩) (by
    rw [show 1 + (l - 1) = l by have := h.l1; omega]
    have hn := h.ne m (m + l)
    rw [f7] at hn
    exact evB_cmp rfl rfl hn)
  rw [show 1 + (l - 1) = l by have := h.l1; omega] at e3
  refine run_rt (df := q_by_two) rfl rfl (x_seq (st1 := [.im (dS L), .im (nD x), .im (nD (it L x 1)), .im (nD (it L x 2)), .im (nD 3), .un, .un]) (x_par (p_im (e_idx (x := dS L) (y := nD x) rfl rfl (h.ixi 0)) (p_im (e_idx (x := dS L) rfl (e_idx (x := dS L) (y := nD x) rfl rfl (h.ixi 0)) (h.ixi 1)) (p_im rfl rfl))) rfl) (x_seq e1 (x_seq (st1 := [.im (dS L), .im (nD x), .im (nD (it L x 0)), .im (nD (it L x (2 * M + 0))), .im (nD (3 * M + 2 * 0)), .im (nD 0), .un]) rfl (x_seq e2 (x_seq (st1 := [.im (dS L), .im (nD x), .im (nD (it L x m)), .im (nD (it L x (m + 1))), .im (nD (3 * M + 2 * m + 1)), .im (nD m), .im (nD 1)]) (x_par (p_im rfl (p_im (e_idx rfl rfl (h.ixi m)) (p_im (e_bin rfl rfl (n_add (3 * M + 2 * m) 1)) rfl))) rfl) (x_seq e3 (x_retI (e_tup (f_im rfl (f_im rfl (f_im rfl rfl))) (by show 3 ≤ 16777216; decide))))))))) rfl
omit h in
theorem W_le : ∀ a : Nat, W a ≤ a
  | 0 => Nat.le_refl _
  | a + 1 => by
    have := W_le a
    show (if a + 1 - W a = W a + 1 then a + 1 else W a) ≤ a + 1
    split <;> omega
theorem run_dbl (k : Nat) (hN : 100 ≤ N) : callF qs N (k + 1) 1 [(false, dS L), (false, nD x)] = some (.im (.tuple [nD m, nD l, nD (Am m l + 1 + l + 2 * m)]), []) := by
  obtain ⟨_, _, _, _, _, _, _, _, f9, f10, f11, f12, f13, f14⟩ := h.fact
  have h9 := h.ml9
  have hL : lim = 16777216 := rfl
  generalize Am m l = A at f9 f10 f11 f12 ⊢
  have e1 := whl_to (cd := evB (callF qs N k) by_doubling_2c) (bd := ex (callF qs N k) N by_doubling_2b) (fun a => [.im (dS L), .im (nD x), .im (nD (W a + 1)), .im (nD (a + 1 - W a)), .im (nD (it L x (W a))), .im (nD (it L x (a + 1))), .im (nD (a + 1)), .un, .un]) A 0 N (by omega) (fun a _ ha => by
    have hn := h.ne (W a) (a + 1)
    rw [f10 a (by omega)] at hn
    refine ⟨evB_cmp rfl rfl hn, ?_⟩
    have hw := W_le a
    have heq := n_eq (W a + 1) (a + 1 - W a)
    by_cases q : a + 1 - W a = W a + 1
    · have hW : W (a + 1) = a + 1 := by show (if a + 1 - W a = W a + 1 then a + 1 else W a) = _; rw [if_pos q]
      rw [decide_eq_true q.symm] at heq
      show ex (callF qs N k) N by_doubling_2b _ = some (.nx [.im (dS L), .im (nD x), .im (nD (W (a + 1) + 1)), .im (nD (a + 1 + 1 - W (a + 1))), .im (nD (it L x (W (a + 1)))), .im (nD (it L x (a + 1 + 1))), .im (nD (a + 1 + 1)), .un, .un])
      rw [hW, show a + 1 + 1 - (a + 1) = 0 + 1 by omega, show a + 1 + 1 = (W a + 1) * 2 by omega]
      refine x_seq (st1 := [.im (dS L), .im (nD x), .im (nD ((W a + 1) * 2)), .im (nD 0), .im (nD (it L x (a + 1))), .im (nD (it L x (a + 1))), .im (nD (a + 1)), .un, .un]) (x_ift (evB_cmp rfl rfl heq) (x_par (p_im rfl (p_im (e_bin rfl rfl (n_mul (W a + 1) 2 (by decide))) (p_im rfl rfl))) rfl)) (x_par (p_im (e_idx rfl rfl (h.ixi (a + 1))) (p_im (e_bin rfl rfl (n_add 0 1)) (p_im (e_bin rfl rfl (n_add (a + 1) 1)) rfl))) ?_)
      rw [show (W a + 1) * 2 = a + 1 + 1 by omega]
      rfl
    · have hW : W (a + 1) = W a := by show (if a + 1 - W a = W a + 1 then a + 1 else W a) = _; rw [if_neg q]
      rw [decide_eq_false (fun e => q e.symm)] at heq
      show ex (callF qs N k) N by_doubling_2b _ = some (.nx [.im (dS L), .im (nD x), .im (nD (W (a + 1) + 1)), .im (nD (a + 1 + 1 - W (a + 1))), .im (nD (it L x (W (a + 1)))), .im (nD (it L x (a + 1 + 1))), .im (nD (a + 1 + 1)), .un, .un])
      rw [hW, show a + 1 + 1 - W a = a + 1 - W a + 1 by omega]
      exact x_seq (st1 := [.im (dS L), .im (nD x), .im (nD (W a + 1)), .im (nD (a + 1 - W a)), .im (nD (it L x (W a))), .im (nD (it L x (a + 1))), .im (nD (a + 1)), .un, .un]) (x_pass (evB_cmp rfl rfl heq)) (x_par (p_im (e_idx rfl rfl (h.ixi (a + 1))) (p_im (e_bin rfl rfl (n_add (a + 1 - W a) 1)) (p_im (e_bin rfl rfl (n_add (a + 1) 1)) rfl))) rfl)) (by
    rw [Nat.zero_add]
    have hn := h.ne (W A) (A + 1)
    rw [f9] at hn
    exact evB_cmp rfl rfl hn)
  simp only [Nat.zero_add] at e1
  have e2 : ∀ (d j : Nat) (w : Slot), ∃ w', forL (bindT (.nm 7)) (ex (callF qs N k) N by_doubling_4b) (upto j d) [.im (dS L), .im (nD x), .im (nD (W A + 1)), .im (nD l), .im (nD x), .im (nD (it L x j)), .im (nD (A + 1 + j)), w, .un] = some (.nx [.im (dS L), .im (nD x), .im (nD (W A + 1)), .im (nD l), .im (nD x), .im (nD (it L x (j + d))), .im (nD (A + 1 + (j + d))), w', .un]) := by
    intro d
    induction d with
    | zero => intro j w; exact ⟨w, rfl⟩
    | succ d ih =>
      intro j w
      obtain ⟨w', e⟩ := ih (j + 1) (.im (nD j))
      rw [show j + 1 + d = j + (d + 1) by omega] at e
      exact ⟨w', fl_cons (st1 := [.im (dS L), .im (nD x), .im (nD (W A + 1)), .im (nD l), .im (nD x), .im (nD (it L x j)), .im (nD (A + 1 + j)), .im (nD j), .un]) rfl (x_par (p_im (e_idx rfl rfl (h.ixi j)) (p_im (e_bin rfl rfl (n_add (A + 1 + j) 1)) rfl)) rfl) e⟩
  obtain ⟨w', e2⟩ := e2 l 0 .un
  rw [Nat.zero_add] at e2
  have e3 := whl_to (cd := evB (callF qs N k) by_doubling_6c) (bd := ex (callF qs N k) N by_doubling_6b) (fun b => [.im (dS L), .im (nD x), .im (nD (W A + 1)), .im (nD l), .im (nD (it L x b)), .im (nD (it L x (l + b))), .im (nD (A + 1 + l + 2 * b)), w', .im (nD b)]) m 0 N (by omega) (fun b _ hb => by
    have hn := h.ne b (l + b)
    rw [f14 b (by omega)] at hn
    exact ⟨evB_cmp rfl rfl hn, x_par (p_im (e_idx rfl rfl (h.ixi b)) (p_im (e_idx rfl rfl (h.ixi (l + b))) (p_im (e_bin rfl rfl (n_add b 1)) (p_im (e_bin rfl rfl (n_add (A + 1 + l + 2 * b) 2)) rfl)))) rfl⟩) (by
    rw [Nat.zero_add]
    have hn := h.ne m (l + m)
    rw [f13] at hn
    exact evB_cmp rfl rfl hn)
  rw [Nat.zero_add] at e3
  have hl : A + 1 - W A = l := by omega
  rw [hl] at e1
  exact run_rt (df := q_by_doubling) rfl rfl (x_seq (st1 := [.im (dS L), .im (nD x), .im (nD (W 0 + 1)), .im (nD (0 + 1 - W 0)), .im (nD (it L x (W 0))), .im (nD (it L x (0 + 1))), .im (nD (0 + 1)), .un, .un]) (x_par (p_im rfl (p_im rfl (p_im rfl (p_im (e_idx (x := dS L) (y := nD x) rfl rfl (h.ixi 0)) (p_im rfl rfl))))) rfl) (x_seq e1 (x_seq (st1 := [.im (dS L), .im (nD x), .im (nD (W A + 1)), .im (nD l), .im (nD x), .im (nD (it L x 0)), .im (nD (A + 1 + 0)), .un, .un]) rfl (x_seq (x_for (l := none) (i_rng (n := l) rfl (by omega)) e2) (x_seq (st1 := [.im (dS L), .im (nD x), .im (nD (W A + 1)), .im (nD l), .im (nD (it L x 0)), .im (nD (it L x (l + 0))), .im (nD (A + 1 + l + 2 * 0)), w', .im (nD 0)]) rfl (x_seq e3 (x_retI (e_tup (f_im rfl (f_im rfl (f_im rfl rfl))) (by show 3 ≤ 16777216; decide))))))))) rfl
theorem run_first (k : Nat) (hN : 100 ≤ N) : callF qs N (k + 2) 4 [(false, dS L), (false, nD x)] = some (.im (nD (it L x m)), []) := by
  have hC := run_dbl h (N := N) k hN
  have h9 := h.ml9
  have hL : lim = 16777216 := rfl
  have e2 : ∀ (d j : Nat) (w : Slot), ∃ w', forL (bindT (.nm 3)) (ex (callF qs N (k + 1)) N first_of_ring_2b) (upto j d) [.im (dS L), .im (nD (it L x j)), .im (nD m), w] = some (.nx [.im (dS L), .im (nD (it L x (j + d))), .im (nD m), w']) := by
    intro d
    induction d with
    | zero => intro j w; exact ⟨w, rfl⟩
    | succ d ih =>
      intro j w
      obtain ⟨w', e⟩ := ih (j + 1) (.im (nD j))
      rw [show j + 1 + d = j + (d + 1) by omega] at e
      exact ⟨w', fl_cons (st1 := [.im (dS L), .im (nD (it L x j)), .im (nD m), .im (nD j)]) rfl (x_asg (e_idx rfl rfl (h.ixi j)) rfl) e⟩
  obtain ⟨w', e2⟩ := e2 m 0 (.im (nD (Am m l + 1 + l + 2 * m)))
  rw [Nat.zero_add] at e2
  refine run_rt (st1 := [.im (dS L), .im (nD (it L x m)), .im (nD m), w']) (df := q_first_of_ring) rfl rfl (x_seq (st1 := [.im (dS L), .im (nD (it L x 0)), .im (nD m), .im (nD (Am m l + 1 + l + 2 * m))]) ?_ (x_seq (x_for (l := none) (i_rng (n := m) rfl (by omega)) e2) (x_retI rfl))) rfl
  show (ev (callF qs N (k + 1)) (.call 1 (.cs (.var 0) (.cs (.var 1) .nl))) [.im (dS L), .im (nD x), .un, .un]).bind _ = _
  rw [e_c2 (st := [.im (dS L), .im (nD x), .un, .un]) rfl rfl hC rfl]
  rfl
theorem run_inring (k : Nat) (hN : 100 ≤ N) : callF qs N (k + 3) 5 [(false, dS L), (false, nD x)] = some (.im (.bool (decide (m = 0))), []) := by
  have hC := run_first h (N := N) k hN
  have hq : cmpD .eq (nD (it L x m)) (nD x) = some (decide (m = 0)) := by
    rw [n_eq]
    congr 1
    have := h.eq m 0
    by_cases q : m = 0
    · subst q; rw [decide_eq_true rfl]; exact decide_eq_true rfl
    · rw [decide_eq_false q]
      refine decide_eq_false (fun e => ?_)
      have e2 := this.mp e
      rw [eqr_iff] at e2
      omega
  refine run_rt (st1 := [.im (dS L), .im (nD x)]) (df := q_is_in_ring) rfl rfl (x_retI ?_) rfl
  show (ev (callF qs N (k + 2)) (.call 4 (.cs (.var 0) (.cs (.var 1) .nl))) [.im (dS L), .im (nD x)]).bind _ = _
  rw [e_c2 (st := [.im (dS L), .im (nD x)]) rfl rfl hC rfl]
  show ((some (nD (it L x m))).bind fun a => (some (nD x)).bind fun b => (cmpD .eq a b).map fun r => (notR r, [Slot.im (dS L), .im (nD x)])) = _
  rw [Option.bind_some, Option.bind_some, hq]
  rfl
end
end K64
end
section
set_option linter.all false
set_option maxRecDepth 100000
namespace K64
open PySem Nv Q64
theorem eqvN (a b : Nat) : PyData.eqv (nD a) (nD b) = decide (a = b) := by
  show ((a : Int) == (b : Int)) = _
  by_cases h : a = b
  · subst h; simp
  · rw [decide_eq_false h]; exact beq_eq_false_iff_ne.mpr (by omega)
theorem shp_nats (vs : List Nat) : SeqAt.shaped (.list (vs.map nD)) = true := by
  have h1 : PyData.canLayAll0 (vs.map nD) = true := by
    induction vs with
    | nil => rfl
    | cons x vs ih => show (PyData.canLay0 (nD x) && PyData.canLayAll0 (vs.map nD)) = true; rw [ih]; rfl
  have h2 : PyData.depthAll (vs.map nD) ≤ 1 := by
    clear h1
    induction vs with
    | nil => exact Nat.zero_le _
    | cons x vs ih => show max (PyData.depth (nD x)) (PyData.depthAll (vs.map nD)) ≤ 1; exact Nat.max_le.mpr ⟨by show 0 ≤ 1; decide, ih⟩
  show (PyData.canLayAll0 (vs.map nD) && decide (PyData.depthAll (vs.map nD) + 1 ≤ 64)) = true
  rw [h1, Bool.true_and]
  exact decide_eq_true (by omega)
theorem in_nats (v : Nat) (vs : List Nat) : inD (nD v) (.list (vs.map nD)) = some (decide (v ∈ vs)) := by
  show (if SeqAt.shaped (nD v) && SeqAt.shaped (.list (vs.map nD)) then some ((vs.map nD).any fun z => PyData.eqv z (nD v)) else none) = _
  rw [shp_nats, show SeqAt.shaped (nD v) = true from rfl]
  show some ((vs.map nD).any fun z => PyData.eqv z (nD v)) = _
  congr 1
  induction vs with
  | nil => rfl
  | cons x vs ih =>
    rw [List.map_cons, List.any_cons, ih, eqvN]
    by_cases e : x = v
    · subst e; simp
    · have : ¬ v = x := fun q => e q.symm
      simp [e, this]
def mkD (g : Nat → Nat) (qs : List Nat) : List (D × D) := qs.map fun q => (nD (g q), nD q)
theorem dget_mk (g : Nat → Nat) (v : Nat) : ∀ qs : List Nat, dget (mkD g qs) (nD v) = (qs.find? fun q => decide (g q = v)).map nD
  | [] => rfl
  | q :: qs => by
    have ih := dget_mk g v qs
    unfold dget mkD at ih ⊢
    rw [List.map_cons, List.find?_cons, List.find?_cons]
    show (match PyData.eqv (nD (g q)) (nD v) with | true => some (nD (g q), nD q) | false => _).map _ = _
    rw [eqvN]
    by_cases e : g q = v
    · rw [decide_eq_true e]; rfl
    · rw [decide_eq_false e]; exact ih
theorem fits_mk (g : Nat → Nat) (v : Nat) (qs : List Nat) : keyFits (mkD g qs) (nD v) = true := by
  cases qs <;> rfl
theorem dput_mk (g : Nat → Nat) (v p : Nat) : ∀ qs : List Nat, (∀ q ∈ qs, g q ≠ v) → dput (mkD g qs) (nD v) (nD p) = mkD g qs ++ [(nD v, nD p)]
  | [], _ => rfl
  | q :: qs, h => by
    show (if PyData.eqv (nD (g q)) (nD v) then _ else (nD (g q), nD q) :: dput (mkD g qs) (nD v) (nD p)) = _
    rw [eqvN, decide_eq_false (h q List.mem_cons_self), if_neg (by decide), dput_mk g v p qs (fun q hq => h q (List.mem_cons_of_mem _ hq))]
    rfl
section
variable {L : List Nat} {n x m l : Nat} (h : Rh L n x m l) {C : Orc} {N : Nat}
include h
def mq (g p : Nat) : List Nat := (List.range p).filter fun q => decide (q % g = 0)
omit h in
theorem mq_succ (g p : Nat) : mq g (p + 1) = if p % g = 0 then mq g p ++ [p] else mq g p := by
  unfold mq
  rw [List.range_succ, List.filter_append]
  by_cases e : p % g = 0
  · rw [if_pos e, List.filter_cons, if_pos (by simpa using e)]; rfl
  · rw [if_neg e, List.filter_cons, if_neg (by simpa using e), List.filter_nil, List.append_nil]
omit h in
theorem mq_mem {g p q : Nat} (hq : q ∈ mq g p) : q < p ∧ q % g = 0 := by
  unfold mq at hq
  rw [List.mem_filter] at hq
  exact ⟨List.mem_range.mp hq.1, by simpa using hq.2⟩
theorem Rh.it_ne {i j : Nat} (e : eqr m l i j = false) : it L x i ≠ it L x j := fun q => by rw [(h.eq i j).mp q] at e; cases e
theorem run_marks (k g : Nat) (hg : 1 ≤ g) (hg5 : g ≤ 5) (hN : 100 ≤ N) : callF qs N (k + 1) 3 [(false, dS L), (false, nD x), (false, nD g)] = some (.im (.tuple [nD l, nD ((Mk m g + l - 1) / g + 1)]), []) := by
  obtain ⟨f1, f2, f3, f4, f5, f6, f7⟩ := mfacts0 h.l1 h.ml9 hg hg5
  have h9 := h.ml9
  have hL : lim = 16777216 := rfl
  generalize Mk m g = Q at f1 f2 f3 f4 f5 f6 f7 ⊢
  have hcd : ∀ p, evB (callF qs N k) by_marks_2c [.im (dS L), .im (nD (it L x p)), .im (nD g), .ow (.dict (mkD (it L x) (mq g p))), .im (nD p)] = some (true, [.im (dS L), .im (nD (it L x p)), .im (nD g), .ow (.dict (mkD (it L x) (mq g p))), .im (nD p)]) := fun p => rfl
  have hin : ∀ p, inD (nD (it L x p)) (.dict (mkD (it L x) (mq g p))) = some ((mq g p).find? (fun q => decide (it L x q = it L x p))).isSome := by
    intro p
    show (if keyFits (mkD (it L x) (mq g p)) (nD (it L x p)) then some (dget (mkD (it L x) (mq g p)) (nD (it L x p))).isSome else none) = _
    rw [fits_mk, if_pos rfl, dget_mk]
    simp
  have hlen : ∀ p, (mq g p).length ≤ p := fun p => by unfold mq; exact Nat.le_trans (List.length_filter_le _ _) (by simp)
  have e1 := whl_ret (cd := evB (callF qs N k) by_marks_2c) (bd := ex (callF qs N k) N by_marks_2b) (fun p => [.im (dS L), .im (nD (it L x p)), .im (nD g), .ow (.dict (mkD (it L x) (mq g p))), .im (nD p)]) (r := .im (.tuple [nD l, nD ((Q + l - 1) / g + 1)])) (st := [.im (dS L), .im (nD (it L x (Q + l))), .im (nD g), .ow (.dict (mkD (it L x) (mq g (Q + l)))), .im (nD (Q + l))]) (Q + l) 0 N (by omega) (fun p _ hp => by
    refine ⟨hcd p, ?_⟩
    have hnone : (mq g p).find? (fun q => decide (it L x q = it L x p)) = none := by
      rw [List.find?_eq_none]
      intro q hq
      have := mq_mem hq
      have := h.it_ne (f5 p (by omega) q this.1 this.2)
      simpa using this
    have hi := hin p
    rw [hnone] at hi
    have hi : inD (nD (it L x p)) (.dict (mkD (it L x) (mq g p))) = some false := hi
    refine x_seq (st1 := [.im (dS L), .im (nD (it L x p)), .im (nD g), .ow (.dict (mkD (it L x) (mq g p))), .im (nD p)]) (x_pass ?_) (x_seq (st1 := [.im (dS L), .im (nD (it L x p)), .im (nD g), .ow (.dict (mkD (it L x) (mq g (p + 1)))), .im (nD p)]) ?_ (x_par (p_im (e_idx rfl rfl (h.ixi p)) (p_im (e_bin rfl rfl (n_add p 1)) rfl)) rfl))
    · simp only [ev, evB, evL, evF, evA, evO, sget, List.getD_cons_zero, List.getD_cons_succ, List.set_cons_zero, List.set_cons_succ, Option.bind_some, Option.map_some, dr, drs, Slot.val, fz, notR, tru, boolOf, ownOf, imOf, isLst, argsOf, ios, nodupN, Nv.fresh, outsTo, leave, cond_true, cond_false, Bool.not_true, Bool.not_false, sto, ↓reduceIte, cmpD, hi]
    · have hm := n_mod p g hg
      have he := n_eq (p % g) 0
      have hB : ∀ b, decide (p % g = 0) = b → evB (callF qs N k) (.of (.cmp .eq (.bin .mod (.var 4) (.var 2)) (.cst (nD 0)))) [.im (dS L), .im (nD (it L x p)), .im (nD g), .ow (.dict (mkD (it L x) (mq g p))), .im (nD p)] = some (b, [.im (dS L), .im (nD (it L x p)), .im (nD g), .ow (.dict (mkD (it L x) (mq g p))), .im (nD p)]) := fun b hb => by rw [hb] at he; exact evB_cmp (e_bin rfl rfl hm) rfl he
      rw [mq_succ]
      by_cases q : p % g = 0
      · rw [if_pos q]
        have hsub : subD (.dict (mkD (it L x) (mq g p))) (nD (it L x p)) (nD p) = some (.dict (mkD (it L x) (mq g p ++ [p]))) := by
          show (if keyFits (mkD (it L x) (mq g p)) (nD (it L x p)) && decide ((mkD (it L x) (mq g p)).length < lim) then some (PyData.dict (dput (mkD (it L x) (mq g p)) (nD (it L x p)) (nD p))) else none) = _
          have hl := hlen p
          rw [fits_mk, decide_eq_true (by unfold mkD; rw [List.length_map]; omega), if_pos (by decide), dput_mk _ _ _ _ (fun q hq => by
            have := mq_mem hq
            exact h.it_ne (f5 p (by omega) q this.1 this.2))]
          unfold mkD
          rw [List.map_append]; rfl
        refine x_ift (hB true (decide_eq_true q)) ?_
        simp only [ex, ev, evB, evL, evF, evA, evO, sget, List.getD_cons_zero, List.getD_cons_succ, List.set_cons_zero, List.set_cons_succ, Option.bind_some, Option.map_some, dr, drs, Slot.val, fz, notR, tru, boolOf, ownOf, imOf, isLst, argsOf, ios, nodupN, Nv.fresh, outsTo, leave, cond_true, cond_false, Bool.not_true, Bool.not_false, sto, ↓reduceIte, by_marks_2b_2t, hsub]
      · rw [if_neg q]
        exact x_pass (hB false (decide_eq_false q))) (by
    rw [Nat.zero_add]; exact hcd _) (by
    rw [Nat.zero_add]
    have hQ : Q ∈ mq g (Q + l) := by
      unfold mq
      rw [List.mem_filter]
      exact ⟨List.mem_range.mpr (by have := h.l1; omega), by simpa using f2⟩
    have hfind : (mq g (Q + l)).find? (fun q => decide (it L x q = it L x (Q + l))) = some Q := by
      cases hf : (mq g (Q + l)).find? (fun q => decide (it L x q = it L x (Q + l))) with
      | none =>
        rw [List.find?_eq_none] at hf
        have := hf Q hQ
        rw [decide_eq_true ((h.eq Q (Q + l)).mpr f4)] at this
        exact absurd rfl this
      | some q =>
        have hm := mq_mem (List.mem_of_find?_eq_some hf)
        have hp := List.find?_some hf
        by_cases e : q = Q
        · rw [e]
        · exact absurd (of_decide_eq_true hp) (h.it_ne (f6 q hm.1 hm.2 e))
    have hi := hin (Q + l)
    rw [hfind] at hi
    have hi : inD (nD (it L x (Q + l))) (.dict (mkD (it L x) (mq g (Q + l)))) = some true := hi
    have hx : idxD (.dict (mkD (it L x) (mq g (Q + l)))) (nD (it L x (Q + l))) = some (nD Q) := by
      show (if keyFits _ _ then dget _ _ else none) = _
      rw [fits_mk, if_pos rfl, dget_mk, hfind]; rfl
    have hl : bltD .len [.dict (mkD (it L x) (mq g (Q + l)))] = some (.im (nD ((Q + l - 1) / g + 1))) := by
      show some (R.im (.int ((mkD (it L x) (mq g (Q + l))).length : Int))) = _
      unfold mkD
      rw [List.length_map, show (mq g (Q + l)).length = (Q + l - 1) / g + 1 from f7]
    have hs := n_sub (Q + l) Q (by omega)
    rw [show Q + l - Q = l by omega] at hs
    refine x_seqR (x_ift (st1 := [.im (dS L), .im (nD (it L x (Q + l))), .im (nD g), .ow (.dict (mkD (it L x) (mq g (Q + l)))), .im (nD (Q + l))]) ?_ (x_retI (e_tup (f_im ?_ (f_im ?_ rfl)) (by show 2 ≤ 16777216; decide))))
    · simp only [ev, evB, evL, evF, evA, evO, sget, List.getD_cons_zero, List.getD_cons_succ, List.set_cons_zero, List.set_cons_succ, Option.bind_some, Option.map_some, dr, drs, Slot.val, fz, notR, tru, boolOf, ownOf, imOf, isLst, argsOf, ios, nodupN, Nv.fresh, outsTo, leave, cond_true, cond_false, Bool.not_true, Bool.not_false, sto, ↓reduceIte, cmpD, hi]
    · simp only [ev, evB, evL, evF, evA, evO, sget, List.getD_cons_zero, List.getD_cons_succ, List.set_cons_zero, List.set_cons_succ, Option.bind_some, Option.map_some, dr, drs, Slot.val, fz, notR, tru, boolOf, ownOf, imOf, isLst, argsOf, ios, nodupN, Nv.fresh, outsTo, leave, cond_true, cond_false, Bool.not_true, Bool.not_false, sto, ↓reduceIte, hx, hs]
    · simp only [ev, evB, evL, evF, evA, evO, sget, List.getD_cons_zero, List.getD_cons_succ, List.set_cons_zero, List.set_cons_succ, Option.bind_some, Option.map_some, dr, drs, Slot.val, fz, notR, tru, boolOf, ownOf, imOf, isLst, argsOf, ios, nodupN, Nv.fresh, outsTo, leave, cond_true, cond_false, Bool.not_true, Bool.not_false, sto, ↓reduceIte, hl])
  exact run_rt (df := q_by_marks) rfl rfl (x_seq (st1 := [.im (dS L), .im (nD (it L x 0)), .im (nD g), .ow (.dict (mkD (it L x) (mq g 0))), .im (nD 0)]) rfl e1) rfl
def rw (L : List Nat) (x j : Nat) : List Nat := (List.range j).map (it L x)
omit h in
theorem rw_succ (j : Nat) : rw L x (j + 1) = rw L x j ++ [it L x j] := by unfold rw; rw [List.range_succ, List.map_append]; rfl
omit h in
theorem rw_len (j : Nat) : (rw L x j).length = j := by unfold rw; simp
omit h in
theorem rw_ix {i j : Nat} (hi : i < j) : idxD (.list ((rw L x j).map nD)) (nD i) = some (nD (it L x i)) := by
  refine idx_lst ?_
  unfold rw
  rw [List.map_map, List.getElem?_map, List.getElem?_range hi]; rfl
theorem run_rows (k : Nat) (hN : 100 ≤ N) : callF qs N (k + 1) 11 [(false, dS L), (false, nD x)] = some (.tm (.list ((rw L x (4 * n + 9)).map nD)), []) := by
  have hn := h.mp.few
  have hL : lim = 16777216 := rfl
  have e2 : ∀ (d j : Nat) (w : Slot), j + d ≤ 1000 → ∃ w', forL (bindT (.nm 3)) (ex (callF qs N k) N law_rows_2b) (upto j d) [.im (dS L), .im (nD x), .ow (.list ((rw L x (j + 1)).map nD)), w] = some (.nx [.im (dS L), .im (nD x), .ow (.list ((rw L x (j + d + 1)).map nD)), w']) := by
    intro d
    induction d with
    | zero => intro j w _; exact ⟨w, rfl⟩
    | succ d ih =>
      intro j w hj
      obtain ⟨w', e⟩ := ih (j + 1) (.im (nD j)) (by omega)
      rw [show j + 1 + d = j + (d + 1) by omega] at e
      refine ⟨w', fl_cons (st1 := [.im (dS L), .im (nD x), .ow (.list ((rw L x (j + 1)).map nD)), .im (nD j)]) rfl (x_exp (r := .im .none) ?_) e⟩
      have hlast : idxD (.list ((rw L x (j + 1)).map nD)) (.int (-1)) = some (nD (it L x j)) := by
        rw [rw_succ, List.map_append]; exact idx_last _ _
      have p2 := push_at ((rw L x (j + 1)).map nD) (nD (it L x (j + 1))) (by rw [List.length_map, rw_len]; omega)
      rw [rw_succ (j + 1), List.map_append]
      have hv : ev (callF qs N k) (.idx (.var 0) (.idx (.var 2) (.neg (.cst (nD 1))))) [.im (dS L), .im (nD x), .ow (.list ((rw L x (j + 1)).map nD)), .im (nD j)] = some (.im (nD (it L x (j + 1))), [.im (dS L), .im (nD x), .ow (.list ((rw L x (j + 1)).map nD)), .im (nD j)]) := e_idx rfl (e_idxO (x := .list ((rw L x (j + 1)).map nD)) rfl neg1 hlast) (h.ixi j)
      exact e_app1 (x := .list ((rw L x (j + 1)).map nD)) rfl hv rfl rfl p2
  obtain ⟨w', e⟩ := e2 (4 * n + 8) 0 .un (by omega)
  rw [show 0 + (4 * n + 8) + 1 = 4 * n + 9 by omega] at e
  have hlen : bltD .len [dS L] = some (.im (nD n)) := by
    show some (R.im (.int ((L.map nD).length : Int))) = _
    rw [List.length_map, h.mp.len]
  refine run_rt (st1 := [.im (dS L), .im (nD x), .un, w']) (df := q__law_rows) rfl rfl (x_seq (st1 := [.im (dS L), .im (nD x), .ow (.list ((rw L x 1).map nD)), .un]) (x_asg (e_lst (f_im rfl rfl) (by show 1 ≤ 16777216; decide)) rfl) (x_seq (x_for (l := none) (i_rng (n := 4 * n + 8) ?_ (by omega)) e) (x_ret (r := .sl 2) rfl rfl))) rfl
  exact e_bin (x := nD (4 * n)) (y := nD 8) (e_bin (x := nD 4) (y := nD n) rfl (e_blt1 (r := .im (dS L)) rfl rfl hlen) (n_mul' 4 n (by decide))) rfl (n_add _ _)
end
end K64
end
section
set_option linter.all false
set_option maxRecDepth 100000
namespace K64
open PySem Nv Q64
/-- the stack ahead of the k-th step: places, rising -/
def stk (g : Nat → Nat) : Nat → List Nat
  | 0 => []
  | k + 1 => (stk g k).filter (fun j => decide (g j < g k)) ++ [k]
def mst (g : Nat → Nat) : Nat → Nat
  | 0 => 0
  | k + 1 => max (mst g k) (stk g (k + 1)).length
theorem stk_mem (g : Nat → Nat) : ∀ (k j : Nat), j ∈ stk g k ↔ (j < k ∧ ∀ i, j < i → i < k → g j < g i)
  | 0, j => ⟨fun h => (by cases h), fun h => absurd h.1 (Nat.not_lt_zero _)⟩
  | k + 1, j => by
    show j ∈ (stk g k).filter (fun j => decide (g j < g k)) ++ [k] ↔ _
    rw [List.mem_append, List.mem_filter, stk_mem g k j, List.mem_singleton]
    constructor
    · rintro (⟨⟨h1, h2⟩, h3⟩ | h)
      · refine ⟨by omega, fun i hi hk => ?_⟩
        by_cases e : i = k
        · subst e; exact of_decide_eq_true h3
        · exact h2 i hi (by omega)
      · subst h; exact ⟨by omega, fun i hi hk => by omega⟩
    · rintro ⟨h1, h2⟩
      by_cases e : j = k
      · exact .inr e
      · exact .inl ⟨⟨by omega, fun i hi hk => h2 i hi (by omega)⟩, decide_eq_true (h2 k (by omega) (by omega))⟩
theorem stk_pw (g : Nat → Nat) : ∀ k : Nat, (stk g k).Pairwise (fun a b => g a < g b)
  | 0 => .nil
  | k + 1 => by
    show ((stk g k).filter (fun j => decide (g j < g k)) ++ [k]).Pairwise _
    rw [List.pairwise_append]
    refine ⟨(stk_pw g k).filter _, List.pairwise_singleton _ _, fun a ha b hb => ?_⟩
    rw [List.mem_singleton.mp hb]
    exact of_decide_eq_true (List.mem_filter.mp ha).2
theorem stk_len (g : Nat → Nat) : ∀ k : Nat, (stk g k).length ≤ k
  | 0 => Nat.le_refl _
  | k + 1 => by
    show ((stk g k).filter (fun j => decide (g j < g k)) ++ [k]).length ≤ k + 1
    have h1 := stk_len g k
    have h2 := List.length_filter_le (fun j => decide (g j < g k)) (stk g k)
    rw [List.length_append]
    show _ + 1 ≤ _
    omega
def pD (g : Nat → Nat) (j : Nat) : D := .tuple [nD (g j), nD j]
theorem pD0 (g : Nat → Nat) (j : Nat) : idxD (pD g j) (nD 0) = some (nD (g j)) := idx_tup (i := 0) rfl
theorem pD1 (g : Nat → Nat) (j : Nat) : idxD (pD g j) (nD 1) = some (nD j) := idx_tup (i := 1) rfl
theorem last_pD (g : Nat → Nat) (s : List Nat) (a : Nat) : idxD (.list ((s ++ [a]).map (pD g))) (.int (-1)) = some (pD g a) := by
  rw [List.map_append]; exact idx_last _ _
theorem ne_nil (s : List D) : cmpD .ne (.list s) (.list []) = some (!s.isEmpty) := rfl
theorem pop_last (s : List D) (x : D) : mutD .pop0 (.list (s ++ [x])) [] = some (.list s, x) := by
  show (s ++ [x]).getLast?.map (fun y => (PyData.list (s ++ [x]).dropLast, y)) = _
  simp
section
variable {C : Orc} {N : Nat}
theorem pops (g : Nat → Nat) (v : Nat) (A P M : Slot) : ∀ (n : Nat) (s : List Nat) (T : Nat), s.length = n → n < T → s.Pairwise (fun a b => g a < g b) →
    whlL (evB C by_least_2b_1c) (ex C N by_least_2b_1b) T [A, .im (nD v), .ow (.list (s.map (pD g))), P, M] = some (.nx [A, .im (nD v), .ow (.list ((s.filter fun j => decide (g j ≤ v)).map (pD g))), P, M])
  | _, _, 0, _, h, _ => absurd h (Nat.not_lt_zero _)
  | n, s, T + 1, hl, hT, hp => by
    rcases List.eq_nil_or_concat s with e | ⟨s', a, e⟩
    · subst e
      exact wl_stop rfl
    · rw [List.concat_eq_append] at e
      subst e
      have hne : cmpD .ne (.list ((s' ++ [a]).map (pD g))) (.list []) = some true := by rw [ne_nil, List.map_append]; simp
      have hla := last_pD g s' a
      have h1 : evB C (.of (.cmp .ne (.var 2) (.lst .nl))) [A, .im (nD v), .ow (.list ((s' ++ [a]).map (pD g))), P, M] = some (true, [A, .im (nD v), .ow (.list ((s' ++ [a]).map (pD g))), P, M]) := by
        have hl0 : ([] : List D).length ≤ lim := by decide
        simp only [ev, evB, evL, evF, evA, evO, sget, List.getD_cons_zero, List.getD_cons_succ, List.set_cons_zero, List.set_cons_succ, Option.bind_some, Option.map_some, dr, drs, Slot.val, fz, notR, tru, boolOf, ownOf, imOf, isLst, argsOf, ios, nodupN, Nv.fresh, outsTo, leave, cond_true, cond_false, Bool.not_true, Bool.not_false, sto, ↓reduceIte, hl0, hne]
      have h2 : ∀ b, decide (v < g a) = b → evB C by_least_2b_1c [A, .im (nD v), .ow (.list ((s' ++ [a]).map (pD g))), P, M] = some (b, [A, .im (nD v), .ow (.list ((s' ++ [a]).map (pD g))), P, M]) := fun b hb => by
        have := n_gt (g a) v
        rw [hb] at this
        exact evB_andT h1 (evB_cmp (e_idx (e_idxO (x := .list ((s' ++ [a]).map (pD g))) rfl neg1 hla) rfl (pD0 g a)) rfl this)
      rw [List.pairwise_append] at hp
      by_cases q : v < g a
      · have r := pops g v A P M s'.length s' T rfl (by rw [List.length_append] at hl; have : s'.length + 1 = n := hl; omega) hp.1
        rw [List.filter_append, show [a].filter (fun j => decide (g j ≤ v)) = [] by rw [List.filter_cons, if_neg (by simpa using q)]; rfl, List.append_nil]
        refine wl_go (h2 true (decide_eq_true q)) (st2 := [A, .im (nD v), .ow (.list (s'.map (pD g))), P, M]) ?_ r
        have hpo := pop_last (s'.map (pD g)) (pD g a)
        rw [List.map_append]
        show (ev C (.mut .pop0 2 .nl) [A, .im (nD v), .ow (.list (s'.map (pD g) ++ [pD g a])), P, M]).map _ = _
        have : ev C (.mut .pop0 2 .nl) [A, .im (nD v), .ow (.list (s'.map (pD g) ++ [pD g a])), P, M] = some (.im (pD g a), [A, .im (nD v), .ow (.list (s'.map (pD g))), P, M]) := by simp only [ev, evB, evL, evF, evA, evO, sget, List.getD_cons_zero, List.getD_cons_succ, List.set_cons_zero, List.set_cons_succ, Option.bind_some, Option.map_some, dr, drs, Slot.val, fz, notR, tru, boolOf, ownOf, imOf, isLst, argsOf, ios, nodupN, Nv.fresh, outsTo, leave, cond_true, cond_false, Bool.not_true, Bool.not_false, sto, ↓reduceIte, hpo]
        rw [this]; rfl
      · have hall : (s' ++ [a]).filter (fun j => decide (g j ≤ v)) = s' ++ [a] := by
          rw [List.filter_eq_self]
          intro j hj
          rcases List.mem_append.mp hj with r | r
          · have := hp.2.2 j r a List.mem_cons_self
            exact decide_eq_true (by omega)
          · rw [List.mem_singleton.mp r]; exact decide_eq_true (by omega)
        rw [hall]
        exact wl_stop (h2 false (decide_eq_false q))
end
section
variable {L : List Nat} {n x m l : Nat} (h : Rh L n x m l) {C : Orc} {N : Nat}
include h
/-- where the stack's way ends -/
structure Le (L : List Nat) (x m l K a : Nat) : Prop where
  no : ∀ k, k < K → ∀ j ∈ stk (it L x) k, it L x j ≠ it L x k
  mem : a ∈ stk (it L x) K
  eq : it L x a = it L x K
  far : K = a + l
  ge : m ≤ a
  lt : a < m + l
theorem Rh.least : ∃ K a, Le L x m l K a := by
  -- the least of the ring
  obtain ⟨v, _, ⟨a0, h1, h2, rfl⟩, hmin⟩ := K64.least (P := fun v => ∃ i, m ≤ i ∧ i < m + l ∧ it L x i = v) (it L x m) ⟨m, Nat.le_refl _, by have := h.l1; omega, rfl⟩
  have hred : ∀ i, m ≤ i → ∃ i', m ≤ i' ∧ i' < m + l ∧ it L x i' = it L x i := fun i hi => by
    refine ⟨m + (i - m) % l, by omega, by have := Nat.mod_lt (i - m) h.l1; omega, (h.eq _ _).mpr (eqr_iff.mpr (.inr ⟨by omega, hi, ?_⟩))⟩
    rw [Nat.add_mod, Nat.mod_mod, ← Nat.add_mod, show m + (i - m) = i by omega]
  have hge : ∀ i, m ≤ i → it L x a0 ≤ it L x i := fun i hi => by
    obtain ⟨i', h3, h4, h5⟩ := hred i hi
    rw [← h5]
    exact Nat.le_of_not_lt fun q => hmin _ q ⟨i', h3, h4, rfl⟩
  have hin : a0 ∈ stk (it L x) (a0 + l) := by
    rw [stk_mem]
    refine ⟨by have := h.l1; omega, fun i hi hk => ?_⟩
    have h3 := hge i (by omega)
    have h4 : it L x a0 ≠ it L x i := fun e => by
      have := eqr_iff.mp ((h.eq _ _).mp e)
      rcases this with q | ⟨_, _, q⟩
      · omega
      · have hz : (i - a0) % l = 0 := Nat.sub_mod_eq_zero_of_mod_eq q.symm
        rw [Nat.mod_eq_of_lt (by omega)] at hz
        omega
    omega
  have heq : it L x a0 = it L x (a0 + l) := (h.eq _ _).mpr (eqr_iff.mpr (.inr ⟨h1, by omega, by rw [Nat.add_mod_right]⟩))
  obtain ⟨K, hK, ⟨a, ha, hae⟩, hno⟩ := K64.least (P := fun k => ∃ j, j ∈ stk (it L x) k ∧ it L x j = it L x k) (a0 + l) ⟨a0, hin, heq⟩
  have hm := (stk_mem (it L x) K a).mp ha
  have hq := eqr_iff.mp ((h.eq _ _).mp hae)
  have hfar : K = a + l ∧ m ≤ a := by
    rcases hq with q | ⟨q1, q2, q3⟩
    · omega
    · refine ⟨?_, q1⟩
      have hz : (K - a) % l = 0 := Nat.sub_mod_eq_zero_of_mod_eq q3.symm
      have hle : l ≤ K - a := Nat.le_of_dvd (by omega) (Nat.dvd_of_mod_eq_zero hz)
      by_cases e : K = a + l
      · exact e
      · have := hm.2 (a + l) (by have := h.l1; omega) (by omega)
        have e2 : it L x a = it L x (a + l) := (h.eq _ _).mpr (eqr_iff.mpr (.inr ⟨q1, by omega, by rw [Nat.add_mod_right]⟩))
        omega
  exact ⟨K, a, fun k hk j hj e => hno k hk ⟨j, hj, e⟩, ha, hae, hfar.1, hfar.2, by omega⟩
theorem stk_le {K a : Nat} (q : Le L x m l K a) {k : Nat} (hk : k < K) : (stk (it L x) k).filter (fun j => decide (it L x j ≤ it L x k)) = (stk (it L x) k).filter (fun j => decide (it L x j < it L x k)) := by
  refine List.filter_congr fun j hj => ?_
  have := q.no k hk j hj
  by_cases e : it L x j < it L x k
  · rw [decide_eq_true e, decide_eq_true (by omega)]
  · rw [decide_eq_false e, decide_eq_false (by omega)]
theorem stk_end {K a : Nat} (q : Le L x m l K a) : ∃ s, (stk (it L x) K).filter (fun j => decide (it L x j ≤ it L x K)) = s ++ [a] := by
  have hp := (stk_pw (it L x) K).filter (fun j => decide (it L x j ≤ it L x K))
  have ha : a ∈ (stk (it L x) K).filter (fun j => decide (it L x j ≤ it L x K)) := List.mem_filter.mpr ⟨q.mem, decide_eq_true (by have := q.eq; omega)⟩
  rcases List.eq_nil_or_concat ((stk (it L x) K).filter (fun j => decide (it L x j ≤ it L x K))) with e | ⟨s, b, e⟩
  · rw [e] at ha; cases ha
  · rw [List.concat_eq_append] at e
    refine ⟨s, ?_⟩
    rw [e] at hp ha ⊢
    rw [List.pairwise_append] at hp
    rcases List.mem_append.mp ha with r | r
    · have h1 := hp.2.2 a r b List.mem_cons_self
      have h2 : b ∈ (stk (it L x) K).filter (fun j => decide (it L x j ≤ it L x K)) := by rw [e]; exact List.mem_append_right _ List.mem_cons_self
      have h3 := of_decide_eq_true (List.mem_filter.mp h2).2
      have := q.eq
      omega
    · rw [List.mem_singleton.mp r]
theorem run_least (k : Nat) {K a : Nat} (q : Le L x m l K a) (hN : 100 ≤ N) : callF qs N (k + 1) 2 [(false, dS L), (false, nD x)] = some (.im (.tuple [nD (it L x K), nD l, nD (mst (it L x) K)]), []) := by
  have h9 := h.ml9
  have hL : lim = 16777216 := rfl
  have hKl := q.far
  have hal := q.lt
  have hpop : ∀ j, j ≤ K → ex (callF qs N k) N by_least_2b_1 [.im (dS L), .im (nD (it L x j)), .ow (.list ((stk (it L x) j).map (pD (it L x)))), .im (nD j), .im (nD (mst (it L x) j))] = some (.nx [.im (dS L), .im (nD (it L x j)), .ow (.list (((stk (it L x) j).filter fun i => decide (it L x i ≤ it L x j)).map (pD (it L x)))), .im (nD j), .im (nD (mst (it L x) j))]) := fun j hj =>
    pops (it L x) (it L x j) (.im (dS L)) (.im (nD j)) (.im (nD (mst (it L x) j))) _ (stk (it L x) j) N rfl (by have := stk_len (it L x) j; omega) (stk_pw _ _)
  have e1 := whl_ret (cd := evB (callF qs N k) by_least_2c) (bd := ex (callF qs N k) N by_least_2b) (fun j => [.im (dS L), .im (nD (it L x j)), .ow (.list ((stk (it L x) j).map (pD (it L x)))), .im (nD j), .im (nD (mst (it L x) j))]) (r := .im (.tuple [nD (it L x K), nD l, nD (mst (it L x) K)])) (st := [.im (dS L), .im (nD (it L x K)), .ow (.list (((stk (it L x) K).filter fun i => decide (it L x i ≤ it L x K)).map (pD (it L x)))), .im (nD K), .im (nD (mst (it L x) K))]) K 0 N (by omega) (fun j _ hj => by
    refine ⟨rfl, ?_⟩
    have hp := hpop j (by omega)
    rw [stk_le h q (by omega)] at hp
    refine x_seq hp (x_seq (st1 := [.im (dS L), .im (nD (it L x j)), .ow (.list (((stk (it L x) j).filter fun i => decide (it L x i < it L x j)).map (pD (it L x)))), .im (nD j), .im (nD (mst (it L x) j))]) (x_pass ?_) (x_seq (st1 := [.im (dS L), .im (nD (it L x j)), .ow (.list ((stk (it L x) (j + 1)).map (pD (it L x)))), .im (nD j), .im (nD (mst (it L x) j))]) ?_ (x_seq (st1 := [.im (dS L), .im (nD (it L x j)), .ow (.list ((stk (it L x) (j + 1)).map (pD (it L x)))), .im (nD j), .im (nD (mst (it L x) (j + 1)))]) ?_ (x_par (p_im (e_idx rfl rfl (h.ixi j)) (p_im (e_bin rfl rfl (n_add j 1)) rfl)) rfl))))
    · rcases List.eq_nil_or_concat ((stk (it L x) j).filter fun i => decide (it L x i < it L x j)) with e | ⟨s, b, e⟩
      · rw [e]; rfl
      · rw [List.concat_eq_append] at e
        have hb : b ∈ (stk (it L x) j).filter fun i => decide (it L x i < it L x j) := by rw [e]; exact List.mem_append_right _ List.mem_cons_self
        have hb2 := of_decide_eq_true (List.mem_filter.mp hb).2
        rw [e]
        have hne : cmpD .ne (.list ((s ++ [b]).map (pD (it L x)))) (.list []) = some true := by rw [ne_nil, List.map_append]; simp
        have hl0 : ([] : List D).length ≤ lim := by decide
        have heq := n_eq (it L x b) (it L x j)
        rw [decide_eq_false (by omega)] at heq
        exact evB_andT (st1 := [.im (dS L), .im (nD (it L x j)), .ow (.list ((s ++ [b]).map (pD (it L x)))), .im (nD j), .im (nD (mst (it L x) j))]) (by simp only [ev, evB, evL, evF, evA, evO, sget, List.getD_cons_zero, List.getD_cons_succ, List.set_cons_zero, List.set_cons_succ, Option.bind_some, Option.map_some, dr, drs, Slot.val, fz, notR, tru, boolOf, ownOf, imOf, isLst, argsOf, ios, nodupN, Nv.fresh, outsTo, leave, cond_true, cond_false, Bool.not_true, Bool.not_false, sto, ↓reduceIte, hl0, hne]) (evB_cmp (e_idx (e_idxO (x := .list ((s ++ [b]).map (pD (it L x)))) rfl neg1 (last_pD _ s b)) rfl (pD0 _ b)) rfl heq)
    · have hfl := List.length_filter_le (fun i => decide (it L x i < it L x j)) (stk (it L x) j)
      have hsl := stk_len (it L x) j
      have p2 := push_at (((stk (it L x) j).filter fun i => decide (it L x i < it L x j)).map (pD (it L x))) (pD (it L x) j) (by rw [List.length_map]; omega)
      show ex _ _ by_least_2b_3 _ = some (.nx [.im (dS L), .im (nD (it L x j)), .ow (.list (((stk (it L x) j).filter (fun i => decide (it L x i < it L x j)) ++ [j]).map (pD (it L x)))), .im (nD j), .im (nD (mst (it L x) j))])
      rw [List.map_append]
      refine x_exp (r := .im .none) ?_
      exact e_app1 (i := 2) (e := .tup (.cs (.var 1) (.cs (.var 3) .nl))) (d := pD (it L x) j) (st := [.im (dS L), .im (nD (it L x j)), .ow (.list (((stk (it L x) j).filter fun i => decide (it L x i < it L x j)).map (pD (it L x)))), .im (nD j), .im (nD (mst (it L x) j))]) (st1 := [.im (dS L), .im (nD (it L x j)), .ow (.list (((stk (it L x) j).filter fun i => decide (it L x i < it L x j)).map (pD (it L x)))), .im (nD j), .im (nD (mst (it L x) j))]) rfl (e_tup (f_im rfl (f_im rfl rfl)) (by show 2 ≤ 16777216; decide)) rfl rfl p2
    · have hm := max2_nat (mst (it L x) j) (stk (it L x) (j + 1)).length
      have hl : bltD .len [.list ((stk (it L x) (j + 1)).map (pD (it L x)))] = some (.im (nD (stk (it L x) (j + 1)).length)) := by rw [len_lst, List.length_map]
      refine x_asg (r := .im (nD (mst (it L x) (j + 1)))) (st1 := [.im (dS L), .im (nD (it L x j)), .ow (.list ((stk (it L x) (j + 1)).map (pD (it L x)))), .im (nD j), .im (nD (mst (it L x) j))]) ?_ rfl
      simp only [ev, evB, evL, evF, evA, evO, sget, List.getD_cons_zero, List.getD_cons_succ, List.set_cons_zero, List.set_cons_succ, Option.bind_some, Option.map_some, dr, drs, Slot.val, fz, notR, tru, boolOf, ownOf, imOf, isLst, argsOf, ios, nodupN, Nv.fresh, outsTo, leave, cond_true, cond_false, Bool.not_true, Bool.not_false, sto, ↓reduceIte, hl, hm]
      rfl) rfl (by
    rw [Nat.zero_add]
    obtain ⟨s, hs⟩ := stk_end h q
    have hp := hpop K (Nat.le_refl _)
    refine x_seq hp (x_seqR ?_)
    rw [hs]
    have hne : cmpD .ne (.list ((s ++ [a]).map (pD (it L x)))) (.list []) = some true := by rw [ne_nil, List.map_append]; simp
    have hl0 : ([] : List D).length ≤ lim := by decide
    have heq := n_eq (it L x a) (it L x K)
    rw [decide_eq_true q.eq] at heq
    have hsub := n_sub K a (by omega)
    rw [show K - a = l by omega] at hsub
    refine x_ift (st1 := [.im (dS L), .im (nD (it L x K)), .ow (.list ((s ++ [a]).map (pD (it L x)))), .im (nD K), .im (nD (mst (it L x) K))]) (evB_andT (st1 := [.im (dS L), .im (nD (it L x K)), .ow (.list ((s ++ [a]).map (pD (it L x)))), .im (nD K), .im (nD (mst (it L x) K))]) (by simp only [ev, evB, evL, evF, evA, evO, sget, List.getD_cons_zero, List.getD_cons_succ, List.set_cons_zero, List.set_cons_succ, Option.bind_some, Option.map_some, dr, drs, Slot.val, fz, notR, tru, boolOf, ownOf, imOf, isLst, argsOf, ios, nodupN, Nv.fresh, outsTo, leave, cond_true, cond_false, Bool.not_true, Bool.not_false, sto, ↓reduceIte, hl0, hne]) (evB_cmp (e_idx (e_idxO (x := .list ((s ++ [a]).map (pD (it L x)))) rfl neg1 (last_pD _ s a)) rfl (pD0 _ a)) rfl heq)) (x_retI (e_tup (f_im rfl (f_im (e_bin rfl (e_idx (e_idxO (x := .list ((s ++ [a]).map (pD (it L x)))) rfl neg1 (last_pD _ s a)) rfl (pD1 _ a)) hsub) (f_im rfl rfl))) (by show 3 ≤ 16777216; decide))))
  exact run_rt (df := q_by_least) rfl rfl (x_seq (st1 := [.im (dS L), .im (nD (it L x 0)), .ow (.list ((stk (it L x) 0).map (pD (it L x)))), .im (nD 0), .im (nD (mst (it L x) 0))]) rfl e1) rfl
end
end K64
end
section
set_option linter.all false
set_option maxRecDepth 100000
namespace K64
open PySem Nv Q64
theorem e_binS {C : Orc} {o : Bop} {a b : E} {st st1 st2 : Sg} {x y : D} {q : R} (h1 : ev C a st = some (.im x, st1)) (h2 : ev C b st1 = some (.im y, st2)) (hq : binD o x y = some q) : ev C (.bin o a b) st = some (q, st2) := by
  simp only [ev, h1, h2, dr, Option.bind_some, Option.map_some, hq]
theorem first_rg {p : Nat → Bool} {K : Nat} : ∀ (c s : Nat), s ≤ K → K < s + c → p K = true → (∀ k, s ≤ k → k < K → p k = false) → ∃ r, (List.range' s c).filter p = K :: r
  | 0, s, h1, h2, _, _ => absurd h2 (by omega)
  | c + 1, s, h1, h2, h3, h4 => by
    rw [List.range'_succ, List.filter_cons]
    by_cases e : s = K
    · subst e; rw [if_pos h3]; exact ⟨_, rfl⟩
    · rw [if_neg (by rw [h4 s (Nat.le_refl _) (by omega)]; decide)]
      exact first_rg c (s + 1) (by omega) (by omega) h3 (fun k hk hk2 => h4 k (by omega) hk2)
theorem mem_rw {L : List Nat} {x j v : Nat} : v ∈ rw L x j ↔ ∃ i, i < j ∧ it L x i = v := by
  unfold rw
  simp only [List.mem_map, List.mem_range]
theorem mem_cut {L : List Nat} {x R a b v : Nat} (hR : a + b ≤ R) : v ∈ ((rw L x R).drop a).take b ↔ ∃ i, a ≤ i ∧ i < a + b ∧ it L x i = v := by
  unfold rw
  rw [List.mem_iff_getElem?]
  constructor
  · rintro ⟨i, hi⟩
    rw [List.getElem?_take] at hi
    split at hi
    · rename_i hb
      rw [List.getElem?_drop, List.getElem?_map, List.getElem?_range (by omega)] at hi
      exact ⟨a + i, by omega, by omega, Option.some.inj hi⟩
    · cases hi
  · rintro ⟨i, h1, h2, h3⟩
    refine ⟨i - a, ?_⟩
    rw [List.getElem?_take, if_pos (by omega), List.getElem?_drop, show a + (i - a) = i by omega, List.getElem?_map, List.getElem?_range (by omega), ← h3]
    rfl
section
variable {L : List Nat} {n x y m l m2 l2 : Nat} (h : Rh L n x m l) {C : Orc} {N : Nat}
include h
theorem Rh.eqm {i j : Nat} : it L x i = it L x j ↔ (i = j ∨ (m ≤ i ∧ m ≤ j ∧ i % l = j % l)) := by rw [h.eq, eqr_iff]
theorem Rh.fresh {j : Nat} (hj : j < m + l) : it L x j ∉ rw L x j := fun e => by
  obtain ⟨i, hi, q⟩ := mem_rw.mp e
  rcases h.eqm.mp q with q | ⟨q1, q2, q3⟩
  · omega
  · have hz : (j - i) % l = 0 := Nat.sub_mod_eq_zero_of_mod_eq q3.symm
    rw [Nat.mod_eq_of_lt (by omega)] at hz
    omega
theorem Rh.back : it L x (m + l) ∈ rw L x (m + l) := mem_rw.mpr ⟨m, by have := h.l1; omega, h.eqm.mpr (.inr ⟨Nat.le_refl _, by omega, by rw [Nat.add_mod_right]⟩)⟩
theorem Rh.red (i : Nat) : ∃ i', i' < m + l ∧ i' ≤ i ∧ it L x i' = it L x i := by
  by_cases hi : i < m + l
  · exact ⟨i, hi, Nat.le_refl _, rfl⟩
  · refine ⟨m + (i - m) % l, by have := Nat.mod_lt (i - m) h.l1; omega, by have := Nat.mod_le (i - m) l; omega, h.eqm.mpr (.inr ⟨by omega, by omega, ?_⟩)⟩
    rw [Nat.add_mod, Nat.mod_mod, ← Nat.add_mod, show m + (i - m) = i by omega]
theorem Rh.orb {R v : Nat} (hR : m + l ≤ R) : v ∈ rw L x R ↔ v ∈ rw L x (m + l) := by
  rw [mem_rw, mem_rw]
  constructor
  · rintro ⟨i, _, e⟩
    obtain ⟨i', h1, _, h3⟩ := h.red i
    exact ⟨i', h1, h3.trans e⟩
  · rintro ⟨i, hi, e⟩
    exact ⟨i, by omega, e⟩
theorem notIn {v : Nat} {vs : List Nat} : cmpD .nin (nD v) (.list (vs.map nD)) = some (!decide (v ∈ vs)) := by
  show (inD _ _).map not = _
  rw [in_nats]; rfl
theorem run_meet (h2 : Rh L n y m2 l2) (k : Nat) (hN : 100 ≤ N) :
    (∃ k0, k0 < m + l ∧ it L x k0 ∈ rw L y (m2 + l2) ∧ (∀ j, j < k0 → it L x j ∉ rw L y (m2 + l2)) ∧ callF qs N (k + 1) 6 [(false, dS L), (false, nD x), (false, nD y)] = some (.im (nD (it L x k0)), [])) ∨
    ((∀ j, j < m + l → it L x j ∉ rw L y (m2 + l2)) ∧ callF qs N (k + 1) 6 [(false, dS L), (false, nD x), (false, nD y)] = some (.im .none, [])) := by
  have h9 := h.ml9
  have h29 := h2.ml9
  have hL : lim = 16777216 := rfl
  have e1 := whl_to (cd := evB (callF qs N k) meet_at_2c) (bd := ex (callF qs N k) N meet_at_2b) (fun j => [.im (dS L), .im (nD x), .im (nD (it L y j)), .ow (.list ((rw L y j).map nD)), .un]) (m2 + l2) 0 N (by omega) (fun j _ hj => by
    have hq := notIn h (v := it L y j) (vs := rw L y j)
    rw [decide_eq_false (h2.fresh (by omega))] at hq
    refine ⟨?_, x_seq (st1 := [.im (dS L), .im (nD x), .im (nD (it L y j)), .ow (.list ((rw L y (j + 1)).map nD)), .un]) ?_ (x_asg (e_idx rfl rfl (h2.ixi j)) rfl)⟩
    · show evB _ (.of (.cmp .nin (.var 2) (.var 3))) _ = _
      simp only [ev, evB, evL, evF, evA, evO, sget, List.getD_cons_zero, List.getD_cons_succ, List.set_cons_zero, List.set_cons_succ, Option.bind_some, Option.map_some, dr, drs, Slot.val, fz, notR, tru, boolOf, ownOf, imOf, isLst, argsOf, ios, nodupN, Nv.fresh, outsTo, leave, cond_true, cond_false, Bool.not_true, Bool.not_false, sto, ↓reduceIte, hq]
    · have p2 := push_at ((rw L y j).map nD) (nD (it L y j)) (by rw [List.length_map, rw_len]; omega)
      rw [rw_succ, List.map_append]
      refine x_exp (r := .im .none) ?_
      exact e_app1 (i := 3) (e := .var 2) (d := nD (it L y j)) (st := [.im (dS L), .im (nD x), .im (nD (it L y j)), .ow (.list ((rw L y j).map nD)), .un]) (st1 := [.im (dS L), .im (nD x), .im (nD (it L y j)), .ow (.list ((rw L y j).map nD)), .un]) rfl rfl rfl rfl p2) (by
    rw [Nat.zero_add]
    have hq := notIn h (v := it L y (m2 + l2)) (vs := rw L y (m2 + l2))
    rw [decide_eq_true h2.back] at hq
    show evB _ (.of (.cmp .nin (.var 2) (.var 3))) _ = _
    simp only [ev, evB, evL, evF, evA, evO, sget, List.getD_cons_zero, List.getD_cons_succ, List.set_cons_zero, List.set_cons_succ, Option.bind_some, Option.map_some, dr, drs, Slot.val, fz, notR, tru, boolOf, ownOf, imOf, isLst, argsOf, ios, nodupN, Nv.fresh, outsTo, leave, cond_true, cond_false, Bool.not_true, Bool.not_false, sto, ↓reduceIte, hq])
  rw [Nat.zero_add] at e1
  have hcd : ∀ j, j < m + l → evB (callF qs N k) meet_at_4c [.im (dS L), .im (nD (it L x j)), .im (nD (it L y (m2 + l2))), .ow (.list ((rw L y (m2 + l2)).map nD)), .ow (.list ((rw L x j).map nD))] = some (true, [.im (dS L), .im (nD (it L x j)), .im (nD (it L y (m2 + l2))), .ow (.list ((rw L y (m2 + l2)).map nD)), .ow (.list ((rw L x j).map nD))]) := fun j hj => by
    have hq := notIn h (v := it L x j) (vs := rw L x j)
    rw [decide_eq_false (h.fresh hj)] at hq
    show evB _ (.of (.cmp .nin (.var 1) (.var 4))) _ = _
    simp only [ev, evB, evL, evF, evA, evO, sget, List.getD_cons_zero, List.getD_cons_succ, List.set_cons_zero, List.set_cons_succ, Option.bind_some, Option.map_some, dr, drs, Slot.val, fz, notR, tru, boolOf, ownOf, imOf, isLst, argsOf, ios, nodupN, Nv.fresh, outsTo, leave, cond_true, cond_false, Bool.not_true, Bool.not_false, sto, ↓reduceIte, hq]
  have hin : ∀ j b, decide (it L x j ∈ rw L y (m2 + l2)) = b → evB (callF qs N k) (.of (.cmp .inn (.var 1) (.var 3))) [.im (dS L), .im (nD (it L x j)), .im (nD (it L y (m2 + l2))), .ow (.list ((rw L y (m2 + l2)).map nD)), .ow (.list ((rw L x j).map nD))] = some (b, [.im (dS L), .im (nD (it L x j)), .im (nD (it L y (m2 + l2))), .ow (.list ((rw L y (m2 + l2)).map nD)), .ow (.list ((rw L x j).map nD))]) := fun j b hb => by
    have hq := in_nats (it L x j) (rw L y (m2 + l2))
    rw [hb] at hq
    simp only [ev, evB, evL, evF, evA, evO, sget, List.getD_cons_zero, List.getD_cons_succ, List.set_cons_zero, List.set_cons_succ, Option.bind_some, Option.map_some, dr, drs, Slot.val, fz, notR, tru, boolOf, ownOf, imOf, isLst, argsOf, ios, nodupN, Nv.fresh, outsTo, leave, cond_true, cond_false, Bool.not_true, Bool.not_false, sto, ↓reduceIte, cmpD, hq]
  have hbd : ∀ j, j < m + l → it L x j ∉ rw L y (m2 + l2) → ex (callF qs N k) N meet_at_4b [.im (dS L), .im (nD (it L x j)), .im (nD (it L y (m2 + l2))), .ow (.list ((rw L y (m2 + l2)).map nD)), .ow (.list ((rw L x j).map nD))] = some (.nx [.im (dS L), .im (nD (it L x (j + 1))), .im (nD (it L y (m2 + l2))), .ow (.list ((rw L y (m2 + l2)).map nD)), .ow (.list ((rw L x (j + 1)).map nD))]) := fun j hj hn => by
    refine x_seq (x_pass (hin j false (decide_eq_false hn))) (x_seq (st1 := [.im (dS L), .im (nD (it L x j)), .im (nD (it L y (m2 + l2))), .ow (.list ((rw L y (m2 + l2)).map nD)), .ow (.list ((rw L x (j + 1)).map nD))]) ?_ (x_asg (e_idx rfl rfl (h.ixi j)) rfl))
    have p2 := push_at ((rw L x j).map nD) (nD (it L x j)) (by rw [List.length_map, rw_len]; omega)
    rw [rw_succ, List.map_append]
    refine x_exp (r := .im .none) ?_
    exact e_app1 (i := 4) (e := .var 1) (d := nD (it L x j)) (st := [.im (dS L), .im (nD (it L x j)), .im (nD (it L y (m2 + l2))), .ow (.list ((rw L y (m2 + l2)).map nD)), .ow (.list ((rw L x j).map nD))]) (st1 := [.im (dS L), .im (nD (it L x j)), .im (nD (it L y (m2 + l2))), .ow (.list ((rw L y (m2 + l2)).map nD)), .ow (.list ((rw L x j).map nD))]) rfl rfl rfl rfl p2
  by_cases q : ∃ k0, k0 < m + l ∧ it L x k0 ∈ rw L y (m2 + l2)
  · obtain ⟨k1, hk1, hm1⟩ := q
    obtain ⟨k0, hk0, hm0, hno⟩ := K64.least (P := fun k => it L x k ∈ rw L y (m2 + l2)) k1 hm1
    refine .inl ⟨k0, by omega, hm0, hno, ?_⟩
    have e2 := whl_ret (cd := evB (callF qs N k) meet_at_4c) (bd := ex (callF qs N k) N meet_at_4b) (fun j => [.im (dS L), .im (nD (it L x j)), .im (nD (it L y (m2 + l2))), .ow (.list ((rw L y (m2 + l2)).map nD)), .ow (.list ((rw L x j).map nD))]) (r := .im (nD (it L x k0))) (st := [.im (dS L), .im (nD (it L x k0)), .im (nD (it L y (m2 + l2))), .ow (.list ((rw L y (m2 + l2)).map nD)), .ow (.list ((rw L x k0).map nD))]) k0 0 N (by omega) (fun j _ hj => ⟨hcd j (by omega), hbd j (by omega) (hno j (by omega))⟩) (by rw [Nat.zero_add]; exact hcd k0 (by omega)) (by rw [Nat.zero_add]; exact x_seqR (x_ift (hin k0 true (decide_eq_true hm0)) (x_retI rfl)))
    exact run_rt (df := q_meet_at) rfl rfl (x_seq (st1 := [.im (dS L), .im (nD x), .im (nD (it L y 0)), .ow (.list ((rw L y 0).map nD)), .un]) rfl (x_seq e1 (x_seq (st1 := [.im (dS L), .im (nD (it L x 0)), .im (nD (it L y (m2 + l2))), .ow (.list ((rw L y (m2 + l2)).map nD)), .ow (.list ((rw L x 0).map nD))]) rfl (x_seqR e2)))) rfl
  · have hno : ∀ j, j < m + l → it L x j ∉ rw L y (m2 + l2) := fun j hj e => q ⟨j, hj, e⟩
    refine .inr ⟨hno, ?_⟩
    have e2 := whl_to (cd := evB (callF qs N k) meet_at_4c) (bd := ex (callF qs N k) N meet_at_4b) (fun j => [.im (dS L), .im (nD (it L x j)), .im (nD (it L y (m2 + l2))), .ow (.list ((rw L y (m2 + l2)).map nD)), .ow (.list ((rw L x j).map nD))]) (m + l) 0 N (by omega) (fun j _ hj => ⟨hcd j (by omega), hbd j (by omega) (hno j (by omega))⟩) (by
      rw [Nat.zero_add]
      have hq := notIn h (v := it L x (m + l)) (vs := rw L x (m + l))
      rw [decide_eq_true h.back] at hq
      show evB _ (.of (.cmp .nin (.var 1) (.var 4))) _ = _
      simp only [ev, evB, evL, evF, evA, evO, sget, List.getD_cons_zero, List.getD_cons_succ, List.set_cons_zero, List.set_cons_succ, Option.bind_some, Option.map_some, dr, drs, Slot.val, fz, notR, tru, boolOf, ownOf, imOf, isLst, argsOf, ios, nodupN, Nv.fresh, outsTo, leave, cond_true, cond_false, Bool.not_true, Bool.not_false, sto, ↓reduceIte, hq])
    exact run_rt (df := q_meet_at) rfl rfl (x_seq (st1 := [.im (dS L), .im (nD x), .im (nD (it L y 0)), .ow (.list ((rw L y 0).map nD)), .un]) rfl (x_seq e1 (x_seq (st1 := [.im (dS L), .im (nD (it L x 0)), .im (nD (it L y (m2 + l2))), .ow (.list ((rw L y (m2 + l2)).map nD)), .ow (.list ((rw L x 0).map nD))]) rfl (x_seq e2 (x_retI rfl))))) rfl
/-- the least of the ring, as min says -/
theorem Le.min {K a : Nat} (q : Le L x m l K a) : bltD .min [.list ((((rw L x (4 * n + 9)).drop m).take l).map nD)] = some (.im (nD (it L x K))) := by
  have h9 := h.ml9
  have hml := h.ml
  have hl1 := h.l1
  have hge : ∀ i, m ≤ i → it L x a ≤ it L x i := fun i hi => by
    have hs := (stk_mem (it L x) K a).mp q.mem
    have hf := q.far
    have hga := q.ge
    by_cases e : it L x a = it L x i
    · omega
    · -- the same place of the ring, between a and K
      let i' := a + (i + l * a - a) % l
      have hmod := Nat.mod_lt (i + l * a - a) hl1
      have hla : a ≤ l * a := Nat.le_mul_of_pos_left a hl1
      have hi' : it L x i' = it L x i := h.eqm.mpr (.inr ⟨by show m ≤ a + _; omega, hi, by
        show (a + (i + l * a - a) % l) % l = i % l
        rw [Nat.add_mod, Nat.mod_mod, ← Nat.add_mod, show a + (i + l * a - a) = i + l * a by omega, Nat.add_mul_mod_self_left]⟩)
      by_cases e2 : i' = a
      · rw [e2] at hi'; exact absurd hi' e
      · have := hs.2 i' (by show a < a + _; have : i' = a + (i + l * a - a) % l := rfl; omega) (by show a + _ < K; omega)
        omega
  have hmem : it L x a ∈ ((rw L x (4 * n + 9)).drop m).take l := (mem_cut (by omega)).mpr ⟨a, q.ge, q.lt, rfl⟩
  rw [← q.eq]
  have hall : ∀ v ∈ ((rw L x (4 * n + 9)).drop m).take l, it L x a ≤ v := fun v hv => by
    obtain ⟨i, h1, _, h3⟩ := (mem_cut (by omega)).mp hv
    rw [← h3]; exact hge i h1
  generalize ((rw L x (4 * n + 9)).drop m).take l = Z at hmem hall ⊢
  cases Z with
  | nil => cases hmem
  | cons z zs =>
    rw [min_nat]
    have key : ∀ (zs : List Nat) (z v : Nat), v ∈ z :: zs → (∀ w ∈ z :: zs, v ≤ w) → zs.foldl Min.min z = v := by
      intro zs
      induction zs with
      | nil => intro z v hv _; exact (List.mem_singleton.mp hv).symm
      | cons w ws ih =>
        intro z v hv ha
        rw [List.foldl_cons]
        have h1 := ha z List.mem_cons_self
        have h2 := ha w (List.mem_cons_of_mem _ List.mem_cons_self)
        refine ih (Min.min z w) v ?_ (fun u hu => ?_)
        · rcases List.mem_cons.mp hv with r | r
          · rw [show Min.min z w = v by omega]; exact List.mem_cons_self
          · rcases List.mem_cons.mp r with r | r
            · rw [show Min.min z w = v by omega]; exact List.mem_cons_self
            · exact List.mem_cons_of_mem _ r
        · rcases List.mem_cons.mp hu with r | r
          · rw [r]; omega
          · exact ha u (List.mem_cons_of_mem _ (List.mem_cons_of_mem _ r))
    rw [key zs z _ hmem hall]
end
end K64
end
section
set_option linter.all false
set_option maxRecDepth 100000
-- SN 24
namespace K64
open PySem Nv Q64
section
variable {L : List Nat} {n x y m l m2 l2 : Nat} (h : Rh L n x m l) {C : Orc} {N : Nat} {s0 s1 s2 s3 s4 s5 s6 s7 s8 s9 s10 s11 s12 s13 s14 s15 s16 s17 s18 s19 s20 s21 s22 s23 : Slot}
include h
def RW (L : List Nat) (n x : Nat) : D := .list ((rw L x (4 * n + 9)).map nD)
theorem rix {k : Nat} (hk : k < 4 * n + 9) : idxD (RW L n x) (nD k) = some (nD (it L x k)) := rw_ix hk
theorem nat_mem {k n : Nat} (hk : k ∈ List.range' 0 n) : k < n := by rw [List.mem_range'_1] at hk; omega
theorem head_ix {xs : List Nat} {K : Nat} {r : List Nat} (e : xs = K :: r) : idxD (.list (xs.map nD)) (nD 0) = some (nD K) := by subst e; exact idx_lst (i := 0) rfl
/-- an item of a list that is made -/
theorem e_idxT {a i : E} {st : Sg} {x y d : D} (h1 : ev C a st = some (.tm x, st)) (h2 : ev C i st = some (.im y, st)) (hd : idxD x y = some d) : ev C (.idx a i) st = some (.im d, st) := by
  simp only [ev, h1, h2, dr, Option.bind_some, Option.map_some, hd]
theorem p_begin : ex C N law_2b_4b_2 [s0, s1, s2, .im (nD n), s4, s5, s6, .ow (RW L n x), s8, s9, s10, s11, s12, s13, s14, s15, s16, s17, s18, s19, s20, s21, s22, s23] = some (.nx [s0, s1, s2, .im (nD n), s4, s5, s6, .ow (RW L n x), .im (nD m), s9, s10, s11, s12, s13, s14, s15, s16, s17, s18, s19, s20, s21, s22, s23]) := by
  have hn := h.mp.few
  have hl1 := h.l1
  have hml := h.ml
  have hL : lim = 16777216 := rfl
  have e := e_lcF (C := C) (elt := .var 5) (t := .nm 5) (it := .rng1 (.bin .add (.var 3) (.cst (nD 1)))) (c := .of (.cmp .inn (.idx (.var 7) (.var 5)) (.slc (.var 7) (.so (.bin .add (.var 5) (.cst (nD 1)))) (.so (.bin .add (.bin .add (.var 3) (.var 5)) (.cst (nD 1))))))) (st := [s0, s1, s2, .im (nD n), s4, s5, s6, .ow (RW L n x), s8, s9, s10, s11, s12, s13, s14, s15, s16, s17, s18, s19, s20, s21, s22, s23]) (l := none) (fun w => [s0, s1, s2, .im (nD n), s4, w, s6, .ow (RW L n x), s8, s9, s10, s11, s12, s13, s14, s15, s16, s17, s18, s19, s20, s21, s22, s23]) nD (fun k => decide (it L x k ∈ ((rw L x (4 * n + 9)).drop (k + 1)).take n)) nD (List.range' 0 (n + 1)) s5 (by rw [← upto_map]; exact i_rng (n := n + 1) (e_bin rfl rfl (n_add n 1)) (by omega)) (fun x _ w => rfl) (fun k hk => by
    have hk := nat_mem h hk
    have i1 := rix h (k := k) (by omega)
    have sl := slc_lst ((rw L x (4 * n + 9)).map nD) (k + 1) (n + k + 1) (by rw [List.length_map, rw_len]; omega)
    rw [show n + k + 1 - (k + 1) = n by omega, ← List.map_drop, ← List.map_take] at sl
    have hin := in_nats (it L x k) (((rw L x (4 * n + 9)).drop (k + 1)).take n)
    have sl : slcD (RW L n x) (some (nD (k + 1))) (some (nD (n + k + 1))) = some (.tm (.list ((((rw L x (4 * n + 9)).drop (k + 1)).take n).map nD))) := sl
    simp only [ev, evB, evL, evF, evA, evO, sget, List.getD_cons_zero, List.getD_cons_succ, List.set_cons_zero, List.set_cons_succ, Option.bind_some, Option.map_some, dr, drs, Slot.val, fz, notR, tru, boolOf, ownOf, imOf, isLst, argsOf, ios, nodupN, Nv.fresh, outsTo, leave, cond_true, cond_false, Bool.not_true, Bool.not_false, sto, ↓reduceIte, i1, n_add, sl, cmpD, hin]) (fun x hx _ => rfl) (by rw [List.length_range']; omega) (fun w => rfl)
  obtain ⟨r, hr⟩ := first_rg (p := fun k => decide (it L x k ∈ ((rw L x (4 * n + 9)).drop (k + 1)).take n)) (K := m) (n + 1) 0 (Nat.zero_le _) (by omega) (decide_eq_true ((mem_cut (by omega)).mpr ⟨m + l, by omega, by omega, h.eqm.mpr (.inr ⟨by omega, Nat.le_refl _, by rw [Nat.add_mod_right]⟩)⟩)) (fun k _ hk => decide_eq_false (fun e => by
    obtain ⟨i, h1, h2, h3⟩ := (mem_cut (by omega)).mp e
    rcases h.eqm.mp h3 with q | q <;> omega))
  exact x_asg (e_idxT h e rfl (head_ix h hr)) rfl
theorem p_long : ex C N law_2b_4b_3 [s0, s1, s2, .im (nD n), s4, s5, s6, .ow (RW L n x), .im (nD m), s9, s10, s11, s12, s13, s14, s15, s16, s17, s18, s19, s20, s21, s22, s23] = some (.nx [s0, s1, s2, .im (nD n), s4, s5, s6, .ow (RW L n x), .im (nD m), .im (nD l), s10, s11, s12, s13, s14, s15, s16, s17, s18, s19, s20, s21, s22, s23]) := by
  have hn := h.mp.few
  have hl1 := h.l1
  have hml := h.ml
  have hL : lim = 16777216 := rfl
  have e := e_lcF (C := C) (elt := .var 5) (t := .nm 5) (it := .rng2 (.cst (nD 1)) (.bin .add (.var 3) (.cst (nD 1)))) (c := .of (.cmp .eq (.idx (.var 7) (.bin .add (.var 8) (.var 5))) (.idx (.var 7) (.var 8)))) (st := [s0, s1, s2, .im (nD n), s4, s5, s6, .ow (RW L n x), .im (nD m), s9, s10, s11, s12, s13, s14, s15, s16, s17, s18, s19, s20, s21, s22, s23]) (l := none) (fun w => [s0, s1, s2, .im (nD n), s4, w, s6, .ow (RW L n x), .im (nD m), s9, s10, s11, s12, s13, s14, s15, s16, s17, s18, s19, s20, s21, s22, s23]) nD (fun k => decide (it L x (m + k) = it L x m)) nD (List.range' 1 n) s5 (by
    rw [← upto_map]
    have := w_rng2 (C := C) (a := .cst (nD 1)) (b := .bin .add (.var 3) (.cst (nD 1))) (st := [s0, s1, s2, .im (nD n), s4, s5, s6, .ow (RW L n x), .im (nD m), s9, s10, s11, s12, s13, s14, s15, s16, s17, s18, s19, s20, s21, s22, s23]) (m := 1) (n := n + 1) rfl (e_bin rfl rfl (n_add n 1)) (by omega) (by omega)
    exact this) (fun x _ w => rfl) (fun k hk => by
    rw [List.mem_range'_1] at hk
    exact evB_cmp (e_idxO (x := RW L n x) rfl (e_bin rfl rfl (n_add m k)) (rix h (by omega))) (e_idxO (x := RW L n x) rfl rfl (rix h (by omega))) (n_eq _ _)) (fun x hx _ => rfl) (by rw [List.length_range']; omega) (fun w => rfl)
  obtain ⟨r, hr⟩ := first_rg (p := fun k => decide (it L x (m + k) = it L x m)) (K := l) n 1 hl1 (by omega) (decide_eq_true (h.eqm.mpr (.inr ⟨by omega, Nat.le_refl _, by rw [Nat.add_mod_right]⟩))) (fun k h1 hk => decide_eq_false (fun e => by
    rcases h.eqm.mp e with q | ⟨_, _, q⟩
    · omega
    · have hz : (m + k - m) % l = 0 := Nat.sub_mod_eq_zero_of_mod_eq q
      rw [Nat.mod_eq_of_lt (by omega)] at hz
      omega))
  exact x_asg (e_idxT h e rfl (head_ix h hr)) rfl
theorem p_meet : ex C N law_2b_4b_4 [s0, s1, s2, .im (nD n), s4, s5, s6, .ow (RW L n x), s8, s9, s10, s11, s12, s13, s14, s15, s16, s17, s18, s19, s20, s21, s22, s23] = some (.nx [s0, s1, s2, .im (nD n), s4, s5, s6, .ow (RW L n x), s8, s9, .im (nD (Mt m l)), s11, s12, s13, s14, s15, s16, s17, s18, s19, s20, s21, s22, s23]) := by
  have hn := h.mp.few
  have hl1 := h.l1
  have hml := h.ml
  have hL : lim = 16777216 := rfl
  obtain ⟨f1, f2, f3, f4, _⟩ := h.fact
  generalize Mt m l = M at f1 f2 f3 f4 ⊢
  have e := e_lcF (C := C) (elt := .var 5) (t := .nm 5) (it := .rng2 (.cst (nD 1)) (.bin .add (.bin .mul (.cst (nD 2)) (.var 3)) (.cst (nD 2)))) (c := .of (.cmp .eq (.idx (.var 7) (.var 5)) (.idx (.var 7) (.bin .mul (.cst (nD 2)) (.var 5))))) (st := [s0, s1, s2, .im (nD n), s4, s5, s6, .ow (RW L n x), s8, s9, s10, s11, s12, s13, s14, s15, s16, s17, s18, s19, s20, s21, s22, s23]) (l := none) (fun w => [s0, s1, s2, .im (nD n), s4, w, s6, .ow (RW L n x), s8, s9, s10, s11, s12, s13, s14, s15, s16, s17, s18, s19, s20, s21, s22, s23]) nD (fun k => decide (it L x k = it L x (2 * k))) nD (List.range' 1 (2 * n + 1)) s5 (by
    rw [← upto_map]
    have := w_rng2 (C := C) (a := .cst (nD 1)) (b := .bin .add (.bin .mul (.cst (nD 2)) (.var 3)) (.cst (nD 2))) (st := [s0, s1, s2, .im (nD n), s4, s5, s6, .ow (RW L n x), s8, s9, s10, s11, s12, s13, s14, s15, s16, s17, s18, s19, s20, s21, s22, s23]) (m := 1) (n := 2 * n + 2) rfl (e_bin (e_bin rfl rfl (n_mul' 2 n (by decide))) rfl (n_add _ _)) (by omega) (by omega)
    exact this) (fun x _ w => rfl) (fun k hk => by
    rw [List.mem_range'_1] at hk
    exact evB_cmp (e_idxO (x := RW L n x) rfl rfl (rix h (by omega))) (e_idxO (x := RW L n x) rfl (e_bin rfl rfl (n_mul' 2 k (by decide))) (rix h (by omega))) (n_eq _ _)) (fun x hx _ => rfl) (by rw [List.length_range']; omega) (fun w => rfl)
  obtain ⟨r, hr⟩ := first_rg (p := fun k => decide (it L x k = it L x (2 * k))) (K := M) (2 * n + 1) 1 f1 (by omega) (decide_eq_true ((h.eq _ _).mpr f3)) (fun k h1 hk => decide_eq_false (h.it_ne (f4 k hk h1)))
  exact x_asg (e_idxT h e rfl (head_ix h hr)) rfl
/-- two things are the same, as the law's call says -/
abbrev Same (C : Orc) (d : D) : Prop := C 10 [(false, d), (false, d)] = some (.im (.bool true), [])
theorem p_two (hC : C 0 [(false, dS L), (false, nD x)] = some (.im (.tuple [nD m, nD l, nD (3 * Mt m l + 2 * m + l)]), [])) (hs : Same C (.tuple [nD m, nD l, nD (3 * Mt m l + 2 * m + l)])) : ex C N law_2b_4b_5 [s0, s1, s2, s3, .im (dS L), s5, .im (nD x), s7, .im (nD m), .im (nD l), .im (nD (Mt m l)), s11, s12, s13, s14, s15, s16, s17, s18, s19, s20, s21, s22, s23] = some (.nx [s0, s1, s2, s3, .im (dS L), s5, .im (nD x), s7, .im (nD m), .im (nD l), .im (nD (Mt m l)), s11, s12, s13, s14, s15, s16, s17, s18, s19, s20, s21, s22, s23]) :=
  x_pass (evB_not (b := true) (evB_of (e_c2 (e_c2 rfl rfl hC rfl) (e_tup (f_im rfl (f_im rfl (f_im (e_bin (e_bin (e_bin rfl rfl (n_mul' 3 _ (by decide))) (e_bin rfl rfl (n_mul' 2 _ (by decide))) (n_add _ _)) rfl (n_add _ _)) rfl))) (by show 3 ≤ 16777216; decide)) hs rfl)))
/-- the law's own going with doubling waits -/
theorem loop_wait : ∀ (d a : Nat) (s5 : Slot), a ≤ Am m l →
    ∃ s5' : Slot, forL (bindT (.nm 5)) (ex C N law_2b_4b_7b) (upto 0 d) [s0, s1, s2, s3, s4, s5, s6, .ow (RW L n x), s8, s9, s10, .im (nD (W a)), .im (nD (a + 1)), .im (nD (a + 1)), s14, s15, s16, s17, s18, s19, s20, s21, s22, s23] = some (.nx [s0, s1, s2, s3, s4, s5', s6, .ow (RW L n x), s8, s9, s10, .im (nD (W (min (a + d) (Am m l)))), .im (nD (min (a + d) (Am m l) + 1)), .im (nD (min (a + d) (Am m l) + 1)), s14, s15, s16, s17, s18, s19, s20, s21, s22, s23]) := by
  obtain ⟨_, _, _, _, _, _, _, _, f9, f10, f11, f12, f13, f14⟩ := h.fact
  have hn := h.mp.few
  have hml := h.ml
  generalize Am m l = A at f9 f10 f11 f12 ⊢
  have key : ∀ (d k a : Nat) (s5 : Slot), a ≤ A → ∃ s5' : Slot, forL (bindT (.nm 5)) (ex C N law_2b_4b_7b) (upto k d) [s0, s1, s2, s3, s4, s5, s6, .ow (RW L n x), s8, s9, s10, .im (nD (W a)), .im (nD (a + 1)), .im (nD (a + 1)), s14, s15, s16, s17, s18, s19, s20, s21, s22, s23] = some (.nx [s0, s1, s2, s3, s4, s5', s6, .ow (RW L n x), s8, s9, s10, .im (nD (W (min (a + d) A))), .im (nD (min (a + d) A + 1)), .im (nD (min (a + d) A + 1)), s14, s15, s16, s17, s18, s19, s20, s21, s22, s23]) := by
    intro d
    induction d with
    | zero => intro k a s5 ha; exact ⟨s5, by rw [show min (a + 0) A = a by omega]; rfl⟩
    | succ d ih =>
      intro k a s5 ha
      have hw := W_le a
      have i1 := rix h (k := W a) (by omega)
      have i2 := rix h (k := a + 1) (by omega)
      have hne := h.ne (W a) (a + 1)
      by_cases q : a = A
      · subst q
        obtain ⟨s5', e⟩ := ih (k + 1) a (.im (nD k)) ha
        rw [show min (a + d) a = a by omega] at e
        rw [show min (a + (d + 1)) a = a by omega]
        rw [f9] at hne
        exact ⟨s5', fl_cons (st1 := [s0, s1, s2, s3, s4, .im (nD k), s6, .ow (RW L n x), s8, s9, s10, .im (nD (W a)), .im (nD (a + 1)), .im (nD (a + 1)), s14, s15, s16, s17, s18, s19, s20, s21, s22, s23]) rfl (x_pass (evB_cmp (e_idxO (x := RW L n x) rfl rfl i1) (e_idxO (x := RW L n x) rfl rfl i2) hne)) e⟩
      · obtain ⟨s5', e⟩ := ih (k + 1) (a + 1) (.im (nD k)) (by omega)
        rw [show a + 1 + d = a + (d + 1) by omega] at e
        rw [f10 a (by omega)] at hne
        have hsub := n_sub (a + 1) (W a) (by omega)
        have heq := n_eq (a + 1 - W a) (W a + 1)
        have hcond : ∀ b, decide (a + 1 - W a = W a + 1) = b → evB C (.of (.cmp .eq (.bin .sub (.var 12) (.var 11)) (.bin .add (.var 11) (.cst (nD 1))))) [s0, s1, s2, s3, s4, .im (nD k), s6, .ow (RW L n x), s8, s9, s10, .im (nD (W a)), .im (nD (a + 1)), .im (nD (a + 1)), s14, s15, s16, s17, s18, s19, s20, s21, s22, s23] = some (b, [s0, s1, s2, s3, s4, .im (nD k), s6, .ow (RW L n x), s8, s9, s10, .im (nD (W a)), .im (nD (a + 1)), .im (nD (a + 1)), s14, s15, s16, s17, s18, s19, s20, s21, s22, s23]) := fun b hb => by
          rw [hb] at heq
          exact evB_cmp (e_bin rfl rfl hsub) (e_bin rfl rfl (n_add (W a) 1)) heq
        have hpar : ∀ v : Nat, ex C N law_2b_4b_7bt_2 [s0, s1, s2, s3, s4, .im (nD k), s6, .ow (RW L n x), s8, s9, s10, .im (nD v), .im (nD (a + 1)), .im (nD (a + 1)), s14, s15, s16, s17, s18, s19, s20, s21, s22, s23] = some (.nx [s0, s1, s2, s3, s4, .im (nD k), s6, .ow (RW L n x), s8, s9, s10, .im (nD v), .im (nD (a + 1 + 1)), .im (nD (a + 1 + 1)), s14, s15, s16, s17, s18, s19, s20, s21, s22, s23]) := fun v => x_par (p_im (e_bin rfl rfl (n_add (a + 1) 1)) (p_im (e_bin rfl rfl (n_add (a + 1) 1)) rfl)) rfl
        refine ⟨s5', fl_cons (st1 := [s0, s1, s2, s3, s4, .im (nD k), s6, .ow (RW L n x), s8, s9, s10, .im (nD (W a)), .im (nD (a + 1)), .im (nD (a + 1)), s14, s15, s16, s17, s18, s19, s20, s21, s22, s23]) (st2 := [s0, s1, s2, s3, s4, .im (nD k), s6, .ow (RW L n x), s8, s9, s10, .im (nD (W (a + 1))), .im (nD (a + 1 + 1)), .im (nD (a + 1 + 1)), s14, s15, s16, s17, s18, s19, s20, s21, s22, s23]) rfl (x_ift (evB_cmp (e_idxO (x := RW L n x) rfl rfl i1) (e_idxO (x := RW L n x) rfl rfl i2) hne) ?_) e⟩
        by_cases q2 : a + 1 - W a = W a + 1
        · rw [show W (a + 1) = a + 1 by show (if a + 1 - W a = W a + 1 then a + 1 else W a) = _; rw [if_pos q2]]
          exact x_seq (st1 := [s0, s1, s2, s3, s4, .im (nD k), s6, .ow (RW L n x), s8, s9, s10, .im (nD (a + 1)), .im (nD (a + 1)), .im (nD (a + 1)), s14, s15, s16, s17, s18, s19, s20, s21, s22, s23]) (x_ift (hcond true (decide_eq_true q2)) rfl) (hpar (a + 1))
        · rw [show W (a + 1) = W a by show (if a + 1 - W a = W a + 1 then a + 1 else W a) = _; rw [if_neg q2]]
          exact x_seq (x_pass (hcond false (decide_eq_false q2))) (hpar (W a))
  intro d a s5 ha
  exact key d 0 a s5 ha
theorem p_dbl (hC : C 1 [(false, dS L), (false, nD x)] = some (.im (.tuple [nD m, nD l, nD (Am m l + 1 + l + 2 * m)]), [])) (hs : Same C (.tuple [nD m, nD l, nD (Am m l + 1 + l + 2 * m)])) : ex C N law_2b_4b_8 [s0, s1, s2, s3, .im (dS L), s5, .im (nD x), s7, .im (nD m), .im (nD l), s10, s11, s12, .im (nD (Am m l + 1)), s14, s15, s16, s17, s18, s19, s20, s21, s22, s23] = some (.nx [s0, s1, s2, s3, .im (dS L), s5, .im (nD x), s7, .im (nD m), .im (nD l), s10, s11, s12, .im (nD (Am m l + 1)), s14, s15, s16, s17, s18, s19, s20, s21, s22, s23]) :=
  x_pass (evB_not (b := true) (evB_of (e_c2 (e_c2 rfl rfl hC rfl) (e_tup (f_im rfl (f_im rfl (f_im (e_bin (e_bin rfl rfl (n_add _ _)) (e_bin rfl rfl (n_mul' 2 _ (by decide))) (n_add _ _)) rfl))) (by show 3 ≤ 16777216; decide)) hs rfl)))
end
end K64
end
section
set_option linter.all false
set_option maxRecDepth 100000
-- SN 24
namespace K64
open PySem Nv Q64
section
variable {L : List Nat} {n x y m l m2 l2 : Nat} (h : Rh L n x m l) {C : Orc} {N : Nat} {s0 s1 s2 s3 s4 s5 s6 s7 s8 s9 s10 s11 s12 s13 s14 s15 s16 s17 s18 s19 s20 s21 s22 s23 : Slot}
include h
def tup (L : List Nat) (x l K : Nat) : D := .tuple [nD (it L x K), nD l, nD (mst (it L x) K)]
def skD (L : List Nat) (x : Nat) (s : List Nat) : D := .list (s.map (pD (it L x)))
/-- one turn of the law's stack, up to what is found -/
theorem step_stack {s : List Nat} {j mo : Nat} {fd : Option D} (hj : j < 4 * n + 9) (hl : s.length ≤ 100) (b : Bool) (s' : List Nat) (hs' : s.filter (fun i => decide (it L x i ≤ it L x j)) = s')
    (hb : (b = false ∧ (s' = [] ∨ ∃ t a, s' = t ++ [a] ∧ it L x a ≠ it L x j)) ∨ (b = true ∧ ∃ t a, s' = t ++ [a] ∧ it L x a = it L x j ∧ a + l = j)) :
    ex C N law_2b_4b_10b [s0, s1, s2, s3, s4, .im (nD j), s6, .ow (RW L n x), s8, s9, s10, s11, s12, s13, .ow (skD L x s), .im (nD mo), .im .none, s17, s18, s19, s20, s21, s22, s23] = some (.nx [s0, s1, s2, s3, s4, .im (nD j), s6, .ow (RW L n x), s8, s9, s10, s11, s12, s13, .ow (skD L x (s' ++ [j])), .im (nD (max mo (s' ++ [j]).length)), .im (if b then .tuple [nD (it L x j), nD l, nD mo] else .none), s17, s18, s19, s20, s21, s22, s23]) := by
  have hL : lim = 16777216 := rfl
  have i1 := rix h (k := j) hj
  have hl0 : ([] : List D).length ≤ lim := by decide
  have hsl : s'.length ≤ 100 := by rw [← hs']; exact Nat.le_trans (List.length_filter_le _ _) hl
  have e := e_lcF (C := C) (elt := .var 17) (t := .nm 17) (it := .of (.var 14)) (c := .of (.cmp .le (.idx (.var 17) (.cst (nD 0))) (.idx (.var 7) (.var 5)))) (st := [s0, s1, s2, s3, s4, .im (nD j), s6, .ow (RW L n x), s8, s9, s10, s11, s12, s13, .ow (skD L x s), .im (nD mo), .im .none, s17, s18, s19, s20, s21, s22, s23]) (l := some 14) (fun w => [s0, s1, s2, s3, s4, .im (nD j), s6, .ow (RW L n x), s8, s9, s10, s11, s12, s13, .lk (skD L x s), .im (nD mo), .im .none, w, s18, s19, s20, s21, s22, s23]) (pD (it L x)) (fun i => decide (it L x i ≤ it L x j)) (pD (it L x)) s s17 (i_own rfl) (fun x _ w => rfl) (fun i _ => evB_cmp (e_idx rfl rfl (pD0 _ i)) (e_idxO (x := RW L n x) rfl rfl i1) (n_le _ _)) (fun x hx _ => rfl) (by omega) (fun w => rfl)
  rw [hs'] at e
  refine x_ift (st1 := [s0, s1, s2, s3, s4, .im (nD j), s6, .ow (RW L n x), s8, s9, s10, s11, s12, s13, .ow (skD L x s), .im (nD mo), .im .none, s17, s18, s19, s20, s21, s22, s23]) rfl (x_seq (st1 := [s0, s1, s2, s3, s4, .im (nD j), s6, .ow (RW L n x), s8, s9, s10, s11, s12, s13, .ow (skD L x s'), .im (nD mo), .im .none, s17, s18, s19, s20, s21, s22, s23]) (x_asg e rfl) (x_seq (st1 := [s0, s1, s2, s3, s4, .im (nD j), s6, .ow (RW L n x), s8, s9, s10, s11, s12, s13, .ow (skD L x s'), .im (nD mo), .im (if b then .tuple [nD (it L x j), nD l, nD mo] else .none), s17, s18, s19, s20, s21, s22, s23]) ?_ (x_seq (st1 := [s0, s1, s2, s3, s4, .im (nD j), s6, .ow (RW L n x), s8, s9, s10, s11, s12, s13, .ow (skD L x (s' ++ [j])), .im (nD mo), .im (if b then .tuple [nD (it L x j), nD l, nD mo] else .none), s17, s18, s19, s20, s21, s22, s23]) ?_ ?_)))
  · have hne : cmpD .ne (skD L x s') (.list []) = some (!s'.isEmpty) := by
      show some (!(s'.map (pD (it L x))).isEmpty) = _
      cases s' <;> rfl
    have h1 : evB C (.of (.cmp .ne (.var 14) (.lst .nl))) [s0, s1, s2, s3, s4, .im (nD j), s6, .ow (RW L n x), s8, s9, s10, s11, s12, s13, .ow (skD L x s'), .im (nD mo), .im .none, s17, s18, s19, s20, s21, s22, s23] = some (!s'.isEmpty, [s0, s1, s2, s3, s4, .im (nD j), s6, .ow (RW L n x), s8, s9, s10, s11, s12, s13, .ow (skD L x s'), .im (nD mo), .im .none, s17, s18, s19, s20, s21, s22, s23]) := by
      simp only [ev, evB, evL, evF, evA, evO, sget, List.getD_cons_zero, List.getD_cons_succ, List.set_cons_zero, List.set_cons_succ, Option.bind_some, Option.map_some, dr, drs, Slot.val, fz, notR, tru, boolOf, ownOf, imOf, isLst, argsOf, ios, nodupN, Nv.fresh, outsTo, leave, cond_true, cond_false, Bool.not_true, Bool.not_false, sto, ↓reduceIte, hl0, hne]
    rcases hb with ⟨hb, q | ⟨t, a, q1, q2⟩⟩ | ⟨hb, t, a, q1, q2, q3⟩
    · subst hb
      rw [q] at h1 ⊢
      exact x_pass (evB_andF h1)
    · subst hb
      have hne2 : (!s'.isEmpty) = true := by rw [q1]; simp
      rw [hne2] at h1
      have hla : idxD (skD L x s') (.int (-1)) = some (pD (it L x) a) := by rw [q1]; exact last_pD _ t a
      have heq := n_eq (it L x a) (it L x j)
      rw [decide_eq_false q2] at heq
      exact x_pass (evB_andT h1 (evB_cmp (e_idx (e_idxO (x := skD L x s') rfl neg1 hla) rfl (pD0 _ a)) (e_idxO (x := RW L n x) rfl rfl i1) heq))
    · subst hb
      have hne2 : (!s'.isEmpty) = true := by rw [q1]; simp
      rw [hne2] at h1
      have hla : idxD (skD L x s') (.int (-1)) = some (pD (it L x) a) := by rw [q1]; exact last_pD _ t a
      have heq := n_eq (it L x a) (it L x j)
      rw [decide_eq_true q2] at heq
      have hsub := n_sub j a (by omega)
      rw [show j - a = l by omega] at hsub
      exact x_ift (evB_andT h1 (evB_cmp (e_idx (e_idxO (x := skD L x s') rfl neg1 hla) rfl (pD0 _ a)) (e_idxO (x := RW L n x) rfl rfl i1) heq)) (x_asg (e_tup (f_im (e_idxO (x := RW L n x) rfl rfl i1) (f_im (e_bin rfl (e_idx (e_idxO (x := skD L x s') rfl neg1 hla) rfl (pD1 _ a)) hsub) (f_im rfl rfl))) (by show 3 ≤ 16777216; decide)) rfl)
  · have p2 := push_at (s'.map (pD (it L x))) (pD (it L x) j) (by rw [List.length_map]; omega)
    have hk : skD L x (s' ++ [j]) = .list (s'.map (pD (it L x)) ++ [pD (it L x) j]) := by unfold skD; rw [List.map_append]; rfl
    rw [hk]
    refine x_exp (r := .im .none) ?_
    exact e_app1 (i := 14) (e := .tup (.cs (.idx (.var 7) (.var 5)) (.cs (.var 5) .nl))) (d := pD (it L x) j) (x := skD L x s') (st := [s0, s1, s2, s3, s4, .im (nD j), s6, .ow (RW L n x), s8, s9, s10, s11, s12, s13, .ow (skD L x s'), .im (nD mo), .im (if b then .tuple [nD (it L x j), nD l, nD mo] else .none), s17, s18, s19, s20, s21, s22, s23]) (st1 := [s0, s1, s2, s3, s4, .im (nD j), s6, .ow (RW L n x), s8, s9, s10, s11, s12, s13, .ow (skD L x s'), .im (nD mo), .im (if b then .tuple [nD (it L x j), nD l, nD mo] else .none), s17, s18, s19, s20, s21, s22, s23]) rfl (e_tup (f_im (e_idxO (x := RW L n x) rfl rfl i1) (f_im rfl rfl)) (by show 2 ≤ 16777216; decide)) rfl rfl p2
  · have hm := max2_nat mo (s' ++ [j]).length
    have hlen : bltD .len [skD L x (s' ++ [j])] = some (.im (nD (s' ++ [j]).length)) := by
      unfold skD
      rw [len_lst, List.length_map]
    refine x_asg (r := .im (nD (max mo (s' ++ [j]).length))) (st1 := [s0, s1, s2, s3, s4, .im (nD j), s6, .ow (RW L n x), s8, s9, s10, s11, s12, s13, .ow (skD L x (s' ++ [j])), .im (nD mo), .im (if b then .tuple [nD (it L x j), nD l, nD mo] else .none), s17, s18, s19, s20, s21, s22, s23]) ?_ rfl
    simp only [ev, evB, evL, evF, evA, evO, sget, List.getD_cons_zero, List.getD_cons_succ, List.set_cons_zero, List.set_cons_succ, Option.bind_some, Option.map_some, dr, drs, Slot.val, fz, notR, tru, boolOf, ownOf, imOf, isLst, argsOf, ios, nodupN, Nv.fresh, outsTo, leave, cond_true, cond_false, Bool.not_true, Bool.not_false, sto, ↓reduceIte, hlen, hm]
theorem p_stack {K a : Nat} (q : Le L x m l K a) : ∃ s5' s14' s15' : Slot, ex C N law_2b_4b_10 [s0, s1, s2, s3, s4, s5, s6, .ow (RW L n x), s8, s9, s10, s11, s12, s13, .ow (.list []), .im (nD 0), .im .none, s17, s18, s19, s20, s21, s22, s23] = some (.nx [s0, s1, s2, s3, s4, s5', s6, .ow (RW L n x), s8, s9, s10, s11, s12, s13, s14', s15', .im (tup L x l K), s17, s18, s19, s20, s21, s22, s23]) := by
  have h9 := h.ml9
  have hml := h.ml
  have hKl := q.far
  have hal := q.lt
  have hn := h.mp.few
  have hL : lim = 16777216 := rfl
  obtain ⟨t, ht⟩ := stk_end h q
  have key := for_to (bnd := bindT (.nm 5)) (bd := ex C N law_2b_4b_10b) (fun j w => [s0, s1, s2, s3, s4, w, s6, .ow (RW L n x), s8, s9, s10, s11, s12, s13, (if j ≤ K then .ow (skD L x (stk (it L x) j)) else .ow (skD L x (t ++ [a] ++ [K]))), (if j ≤ K then .im (nD (mst (it L x) j)) else .im (nD (max (mst (it L x) K) (t ++ [a] ++ [K]).length))), (if j ≤ K then .im .none else .im (tup L x l K)), s17, s18, s19, s20, s21, s22, s23]) (4 * n + 9) 0 s5 (fun j w _ hj => by
    refine ⟨rfl, ?_⟩
    by_cases c1 : j < K
    · have st := step_stack h (C := C) (N := N) (s0 := s0) (s1 := s1) (s2 := s2) (s3 := s3) (s4 := s4) (s6 := s6) (s8 := s8) (s9 := s9) (s10 := s10) (s11 := s11) (s12 := s12) (s13 := s13) (s17 := s17) (s18 := s18) (s19 := s19) (s20 := s20) (s21 := s21) (s22 := s22) (s23 := s23) (s := stk (it L x) j) (j := j) (mo := mst (it L x) j) (fd := none) (by omega) (by have := stk_len (it L x) j; omega) false _ (stk_le h q c1) (.inl ⟨rfl, by
        rcases List.eq_nil_or_concat ((stk (it L x) j).filter fun i => decide (it L x i < it L x j)) with e | ⟨s, b, e⟩
        · exact .inl e
        · rw [List.concat_eq_append] at e
          have hb : b ∈ (stk (it L x) j).filter fun i => decide (it L x i < it L x j) := by rw [e]; exact List.mem_append_right _ List.mem_cons_self
          have hb2 := of_decide_eq_true (List.mem_filter.mp hb).2
          exact .inr ⟨s, b, e, by omega⟩⟩)
      simp only [if_pos (show j ≤ K by omega), if_pos (show j + 1 ≤ K by omega)]
      exact st
    · by_cases c2 : j = K
      · subst c2
        have st := step_stack h (C := C) (N := N) (s0 := s0) (s1 := s1) (s2 := s2) (s3 := s3) (s4 := s4) (s6 := s6) (s8 := s8) (s9 := s9) (s10 := s10) (s11 := s11) (s12 := s12) (s13 := s13) (s17 := s17) (s18 := s18) (s19 := s19) (s20 := s20) (s21 := s21) (s22 := s22) (s23 := s23) (s := stk (it L x) j) (j := j) (mo := mst (it L x) j) (fd := none) (by omega) (by have := stk_len (it L x) j; omega) true _ ht (.inr ⟨rfl, t, a, rfl, q.eq, by omega⟩)
        simp only [if_pos (Nat.le_refl j), if_neg (show ¬ j + 1 ≤ j by omega)]
        exact st
      · simp only [if_neg (show ¬ j ≤ K by omega), if_neg (show ¬ j + 1 ≤ K by omega)]
        exact x_pass rfl)
  obtain ⟨w', e⟩ := key
  simp only [Nat.zero_le, if_true, Nat.zero_add, if_neg (show ¬ 4 * n + 9 ≤ K by omega)] at e
  have hlen : bltD .len [RW L n x] = some (.im (nD (4 * n + 9))) := by
    show bltD .len [.list ((rw L x (4 * n + 9)).map nD)] = _
    rw [len_lst, List.length_map, rw_len]
  refine ⟨w', _, _, x_forE (l := none) (i_rng (n := 4 * n + 9) ?_ (by omega)) e rfl⟩
  simp only [ev, evB, evL, evF, evA, evO, sget, List.getD_cons_zero, List.getD_cons_succ, List.set_cons_zero, List.set_cons_succ, Option.bind_some, Option.map_some, dr, drs, Slot.val, fz, notR, tru, boolOf, ownOf, imOf, isLst, argsOf, ios, nodupN, Nv.fresh, outsTo, leave, cond_true, cond_false, Bool.not_true, Bool.not_false, sto, ↓reduceIte, hlen]
  rfl
theorem p_found {K a : Nat} (q : Le L x m l K a) (hC : C 2 [(false, dS L), (false, nD x)] = some (.im (tup L x l K), [])) (hs : Same C (tup L x l K)) : ex C N law_2b_4b_11 [s0, s1, s2, s3, .im (dS L), s5, .im (nD x), .ow (RW L n x), .im (nD m), .im (nD l), s10, s11, s12, s13, s14, s15, .im (tup L x l K), s17, s18, s19, s20, s21, s22, s23] = some (.nx [s0, s1, s2, s3, .im (dS L), s5, .im (nD x), .ow (RW L n x), .im (nD m), .im (nD l), s10, s11, s12, s13, s14, s15, .im (tup L x l K), s17, s18, s19, s20, s21, s22, s23]) := by
  have hml := h.ml
  have hmin := Le.min h q
  have sl := slc_lst ((rw L x (4 * n + 9)).map nD) m (m + l) (by rw [List.length_map, rw_len]; omega)
  rw [show m + l - m = l by omega, ← List.map_drop, ← List.map_take] at sl
  have sl : slcD (RW L n x) (some (nD m)) (some (nD (m + l))) = some (.tm (.list ((((rw L x (4 * n + 9)).drop m).take l).map nD))) := sl
  have t0 : idxD (tup L x l K) (nD 0) = some (nD (it L x K)) := idx_tup (i := 0) rfl
  have t1 : idxD (tup L x l K) (nD 1) = some (nD l) := idx_tup (i := 1) rfl
  refine x_pass (evB_orF (st1 := [s0, s1, s2, s3, .im (dS L), s5, .im (nD x), .ow (RW L n x), .im (nD m), .im (nD l), s10, s11, s12, s13, s14, s15, .im (tup L x l K), s17, s18, s19, s20, s21, s22, s23]) rfl (evB_orF (evB_not (b := true) (evB_of (e_c2 (e_c2 rfl rfl hC rfl) rfl hs rfl))) (evB_orF (evB_cmp (e_idx rfl rfl t0) (y := nD (it L x K)) ?_ (nn _)) (evB_cmp (e_idx rfl rfl t1) rfl (nn _)))))
  simp only [ev, evB, evL, evF, evA, evO, sget, List.getD_cons_zero, List.getD_cons_succ, List.set_cons_zero, List.set_cons_succ, Option.bind_some, Option.map_some, dr, drs, Slot.val, fz, notR, tru, boolOf, ownOf, imOf, isLst, argsOf, ios, nodupN, Nv.fresh, outsTo, leave, cond_true, cond_false, Bool.not_true, Bool.not_false, sto, ↓reduceIte, n_add, sl, hmin]
theorem p_mark {g : Nat} (hg : 1 ≤ g) (hg5 : g ≤ 5) : ex C N law_2b_4b_13 [s0, s1, s2, s3, s4, s5, s6, s7, .im (nD m), s9, s10, s11, s12, s13, s14, s15, s16, s17, .im (nD g), s19, s20, s21, s22, s23] = some (.nx [s0, s1, s2, s3, s4, s5, s6, s7, .im (nD m), s9, s10, s11, s12, s13, s14, s15, s16, s17, .im (nD g), .im (nD (Mk m g)), s20, s21, s22, s23]) := by
  have h9 := h.ml9
  have hl1 := h.l1
  have hL : lim = 16777216 := rfl
  obtain ⟨f1, f2, f3, _⟩ := mfacts0 h.l1 h.ml9 hg hg5
  have hrng : ∃ c, 12 ≤ c ∧ c ≤ 60 ∧ rngW [nD 0, nD 60, nD g] = some ((List.range' 0 c).map fun k => nD (k * g)) := by
    have hmap : ∀ c : Nat, rngD3 0 c (g : Int) = (List.range' 0 c).map fun k => nD (k * g) := by
      intro c
      unfold rngD3
      rw [List.range_eq_range']
      refine List.map_congr_left fun k _ => ?_
      show PyData.int (0 + (k : Int) * (g : Int)) = PyData.int ((k * g : Nat) : Int)
      rw [Int.zero_add, Int.natCast_mul]
    have hcs : (g : Int) ≠ 0 ∧ (g : Int).natAbs < 1073741824 ∧ Builtin.Range.small 0 60 (g : Int) = true ∧ ∃ c, 12 ≤ c ∧ c ≤ 60 ∧ (Builtin.Range.rangeSize 0 60 (g : Int)).toNat = c := by
      have : g = 1 ∨ g = 2 ∨ g = 3 ∨ g = 4 ∨ g = 5 := by omega
      rcases this with e | e | e | e | e <;> subst e
      · exact ⟨by decide, by decide, by decide +kernel, 60, by decide, by decide, by decide +kernel⟩
      · exact ⟨by decide, by decide, by decide +kernel, 30, by decide, by decide, by decide +kernel⟩
      · exact ⟨by decide, by decide, by decide +kernel, 20, by decide, by decide, by decide +kernel⟩
      · exact ⟨by decide, by decide, by decide +kernel, 15, by decide, by decide, by decide +kernel⟩
      · exact ⟨by decide, by decide, by decide +kernel, 12, by decide, by decide, by decide +kernel⟩
    obtain ⟨c0, c1, c2, c, c3, c4, c5⟩ := hcs
    refine ⟨c, c3, c4, ?_⟩
    have : rngW [.int 0, .int 60, .int (g : Int)] = (if (g : Int) ≠ 0 ∧ (g : Int).natAbs < 1073741824 ∧ Builtin.Range.small 0 60 (g : Int) = true then some (rngD3 0 (Builtin.Range.rangeSize 0 60 (g : Int)).toNat (g : Int)) else none) := rngW.eq_3 0 60 (g : Int)
    show rngW [.int 0, .int 60, .int (g : Int)] = _
    rw [this, if_pos ⟨c0, c1, c2⟩, c5, hmap]
  obtain ⟨c, c1, c60, hr⟩ := hrng
  have hi : evI C (.rng3 (.cst (nD 0)) (.cst (nD 60)) (.var 18)) [s0, s1, s2, s3, s4, s5, s6, s7, .im (nD m), s9, s10, s11, s12, s13, s14, s15, s16, s17, .im (nD g), s19, s20, s21, s22, s23] = some ((List.range' 0 c).map fun k => nD (k * g), none, [s0, s1, s2, s3, s4, s5, s6, s7, .im (nD m), s9, s10, s11, s12, s13, s14, s15, s16, s17, .im (nD g), s19, s20, s21, s22, s23]) := by
    show (rngW [nD 0, nD 60, nD g]).map (fun xs => (xs, (none : Option Nat), [s0, s1, s2, s3, s4, s5, s6, s7, .im (nD m), s9, s10, s11, s12, s13, s14, s15, s16, s17, .im (nD g), s19, s20, s21, s22, s23])) = _
    rw [hr]; rfl
  have e := e_lcF (C := C) (elt := .var 5) (t := .nm 5) (it := .rng3 (.cst (nD 0)) (.cst (nD 60)) (.var 18)) (c := .of (.cmp .ge (.var 5) (.var 8))) (st := [s0, s1, s2, s3, s4, s5, s6, s7, .im (nD m), s9, s10, s11, s12, s13, s14, s15, s16, s17, .im (nD g), s19, s20, s21, s22, s23]) (l := none) (fun w => [s0, s1, s2, s3, s4, w, s6, s7, .im (nD m), s9, s10, s11, s12, s13, s14, s15, s16, s17, .im (nD g), s19, s20, s21, s22, s23]) (fun k => nD (k * g)) (fun k => decide (m ≤ k * g)) (fun k => nD (k * g)) (List.range' 0 c) s5 hi (fun x _ w => rfl) (fun k _ => evB_cmp rfl rfl (n_ge _ _)) (fun x hx _ => rfl) (by rw [List.length_range']; omega) (fun w => rfl)
  have hQ : Mk m g = (m + g - 1) / g * g := rfl
  have hQc : (m + g - 1) / g < c := by
    have h1 : (m + g - 1) / g ≤ m + g - 1 := Nat.div_le_self _ _
    by_cases e : g = 1
    · subst e; rw [Nat.div_one]; omega
    · have h2 : (m + g - 1) / g ≤ (m + g - 1) / 2 := Nat.div_le_div_left (by omega) (by omega)
      omega
  obtain ⟨r, hr⟩ := first_rg (p := fun k => decide (m ≤ k * g)) (K := (m + g - 1) / g) c 0 (Nat.zero_le _) (by omega) (decide_eq_true (by rw [← hQ]; exact f1)) (fun k _ hk => decide_eq_false (fun e => by
    have h1 : (k + 1) * g ≤ (m + g - 1) / g * g := Nat.mul_le_mul_right _ hk
    rw [Nat.add_mul, Nat.one_mul] at h1
    omega))
  refine x_asg (e_idxT h e rfl ?_) rfl
  rw [hr]
  exact idx_lst (i := 0) rfl
theorem p_marks {g : Nat} (hg : 1 ≤ g) (hg5 : g ≤ 5) (hC : C 3 [(false, dS L), (false, nD x), (false, nD g)] = some (.im (.tuple [nD l, nD ((Mk m g + l - 1) / g + 1)]), [])) (hs : Same C (.tuple [nD l, nD ((Mk m g + l - 1) / g + 1)])) : ex C N law_2b_4b_14 [s0, s1, s2, s3, .im (dS L), s5, .im (nD x), s7, s8, .im (nD l), s10, s11, s12, s13, s14, s15, s16, s17, .im (nD g), .im (nD (Mk m g)), s20, s21, s22, s23] = some (.nx [s0, s1, s2, s3, .im (dS L), s5, .im (nD x), s7, s8, .im (nD l), s10, s11, s12, s13, s14, s15, s16, s17, .im (nD g), .im (nD (Mk m g)), s20, s21, s22, s23]) := by
  have hl1 := h.l1
  exact x_pass (evB_not (b := true) (evB_of (e_c2 (e_c3 rfl rfl rfl hC rfl) (e_tup (f_im rfl (f_im (e_bin (e_bin (e_bin (e_bin rfl rfl (n_add _ _)) rfl (n_sub (Mk m g + l) 1 (by omega))) rfl (n_fdiv _ g (by omega) (by omega))) rfl (n_add _ 1)) rfl)) (by show 2 ≤ 16777216; decide)) hs rfl)))
theorem p_ring (hC : C 4 [(false, dS L), (false, nD x)] = some (.im (nD (it L x m)), [])) (hs : Same C (nD (it L x m))) (hC2 : C 5 [(false, dS L), (false, nD x)] = some (.im (.bool (decide (m = 0))), [])) (hs2 : Same C (.bool (decide (m = 0)))) : ex C N law_2b_4b_15 [s0, s1, s2, s3, .im (dS L), s5, .im (nD x), .ow (RW L n x), .im (nD m), s9, s10, s11, s12, s13, s14, s15, s16, s17, s18, s19, s20, s21, s22, s23] = some (.nx [s0, s1, s2, s3, .im (dS L), s5, .im (nD x), .ow (RW L n x), .im (nD m), s9, s10, s11, s12, s13, s14, s15, s16, s17, s18, s19, s20, s21, s22, s23]) := by
  have hml := h.ml
  have he := n_eq m 0
  refine x_pass (evB_orF (evB_not (b := true) (evB_of (e_c2 (e_c2 rfl rfl hC rfl) (e_idxO (x := RW L n x) rfl rfl (rix h (by omega))) hs rfl))) (evB_not (b := true) (evB_of (e_c2 (e_c2 rfl rfl hC2 rfl) ?_ hs2 rfl))))
  simp only [ev, evB, evL, evF, evA, evO, sget, List.getD_cons_zero, List.getD_cons_succ, List.set_cons_zero, List.set_cons_succ, Option.bind_some, Option.map_some, dr, drs, Slot.val, fz, notR, tru, boolOf, ownOf, imOf, isLst, argsOf, ios, nodupN, Nv.fresh, outsTo, leave, cond_true, cond_false, Bool.not_true, Bool.not_false, sto, ↓reduceIte, he]
def able (L : List Nat) (n x y : Nat) : List Nat := (rw L x (4 * n + 9)).filter fun v => decide (v ∈ rw L y (4 * n + 9))
theorem p_able : ex C N law_2b_4b_18 [s0, s1, s2, s3, s4, s5, s6, .ow (RW L n x), s8, s9, s10, s11, s12, s13, s14, s15, s16, s17, s18, s19, s20, .ow (RW L n y), s22, s23] = some (.nx [s0, s1, s2, s3, s4, s5, s6, .ow (RW L n x), s8, s9, s10, s11, s12, s13, s14, s15, s16, s17, s18, s19, s20, .ow (RW L n y), .ow (.list ((able L n x y).map nD)), s23]) := by
  have hn := h.mp.few
  have hL : lim = 16777216 := rfl
  have e := e_lcF (C := C) (elt := .var 23) (t := .nm 23) (it := .of (.var 7)) (c := .of (.cmp .inn (.var 23) (.var 21))) (st := [s0, s1, s2, s3, s4, s5, s6, .ow (RW L n x), s8, s9, s10, s11, s12, s13, s14, s15, s16, s17, s18, s19, s20, .ow (RW L n y), s22, s23]) (l := some 7) (fun w => [s0, s1, s2, s3, s4, s5, s6, .lk (RW L n x), s8, s9, s10, s11, s12, s13, s14, s15, s16, s17, s18, s19, s20, .ow (RW L n y), s22, w]) nD (fun v => decide (v ∈ rw L y (4 * n + 9))) nD (rw L x (4 * n + 9)) s23 (i_own rfl) (fun x _ w => rfl) (fun v _ => by
    have hin := in_nats v (rw L y (4 * n + 9))
    have hin : inD (nD v) (RW L n y) = some (decide (v ∈ rw L y (4 * n + 9))) := hin
    simp only [ev, evB, evL, evF, evA, evO, sget, List.getD_cons_zero, List.getD_cons_succ, List.set_cons_zero, List.set_cons_succ, Option.bind_some, Option.map_some, dr, drs, Slot.val, fz, notR, tru, boolOf, ownOf, imOf, isLst, argsOf, ios, nodupN, Nv.fresh, outsTo, leave, cond_true, cond_false, Bool.not_true, Bool.not_false, sto, ↓reduceIte, cmpD, hin]) (fun x hx _ => rfl) (by rw [rw_len]; omega) (fun w => rfl)
  exact x_asg e rfl
theorem p_meetings (h2 : Rh L n y m2 l2) (hC : (∃ k0, k0 < m + l ∧ it L x k0 ∈ rw L y (m2 + l2) ∧ (∀ j, j < k0 → it L x j ∉ rw L y (m2 + l2)) ∧ C 6 [(false, dS L), (false, nD x), (false, nD y)] = some (.im (nD (it L x k0)), [])) ∨
    ((∀ j, j < m + l → it L x j ∉ rw L y (m2 + l2)) ∧ C 6 [(false, dS L), (false, nD x), (false, nD y)] = some (.im .none, []))) (hs : ∀ k, Same C (nD k)) (hs2 : Same C .none) : ex C N law_2b_4b_19 [s0, s1, s2, s3, .im (dS L), s5, .im (nD x), s7, s8, s9, s10, s11, s12, s13, s14, s15, s16, s17, s18, s19, .im (nD y), s21, .ow (.list ((able L n x y).map nD)), s23] = some (.nx [s0, s1, s2, s3, .im (dS L), s5, .im (nD x), s7, s8, s9, s10, s11, s12, s13, s14, s15, s16, s17, s18, s19, .im (nD y), s21, .ow (.list ((able L n x y).map nD)), s23]) := by
  have hml := h.ml
  have hml2 := h2.ml
  have hl0 : ([] : List D).length ≤ lim := by decide
  have horb : ∀ v, v ∈ rw L y (4 * n + 9) ↔ v ∈ rw L y (m2 + l2) := fun v => h2.orb (by omega)
  have hne : cmpD .ne (.list ((able L n x y).map nD)) (.list []) = some (!(able L n x y).isEmpty) := by
    show some (!((able L n x y).map nD).isEmpty) = _
    cases able L n x y <;> rfl
  have hb : evB C (.of (.cmp .ne (.var 22) (.lst .nl))) [s0, s1, s2, s3, .im (dS L), s5, .im (nD x), s7, s8, s9, s10, s11, s12, s13, s14, s15, s16, s17, s18, s19, .im (nD y), s21, .ow (.list ((able L n x y).map nD)), s23] = some (!(able L n x y).isEmpty, [s0, s1, s2, s3, .im (dS L), s5, .im (nD x), s7, s8, s9, s10, s11, s12, s13, s14, s15, s16, s17, s18, s19, .im (nD y), s21, .ow (.list ((able L n x y).map nD)), s23]) := by
    simp only [ev, evB, evL, evF, evA, evO, sget, List.getD_cons_zero, List.getD_cons_succ, List.set_cons_zero, List.set_cons_succ, Option.bind_some, Option.map_some, dr, drs, Slot.val, fz, notR, tru, boolOf, ownOf, imOf, isLst, argsOf, ios, nodupN, Nv.fresh, outsTo, leave, cond_true, cond_false, Bool.not_true, Bool.not_false, sto, ↓reduceIte, hl0, hne]
  rcases hC with ⟨k0, c1, c2, c3, c4⟩ | ⟨c1, c2⟩
  · obtain ⟨r, hr⟩ : ∃ r, able L n x y = it L x k0 :: r := by
      obtain ⟨r, hr⟩ := first_rg (p := fun k => decide (it L x k ∈ rw L y (4 * n + 9))) (K := k0) (4 * n + 9) 0 (Nat.zero_le _) (by omega) (decide_eq_true ((horb _).mpr c2)) (fun k _ hk => decide_eq_false (fun e => c3 k hk ((horb _).mp e)))
      refine ⟨r.map (it L x), ?_⟩
      show ((List.range (4 * n + 9)).map (it L x)).filter (fun v => decide (v ∈ rw L y (4 * n + 9))) = _
      rw [List.filter_map, List.range_eq_range']
      have : (List.range' 0 (4 * n + 9)).filter ((fun v => decide (v ∈ rw L y (4 * n + 9))) ∘ it L x) = k0 :: r := hr
      rw [this]; rfl
    have hi : ev C (.ife (.of (.cmp .ne (.var 22) (.lst .nl))) (.idx (.var 22) (.cst (nD 0))) (.cst .none)) [s0, s1, s2, s3, .im (dS L), s5, .im (nD x), s7, s8, s9, s10, s11, s12, s13, s14, s15, s16, s17, s18, s19, .im (nD y), s21, .ow (.list ((able L n x y).map nD)), s23] = some (.im (nD (it L x k0)), [s0, s1, s2, s3, .im (dS L), s5, .im (nD x), s7, s8, s9, s10, s11, s12, s13, s14, s15, s16, s17, s18, s19, .im (nD y), s21, .ow (.list ((able L n x y).map nD)), s23]) := by
      rw [e_ife hb, hr]
      exact e_idxO (x := .list ((it L x k0 :: r).map nD)) rfl rfl (idx_lst (i := 0) rfl)
    exact x_pass (evB_not (b := true) (evB_of (e_c2 (e_c3 rfl rfl rfl c4 rfl) hi (hs _) rfl)))
  · have he : able L n x y = [] := by
      unfold able
      rw [List.filter_eq_nil_iff]
      intro v hv
      obtain ⟨i, hi, e⟩ := mem_rw.mp hv
      obtain ⟨i', q1, q2, q3⟩ := h.red i
      intro hd
      have := (horb v).mp (of_decide_eq_true hd)
      rw [← e, ← q3] at this
      exact c1 i' q1 this
    have hi : ev C (.ife (.of (.cmp .ne (.var 22) (.lst .nl))) (.idx (.var 22) (.cst (nD 0))) (.cst .none)) [s0, s1, s2, s3, .im (dS L), s5, .im (nD x), s7, s8, s9, s10, s11, s12, s13, s14, s15, s16, s17, s18, s19, .im (nD y), s21, .ow (.list ((able L n x y).map nD)), s23] = some (.im .none, [s0, s1, s2, s3, .im (dS L), s5, .im (nD x), s7, s8, s9, s10, s11, s12, s13, s14, s15, s16, s17, s18, s19, .im (nD y), s21, .ow (.list ((able L n x y).map nD)), s23]) := by
      rw [e_ife hb, he]; rfl
    exact x_pass (evB_not (b := true) (evB_of (e_c2 (e_c3 rfl rfl rfl c2 rfl) hi hs2 rfl)))
end
end K64
end
section
set_option linter.all false
set_option maxRecDepth 100000
-- SN 24
namespace K64
open PySem Nv Q64
theorem leafN (n : Nat) : Sm (nD n) 1 := .leaf (nD n) rfl rfl rfl (by show some ((n : Int) == (n : Int)) = _; simp)
theorem smsN : ∀ (w : List Nat), Sms (w.map nD) w.length
  | [] => .nl
  | x :: w => by
    have := Sms.cs (nD x) (w.map nD) 1 w.length (leafN x) (smsN w)
    rwa [Nat.add_comm] at this
theorem e_ioS {C : Orc} {f i : Nat} {a : E} {st st1 : Sg} {r q : R} {d0 d d' x : D} (h00 : sget st i = .ow d0) (h0 : sget st1 i = .ow d) (h1 : ev C a st = some (r, st1)) (h2 : fz st1 r = some (x, st1)) (hC : C f [(true, d), (false, x)] = some (q, [d'])) (hq : Nv.fresh q = some q) : ev C (.call f (.io i (.cs a .nl))) st = some (q, st1.set i (.ow d')) := by
  show ((ownOf (sget st i)).bind fun _ => ((ev C a st).bind fun p => (fz p.2 p.1).bind fun u => (some ([], u.2)).map fun q => (.inr u.1 :: q.1, q.2)).map fun q => (Sum.inl i :: q.1, q.2)).bind (fun p => (argsOf p.1 p.2).bind fun l => bif nodupN (ios p.1) then (C f l).bind fun q => (Nv.fresh q.1).bind fun r => (outsTo p.1 q.2 p.2).map fun st2 => (r, st2) else none) = _
  rw [h00, h1]
  show (((fz st1 r).bind fun u => (some ([], u.2)).map fun q => (.inr u.1 :: q.1, q.2)).map fun q => (Sum.inl i :: q.1, q.2)).bind _ = _
  rw [h2]
  show (argsOf [.inl i, .inr x] st1).bind (fun l => (C f l).bind fun q => (Nv.fresh q.1).bind fun r => (outsTo [.inl i, .inr x] q.2 st1).map fun st2 => (r, st2)) = _
  rw [show argsOf [.inl i, .inr x] st1 = some [(true, d), (false, x)] by show (match sget st1 i with | .ow d => (argsOf [.inr x] st1).map ((true, d) :: ·) | _ => none) = _; rw [h0]; rfl, Option.bind_some, hC, Option.bind_some, hq]
  rfl
theorem evB_cmpS {C : Orc} {o : Cop} {a b : E} {st st1 : Sg} {x y : D} {v : Bool} (h1 : ev C a st = some (.im x, st1)) (h2 : ev C b st1 = some (.im y, st1)) (h3 : cmpD o x y = some v) : evB C (.of (.cmp o a b)) st = some (v, st1) := by
  refine evB_of ?_
  simp only [ev, h1, h2, dr, Option.bind_some, Option.map_some, h3, notR]
section
variable {N : Nat} (hN : 100000 ≤ N)
abbrev KC (N : Nat) : Orc := callF qs N 59
include hN
theorem same {d : D} {k : Nat} (h : Sm d k) (hk : k ≤ 90000) : Same (KC N) d := run_same (f := 10) rfl d k 58 h hk hN
theorem sameN (k : Nat) : Same (KC N) (nD k) := same hN (leafN k) (by decide)
theorem sameT (w : List Nat) (hw : w.length ≤ 100) : Same (KC N) (.tuple (w.map nD)) := same hN (.tup _ _ (smsN w)) (by omega)
theorem nxt_at (xs : List Nat) (p k : Nat) (hk : 0 < k) : ∃ v, v < k ∧ KC N 8 [(true, wD xs p), (false, nD k)] = some (.im (nD v), [wD xs (p + 1)]) := ⟨nxt xs p k, nxt_lt hk, run_next (f := 8) rfl xs p k 58 hk⟩
/-- one beginning -/
theorem x_ok (xs : List Nat) {L : List Nat} {n x : Nat} (mp : Mp L n) (hx : x < n) (p : Nat) (s0 s2 s5 s7 s8 s9 s10 s11 s12 s13 s14 s15 s16 s17 s18 s19 s20 s21 s22 s23 : Slot) :
    ∃ (p' : Nat) (t5 t7 t8 t9 t10 t11 t12 t13 t14 t15 t16 t18 t19 t20 t21 t22 : Slot), ex (KC N) N law_2b_4b [s0, .ow (wD xs p), s2, .im (nD n), .im (dS L), s5, .im (nD x), s7, s8, s9, s10, s11, s12, s13, s14, s15, s16, s17, s18, s19, s20, s21, s22, s23] = some (.nx [s0, .ow (wD xs p'), s2, .im (nD n), .im (dS L), t5, .im (nD x), t7, t8, t9, t10, t11, t12, t13, t14, t15, t16, s17, t18, t19, t20, t21, t22, s23]) := by
  have hL : lim = 16777216 := rfl
  obtain ⟨m, l, hl1, hml, he⟩ := rho mp hx
  have h : Rh L n x m l := ⟨mp, hx, hl1, hml, he⟩
  have hn := mp.few
  obtain ⟨g0, hg0, n18⟩ := nxt_at hN xs p 5 (by decide)
  obtain ⟨y, hy, n20⟩ := nxt_at hN xs (p + 1) n (by have := mp.pos; omega)
  obtain ⟨m2, l2, hl2, hml2, he2⟩ := rho mp hy
  have h2 : Rh L n y m2 l2 := ⟨mp, hy, hl2, hml2, he2⟩
  obtain ⟨K, a, hK⟩ := h.least
  obtain ⟨u5, hw⟩ := loop_wait h (C := KC N) (N := N) (s0 := s0) (s1 := .ow (wD xs p)) (s2 := s2) (s3 := .im (nD n)) (s4 := .im (dS L)) (s6 := .im (nD x)) (s8 := .im (nD m)) (s9 := .im (nD l)) (s10 := .im (nD (Mt m l))) (s14 := s14) (s15 := s15) (s16 := s16) (s17 := s17) (s18 := s18) (s19 := s19) (s20 := s20) (s21 := s21) (s22 := s22) (s23 := s23) (4 * n + 6) 0 s5 (Nat.zero_le _)
  have hA : min (0 + (4 * n + 6)) (Am m l) = Am m l := by
    obtain ⟨_, _, _, _, _, _, _, _, _, _, _, f12, _⟩ := h.fact
    omega
  rw [hA] at hw
  obtain ⟨v5, v14, v15, hst⟩ := p_stack h (C := KC N) (N := N) (s0 := s0) (s1 := .ow (wD xs p)) (s2 := s2) (s3 := .im (nD n)) (s4 := .im (dS L)) (s5 := u5) (s6 := .im (nD x)) (s8 := .im (nD m)) (s9 := .im (nD l)) (s10 := .im (nD (Mt m l))) (s11 := .im (nD (W (Am m l)))) (s12 := .im (nD (Am m l + 1))) (s13 := .im (nD (Am m l + 1))) (s17 := s17) (s18 := s18) (s19 := s19) (s20 := s20) (s21 := s21) (s22 := s22) (s23 := s23) hK
  refine ⟨p + 2, v5, .ow (RW L n x), .im (nD m), .im (nD l), .im (nD (Mt m l)), .im (nD (W (Am m l))), .im (nD (Am m l + 1)), .im (nD (Am m l + 1)), v14, v15, .im (tup L x l K), .im (nD (1 + g0)), .im (nD (Mk m (1 + g0))), .im (nD y), .ow (RW L n y), .ow (.list ((able L n x y).map nD)), ?_⟩
  have c11 := run_rows h (N := N) 58 (by omega)
  have c11y := run_rows h2 (N := N) 58 (by omega)
  refine x_seq (st1 := [s0, .ow (wD xs p), s2, .im (nD n), .im (dS L), s5, .im (nD x), .ow (RW L n x), s8, s9, s10, s11, s12, s13, s14, s15, s16, s17, s18, s19, s20, s21, s22, s23]) (x_asg (e_c2 rfl rfl c11 rfl) rfl) ?_
  refine x_seq (p_begin h) ?_
  refine x_seq (p_long h) ?_
  refine x_seq (p_meet h) ?_
  refine x_seq (p_two h (run_two h 58 (by omega)) (sameT hN [m, l, 3 * Mt m l + 2 * m + l] (by show 3 ≤ 100; decide))) ?_
  refine x_seq (st1 := [s0, .ow (wD xs p), s2, .im (nD n), .im (dS L), s5, .im (nD x), .ow (RW L n x), .im (nD m), .im (nD l), .im (nD (Mt m l)), .im (nD (W 0)), .im (nD (0 + 1)), .im (nD (0 + 1)), s14, s15, s16, s17, s18, s19, s20, s21, s22, s23]) rfl ?_
  refine x_seq (x_forE (l := none) (i_rng (n := 4 * n + 6) (e_bin (e_bin rfl rfl (n_mul' 4 n (by decide))) rfl (n_add _ _)) (by omega)) hw rfl) ?_
  refine x_seq (p_dbl h (run_dbl h 58 (by omega)) (sameT hN [m, l, Am m l + 1 + l + 2 * m] (by show 3 ≤ 100; decide))) ?_
  refine x_seq (st1 := [s0, .ow (wD xs p), s2, .im (nD n), .im (dS L), u5, .im (nD x), .ow (RW L n x), .im (nD m), .im (nD l), .im (nD (Mt m l)), .im (nD (W (Am m l))), .im (nD (Am m l + 1)), .im (nD (Am m l + 1)), .ow (.list []), .im (nD 0), .im .none, s17, s18, s19, s20, s21, s22, s23]) rfl ?_
  refine x_seq hst ?_
  refine x_seq (p_found h hK (run_least h 58 hK (by omega)) (sameT hN [it L x K, l, mst (it L x) K] (by show 3 ≤ 100; decide))) ?_
  refine x_seq (st1 := [s0, .ow (wD xs (p + 1)), s2, .im (nD n), .im (dS L), v5, .im (nD x), .ow (RW L n x), .im (nD m), .im (nD l), .im (nD (Mt m l)), .im (nD (W (Am m l))), .im (nD (Am m l + 1)), .im (nD (Am m l + 1)), v14, v15, .im (tup L x l K), s17, .im (nD (1 + g0)), s19, s20, s21, s22, s23]) (x_asg (e_binS rfl (e_io (d := wD xs p) (d' := wD xs (p + 1)) (r := .im (nD 5)) (x := nD 5) rfl rfl rfl n18 rfl) (n_add 1 g0)) rfl) ?_
  refine x_seq (p_mark h (by omega) (by omega)) ?_
  refine x_seq (p_marks h (by omega) (by omega) (run_marks h 58 (1 + g0) (by omega) (by omega) (by omega)) (sameT hN [l, (Mk m (1 + g0) + l - 1) / (1 + g0) + 1] (by show 2 ≤ 100; decide))) ?_
  refine x_seq (p_ring h (run_first h 57 (by omega)) (sameN hN _) (run_inring h 56 (by omega)) (same hN (.leaf (.bool (decide (m = 0))) rfl rfl rfl (by cases decide (m = 0) <;> rfl)) (by decide))) ?_
  refine x_seq (st1 := [s0, .ow (wD xs (p + 2)), s2, .im (nD n), .im (dS L), v5, .im (nD x), .ow (RW L n x), .im (nD m), .im (nD l), .im (nD (Mt m l)), .im (nD (W (Am m l))), .im (nD (Am m l + 1)), .im (nD (Am m l + 1)), v14, v15, .im (tup L x l K), s17, .im (nD (1 + g0)), .im (nD (Mk m (1 + g0))), .im (nD y), s21, s22, s23]) (x_asg (e_io (d := wD xs (p + 1)) (d' := wD xs (p + 2)) (r := .im (nD n)) (x := nD n) rfl rfl rfl n20 rfl) rfl) ?_
  refine x_seq (st1 := [s0, .ow (wD xs (p + 2)), s2, .im (nD n), .im (dS L), v5, .im (nD x), .ow (RW L n x), .im (nD m), .im (nD l), .im (nD (Mt m l)), .im (nD (W (Am m l))), .im (nD (Am m l + 1)), .im (nD (Am m l + 1)), v14, v15, .im (tup L x l K), s17, .im (nD (1 + g0)), .im (nD (Mk m (1 + g0))), .im (nD y), .ow (RW L n y), s22, s23]) (x_asg (e_c2 rfl rfl c11y rfl) rfl) ?_
  refine x_seq (p_able h) ?_
  exact p_meetings h h2 (run_meet h h2 58 (by omega)) (sameN hN) (same hN (.leaf .none rfl rfl rfl rfl) (by decide))
theorem xs_ok (xs : List Nat) {L : List Nat} {n : Nat} (mp : Mp L n) (s0 s2 s17 s23 : Slot) : ∀ (d j p : Nat) (s5 s6 s7 s8 s9 s10 s11 s12 s13 s14 s15 s16 s18 s19 s20 s21 s22 : Slot), j + d = n →
    ∃ (p' : Nat) (t5 t6 t7 t8 t9 t10 t11 t12 t13 t14 t15 t16 t18 t19 t20 t21 t22 : Slot), forL (bindT (.nm 6)) (ex (KC N) N law_2b_4b) (upto j d) [s0, .ow (wD xs p), s2, .im (nD n), .im (dS L), s5, s6, s7, s8, s9, s10, s11, s12, s13, s14, s15, s16, s17, s18, s19, s20, s21, s22, s23] = some (.nx [s0, .ow (wD xs p'), s2, .im (nD n), .im (dS L), t5, t6, t7, t8, t9, t10, t11, t12, t13, t14, t15, t16, s17, t18, t19, t20, t21, t22, s23])
  | 0, j, p, s5, s6, s7, s8, s9, s10, s11, s12, s13, s14, s15, s16, s18, s19, s20, s21, s22, _ => ⟨p, s5, s6, s7, s8, s9, s10, s11, s12, s13, s14, s15, s16, s18, s19, s20, s21, s22, rfl⟩
  | d + 1, j, p, s5, s6, s7, s8, s9, s10, s11, s12, s13, s14, s15, s16, s18, s19, s20, s21, s22, hj => by
    obtain ⟨p1, t5, t7, t8, t9, t10, t11, t12, t13, t14, t15, t16, t18, t19, t20, t21, t22, e⟩ := x_ok hN xs mp (x := j) (by omega) p s0 s2 s5 s7 s8 s9 s10 s11 s12 s13 s14 s15 s16 s17 s18 s19 s20 s21 s22 s23
    obtain ⟨p', v5, v6, v7, v8, v9, v10, v11, v12, v13, v14, v15, v16, v18, v19, v20, v21, v22, e2⟩ := xs_ok xs mp s0 s2 s17 s23 d (j + 1) p1 t5 (.im (nD j)) t7 t8 t9 t10 t11 t12 t13 t14 t15 t16 t18 t19 t20 t21 t22 (by omega)
    exact ⟨p', v5, v6, v7, v8, v9, v10, v11, v12, v13, v14, v15, v16, v18, v19, v20, v21, v22, fl_cons rfl e e2⟩
/-- the map is drawn -/
theorem loop_map (xs : List Nat) (n : Nat) (hn : 1 ≤ n) (s0 s2 s4 s6 s7 s8 s9 s10 s11 s12 s13 s14 s15 s16 s17 s18 s19 s20 s21 s22 s23 : Slot) : ∀ (d j p : Nat) (acc : List D) (s5 : Slot), acc.length + d ≤ 1000 →
    ∃ (M : List Nat) (p' : Nat) (s5' : Slot), M.length = d ∧ (∀ v ∈ M, v < n) ∧ lcL (bindT (.nm 5)) (evB (KC N) .yes) (fun s => (ev (KC N) (.call 8 (.io 1 (.cs (.var 3) .nl))) s).bind fun u => fz u.2 u.1) (T.nm 5).own (upto j d) [s0, .ow (wD xs p), s2, .im (nD n), s4, s5, s6, s7, s8, s9, s10, s11, s12, s13, s14, s15, s16, s17, s18, s19, s20, s21, s22, s23] acc = some (acc ++ M.map nD, [s0, .ow (wD xs p'), s2, .im (nD n), s4, s5', s6, s7, s8, s9, s10, s11, s12, s13, s14, s15, s16, s17, s18, s19, s20, s21, s22, s23])
  | 0, j, p, acc, s5, _ => ⟨[], p, s5, rfl, fun v hv => (by cases hv), by show some (acc, _) = some (acc ++ [], _); rw [List.append_nil]⟩
  | d + 1, j, p, acc, s5, h => by
    have hL : lim = 16777216 := rfl
    obtain ⟨v, hv, e0⟩ := nxt_at hN xs p n (by omega)
    obtain ⟨M, p', s5', h1, h2, h3⟩ := loop_map xs n hn s0 s2 s4 s6 s7 s8 s9 s10 s11 s12 s13 s14 s15 s16 s17 s18 s19 s20 s21 s22 s23 d (j + 1) (p + 1) (acc ++ [nD v]) (.im (nD j)) (by simp; omega)
    refine ⟨v :: M, p', s5', congrArg (· + 1) h1, fun u hu => by
      rcases List.mem_cons.mp hu with q | q
      · rw [q]; exact hv
      · exact h2 u q, ?_⟩
    rw [show acc ++ (v :: M).map nD = acc ++ [nD v] ++ M.map nD by simp]
    exact lc_take (st1 := [s0, .ow (wD xs p), s2, .im (nD n), s4, .im (nD j), s6, s7, s8, s9, s10, s11, s12, s13, s14, s15, s16, s17, s18, s19, s20, s21, s22, s23]) (st2 := [s0, .ow (wD xs p), s2, .im (nD n), s4, .im (nD j), s6, s7, s8, s9, s10, s11, s12, s13, s14, s15, s16, s17, s18, s19, s20, s21, s22, s23]) (st3 := [s0, .ow (wD xs (p + 1)), s2, .im (nD n), s4, .im (nD j), s6, s7, s8, s9, s10, s11, s12, s13, s14, s15, s16, s17, s18, s19, s20, s21, s22, s23]) (x := nD v) rfl rfl (el_im (e_io (d := wD xs p) (d' := wD xs (p + 1)) (r := .im (nD n)) (x := nD n) rfl rfl rfl e0 rfl)) (by omega) h3
theorem turn_ok (xs : List Nat) (p : Nat) (s0 s2 s3 s4 s5 s6 s7 s8 s9 s10 s11 s12 s13 s14 s15 s16 s17 s18 s19 s20 s21 s22 s23 : Slot) :
    ∃ (p' : Nat) (t3 t4 t5 t6 t7 t8 t9 t10 t11 t12 t13 t14 t15 t16 t17 t18 t19 t20 t21 t22 t23 : Slot), ex (KC N) N law_2b [s0, .ow (wD xs p), s2, s3, s4, s5, s6, s7, s8, s9, s10, s11, s12, s13, s14, s15, s16, s17, s18, s19, s20, s21, s22, s23] = some (.nx [s0, .ow (wD xs p'), s2, t3, t4, t5, t6, t7, t8, t9, t10, t11, t12, t13, t14, t15, t16, t17, t18, t19, t20, t21, t22, t23]) := by
  have hL : lim = 16777216 := rfl
  obtain ⟨v, hv, e0⟩ := nxt_at hN xs p 9 (by decide)
  obtain ⟨M, p1, s5', h1, h2, h3⟩ := loop_map hN xs (1 + v) (by omega) s0 s2 s4 s6 s7 s8 s9 s10 s11 s12 s13 s14 s15 s16 s17 s18 s19 s20 s21 s22 s23 (1 + v) 0 (p + 1) [] s5 (by simp; omega)
  have hlc := e_lc (C := KC N) (elt := .call 8 (.io 1 (.cs (.var 3) .nl))) (t := .nm 5) (it := .rng1 (.var 3)) (c := .yes) (st := [s0, .ow (wD xs (p + 1)), s2, .im (nD (1 + v)), s4, s5, s6, s7, s8, s9, s10, s11, s12, s13, s14, s15, s16, s17, s18, s19, s20, s21, s22, s23]) (l := none) (i_rng (n := 1 + v) rfl (by omega)) h3
  obtain ⟨c, hc, e1⟩ := nxt_at hN xs p1 2 (by decide)
  have heq := n_eq c 0
  -- the map, drawn or a path
  obtain ⟨L, p2, mp, hmap⟩ : ∃ (L : List Nat) (p2 : Nat), Mp L (1 + v) ∧ ex (KC N) N law_2b_3 [s0, .ow (wD xs p1), s2, .im (nD (1 + v)), .im (dS M), s5, s6, s7, s8, s9, s10, s11, s12, s13, s14, s15, s16, s17, s18, s19, s20, s21, s22, s23] = some (.nx [s0, .ow (wD xs p2), s2, .im (nD (1 + v)), .im (dS L), s5, s6, s7, s8, s9, s10, s11, s12, s13, s14, s15, s16, s17, s18, s19, s20, s21, s22, s23]) := by
    have hcall : ev (KC N) (.call 8 (.io 1 (.cs (.cst (nD 2)) .nl))) [s0, .ow (wD xs p1), s2, .im (nD (1 + v)), .im (dS M), s5, s6, s7, s8, s9, s10, s11, s12, s13, s14, s15, s16, s17, s18, s19, s20, s21, s22, s23] = some (.im (nD c), [s0, .ow (wD xs (p1 + 1)), s2, .im (nD (1 + v)), .im (dS M), s5, s6, s7, s8, s9, s10, s11, s12, s13, s14, s15, s16, s17, s18, s19, s20, s21, s22, s23]) := e_io (d := wD xs p1) (d' := wD xs (p1 + 1)) (r := .im (nD 2)) (x := nD 2) rfl rfl rfl e1 rfl
    have hB : evB (KC N) (.of (.cmp .eq (.call 8 (.io 1 (.cs (.cst (nD 2)) .nl))) (.cst (nD 0)))) [s0, .ow (wD xs p1), s2, .im (nD (1 + v)), .im (dS M), s5, s6, s7, s8, s9, s10, s11, s12, s13, s14, s15, s16, s17, s18, s19, s20, s21, s22, s23] = some (decide (c = 0), [s0, .ow (wD xs (p1 + 1)), s2, .im (nD (1 + v)), .im (dS M), s5, s6, s7, s8, s9, s10, s11, s12, s13, s14, s15, s16, s17, s18, s19, s20, s21, s22, s23]) := by
      exact evB_cmpS hcall rfl heq
    by_cases q : c = 0
    · rw [decide_eq_true q] at hB
      obtain ⟨z, hz, e2⟩ := nxt_at hN xs (p1 + 1) (1 + v) (by omega)
      have e := e_lcA (C := KC N) (elt := .bin .add (.var 5) (.cst (nD 1))) (t := .nm 5) (it := .rng1 (.bin .sub (.var 3) (.cst (nD 1)))) (st := [s0, .ow (wD xs (p1 + 1)), s2, .im (nD (1 + v)), .im (dS M), s5, s6, s7, s8, s9, s10, s11, s12, s13, s14, s15, s16, s17, s18, s19, s20, s21, s22, s23]) (l := none) (fun w => [s0, .ow (wD xs (p1 + 1)), s2, .im (nD (1 + v)), .im (dS M), w, s6, s7, s8, s9, s10, s11, s12, s13, s14, s15, s16, s17, s18, s19, s20, s21, s22, s23]) nD (fun k => nD (k + 1)) (List.range' 0 v) s5 (by
        rw [← upto_map]
        have hs := n_sub (1 + v) 1 (by omega)
        rw [show 1 + v - 1 = v by omega] at hs
        exact i_rng (n := v) (e_bin rfl rfl hs) (by omega)) (fun x _ w => rfl) (fun k _ => el_im (e_bin rfl rfl (n_add k 1))) (by rw [List.length_range']; omega) (fun w => rfl)
      have hml : ((List.range' 0 v).map fun k => nD (k + 1)) = ((List.range' 0 v).map (· + 1)).map nD := by rw [List.map_map]; rfl
      rw [hml] at e
      refine ⟨(List.range' 0 v).map (· + 1) ++ [z], p1 + 2, ⟨by simp; omega, fun u hu => ?_, by omega, by omega⟩, x_ift hB (x_asg (r := .im (dS ((List.range' 0 v).map (· + 1) ++ [z]))) (st1 := [s0, .ow (wD xs (p1 + 2)), s2, .im (nD (1 + v)), .im (dS M), s5, s6, s7, s8, s9, s10, s11, s12, s13, s14, s15, s16, s17, s18, s19, s20, s21, s22, s23]) (e_binS (x := .tuple (((List.range' 0 v).map (· + 1)).map nD)) (y := .tuple [nD z]) (st1 := [s0, .ow (wD xs (p1 + 1)), s2, .im (nD (1 + v)), .im (dS M), s5, s6, s7, s8, s9, s10, s11, s12, s13, s14, s15, s16, s17, s18, s19, s20, s21, s22, s23]) (e_blt1 e rfl rfl) (e_tup (f_im' (e_io (d := wD xs (p1 + 1)) (d' := wD xs (p1 + 2)) (r := .im (nD (1 + v))) (x := nD (1 + v)) rfl rfl rfl e2 rfl)) (by show 1 ≤ 16777216; decide)) ?_) rfl)⟩
      · rcases List.mem_append.mp hu with r | r
        · obtain ⟨k, hk, rfl⟩ := List.mem_map.mp r
          rw [List.mem_range'_1] at hk
          omega
        · rw [List.mem_singleton.mp r]; exact hz
      · have := cat_tup (((List.range' 0 v).map (· + 1)).map nD) [nD z] (by simp; omega)
        rw [this]
        unfold dS
        rw [List.map_append]; rfl
    · rw [decide_eq_false q] at hB
      exact ⟨M, p1 + 1, ⟨h1, h2, by omega, by omega⟩, x_iff hB rfl⟩
  obtain ⟨p', t5, t6, t7, t8, t9, t10, t11, t12, t13, t14, t15, t16, t18, t19, t20, t21, t22, e⟩ := xs_ok hN xs mp s0 s2 s17 s23 (1 + v) 0 p2 s5 s6 s7 s8 s9 s10 s11 s12 s13 s14 s15 s16 s18 s19 s20 s21 s22 (Nat.zero_add _)
  refine ⟨p', .im (nD (1 + v)), .im (dS L), t5, t6, t7, t8, t9, t10, t11, t12, t13, t14, t15, t16, s17, t18, t19, t20, t21, t22, s23, ?_⟩
  refine x_seq (st1 := [s0, .ow (wD xs (p + 1)), s2, .im (nD (1 + v)), s4, s5, s6, s7, s8, s9, s10, s11, s12, s13, s14, s15, s16, s17, s18, s19, s20, s21, s22, s23]) (x_asg (e_binS rfl (e_io (d := wD xs p) (d' := wD xs (p + 1)) (r := .im (nD 9)) (x := nD 9) rfl rfl rfl e0 rfl) (n_add 1 v)) rfl) ?_
  refine x_seq (st1 := [s0, .ow (wD xs p1), s2, .im (nD (1 + v)), .im (dS M), s5, s6, s7, s8, s9, s10, s11, s12, s13, s14, s15, s16, s17, s18, s19, s20, s21, s22, s23]) (x_asg (r := .im (dS M)) (st1 := [s0, .ow (wD xs p1), s2, .im (nD (1 + v)), s4, s5, s6, s7, s8, s9, s10, s11, s12, s13, s14, s15, s16, s17, s18, s19, s20, s21, s22, s23]) (e_blt1 hlc rfl rfl) rfl) ?_
  refine x_seq hmap ?_
  exact x_forE (l := none) (i_rng (n := 1 + v) rfl (by omega)) e rfl
where
  f_im' {C : Orc} {a : E} {st st1 : Sg} {d : D} (h1 : ev C a st = some (.im d, st1)) : evF C (.cs a .nl) st = some ([d], st1) := f_cs h1 rfl rfl
theorem turns_ok (xs : List Nat) : ∀ (ts : List D) (p : Nat) (s0 s2 s3 s4 s5 s6 s7 s8 s9 s10 s11 s12 s13 s14 s15 s16 s17 s18 s19 s20 s21 s22 s23 : Slot),
    ∃ (p' : Nat) (t2 t3 t4 t5 t6 t7 t8 t9 t10 t11 t12 t13 t14 t15 t16 t17 t18 t19 t20 t21 t22 t23 : Slot), forL (bindT (.nm 2)) (ex (KC N) N law_2b) ts [s0, .ow (wD xs p), s2, s3, s4, s5, s6, s7, s8, s9, s10, s11, s12, s13, s14, s15, s16, s17, s18, s19, s20, s21, s22, s23] = some (.nx [s0, .ow (wD xs p'), t2, t3, t4, t5, t6, t7, t8, t9, t10, t11, t12, t13, t14, t15, t16, t17, t18, t19, t20, t21, t22, t23])
  | [], p, s0, s2, s3, s4, s5, s6, s7, s8, s9, s10, s11, s12, s13, s14, s15, s16, s17, s18, s19, s20, s21, s22, s23 => ⟨p, s2, s3, s4, s5, s6, s7, s8, s9, s10, s11, s12, s13, s14, s15, s16, s17, s18, s19, s20, s21, s22, s23, rfl⟩
  | t :: ts, p, s0, s2, s3, s4, s5, s6, s7, s8, s9, s10, s11, s12, s13, s14, s15, s16, s17, s18, s19, s20, s21, s22, s23 => by
    obtain ⟨p1, u3, u4, u5, u6, u7, u8, u9, u10, u11, u12, u13, u14, u15, u16, u17, u18, u19, u20, u21, u22, u23, e⟩ := turn_ok hN xs p s0 (.im t) s3 s4 s5 s6 s7 s8 s9 s10 s11 s12 s13 s14 s15 s16 s17 s18 s19 s20 s21 s22 s23
    obtain ⟨p', t2, t3, t4, t5, t6, t7, t8, t9, t10, t11, t12, t13, t14, t15, t16, t17, t18, t19, t20, t21, t22, t23, e2⟩ := turns_ok xs ts p1 s0 (.im t) u3 u4 u5 u6 u7 u8 u9 u10 u11 u12 u13 u14 u15 u16 u17 u18 u19 u20 u21 u22 u23
    exact ⟨p', t2, t3, t4, t5, t6, t7, t8, t9, t10, t11, t12, t13, t14, t15, t16, t17, t18, t19, t20, t21, t22, t23, fl_cons rfl e e2⟩
theorem law_ok (ns : List Int) (h : ns.length ≤ 63) : callF qs N 60 12 [(false, .list (ns.map .int))] = some (.im (.bool true), []) := by
  obtain ⟨xs, hd⟩ := run_draws (ds := qs) (N := N) (f := 7) rfl ns 60 58 h (by decide)
  obtain ⟨p', t2, t3, t4, t5, t6, t7, t8, t9, t10, t11, t12, t13, t14, t15, t16, t17, t18, t19, t20, t21, t22, t23, e⟩ := turns_ok hN xs (upto 0 2) 0 (.im (.list (ns.map .int))) .un .un .un .un .un .un .un .un .un .un .un .un .un .un .un .un .un .un .un .un .un .un
  exact run_rt (st1 := [.im (.list (ns.map .int)), .ow (wD xs p'), t2, t3, t4, t5, t6, t7, t8, t9, t10, t11, t12, t13, t14, t15, t16, t17, t18, t19, t20, t21, t22, t23]) (df := q_law) rfl rfl (x_seq (x_w (d := .list (ns.map .int)) rfl hd) (x_seq (x_for (l := none) (i_rng (n := 2) rfl (by decide)) e) (x_retI rfl))) rfl
end
theorem law_all (ns : List Int) (h : ns.length ≤ 63) : callF qs 100000 60 12 [(false, .list (ns.map .int))] = some (.im (.bool true), []) := law_ok (Nat.le_refl _) ns h
end K64
end
section
set_option maxRecDepth 100000
set_option Elab.async false
set_option linter.all false
theorem Q64.eq : L64.defs = Q64.qs := by kernel_rfl
namespace L64
open PySem Nv
theorem law_true : ∀ ns : List Int, ns.length ≤ 63 → Nv.callF L64.defs 100000 60 L64.i_law [(false, .list (ns.map .int))] = some (.im (.bool true), []) := by
  intro ns h
  rw [Q64.eq]
  exact K64.law_all ns h
end L64
end
section
set_option maxRecDepth 100000
set_option Elab.async false
set_option linter.all false
namespace L64
open PySem PySem.Spec PyProof.Rows L2 Nv
theorem dds_ok : ∀ d ∈ dds, DOk (fsOf dds) d := dOk_R (by decide +kernel)
theorem b_by_two : BindsD (mkD top (fsR raw) r_by_two) := fun _ _ _ _ _ _ us hl => match us, hl with | [_, _], _ => rfl
theorem b_by_doubling : BindsD (mkD top (fsR raw) r_by_doubling) := fun _ _ _ _ _ _ us hl => match us, hl with | [_, _], _ => rfl
theorem b_by_least : BindsD (mkD top (fsR raw) r_by_least) := fun _ _ _ _ _ _ us hl => match us, hl with | [_, _], _ => rfl
theorem b_by_marks : BindsD (mkD top (fsR raw) r_by_marks) := fun _ _ _ _ _ _ us hl => match us, hl with | [_, _, _], _ => rfl
theorem b_first_of_ring : BindsD (mkD top (fsR raw) r_first_of_ring) := fun _ _ _ _ _ _ us hl => match us, hl with | [_, _], _ => rfl
theorem b_is_in_ring : BindsD (mkD top (fsR raw) r_is_in_ring) := fun _ _ _ _ _ _ us hl => match us, hl with | [_, _], _ => rfl
theorem b_meet_at : BindsD (mkD top (fsR raw) r_meet_at) := fun _ _ _ _ _ _ us hl => match us, hl with | [_, _, _], _ => rfl
theorem b__law_draws : BindsD (mkD top (fsR raw) r__law_draws) := fun _ _ _ _ _ _ us hl => match us, hl with | [_, _], _ => rfl
theorem b__law_next : BindsD (mkD top (fsR raw) r__law_next) := fun _ _ _ _ _ _ us hl => match us, hl with | [_, _], _ => rfl
theorem b__law_pick : BindsD (mkD top (fsR raw) r__law_pick) := fun _ _ _ _ _ _ us hl => match us, hl with | [_, _], _ => rfl
theorem b__law_same : BindsD (mkD top (fsR raw) r__law_same) := fun _ _ _ _ _ _ us hl => match us, hl with | [_, _], _ => rfl
theorem b__law_rows : BindsD (mkD top (fsR raw) r__law_rows) := fun _ _ _ _ _ _ us hl => match us, hl with | [_, _], _ => rfl
theorem b_law : BindsD (mkD top (fsR raw) r_law) := fun _ _ _ _ _ _ us hl => match us, hl with | [_], _ => rfl
theorem binds : ∀ d ∈ dds, BindsD d := fun d hd => by
  obtain ⟨r, hr, rfl⟩ := List.mem_map.mp hd
  simp only [raw, List.mem_cons, List.not_mem_nil, or_false] at hr
  rcases hr with rfl | rfl | rfl | rfl | rfl | rfl | rfl | rfl | rfl | rfl | rfl | rfl | rfl
  · exact b_by_two
  · exact b_by_doubling
  · exact b_by_least
  · exact b_by_marks
  · exact b_first_of_ring
  · exact b_is_in_ring
  · exact b_meet_at
  · exact b__law_draws
  · exact b__law_next
  · exact b__law_pick
  · exact b__law_same
  · exact b__law_rows
  · exact b_law
abbrev R : PySem.W.OpenRow := PySem.W.OpenLaw.row PySem.Challenge.rw_neveratrest_k64_whole_ways_to_find_a_rin
abbrev hk : PySem.W.Hook := He.hookD 4 (fasOf dds) (fnsOf dds)
def ob (s : PySem.W.SharedT) : He.AlD := He.obsDG 4 (fasOf dds) (fnsOf dds) (HandSHeadRun.getT s)
theorem ob_eq (s : PySem.W.SharedT) : ob s = hk.obs s.abs := He.obsDG_eq (HandSHeadRun.getT_eq s)
def names : List PySem.Str := ["by_two", "by_doubling", "by_least", "by_marks", "first_of_ring", "is_in_ring", "meet_at", "_law_draws", "_law_next", "_law_pick", "_law_same", "_law_rows"]
theorem run (w : World) : HandSHeadRun.RunEq R (PySem.W.view R.prog [14]) hk ob 3000 names w := by
  intro os
  kernel_rfl
end L64
open PySem PySem.W PySem.Calls PyProof.Rows
set_option maxHeartbeats 0 in
theorem PySem.Challenge.cw_neveratrest_k64_whole_ways_to_find_a_rin_holds : PySem.Challenge.rw_neveratrest_k64_whole_ways_to_find_a_rin.Holds := by
  w_on; o_law
  refine HandSHeadRun.head_any (r := OpenLaw.row PySem.Challenge.rw_neveratrest_k64_whole_ways_to_find_a_rin) (q := view (OpenLaw.row PySem.Challenge.rw_neveratrest_k64_whole_ways_to_find_a_rin).prog [14]) (H := L64.hk) (ob := L64.ob) (M := 3000) (loose := L64.names) (d := HandSHeadRun.topDef (OpenLaw.row PySem.Challenge.rw_neveratrest_k64_whole_ways_to_find_a_rin).prog 14) (kwd := []) L64.ob_eq
    (by kernel_rfl) (fun s => by kernel_rfl) L64.run (by kernel_rfl) (by kernel_rfl) (by kernel_rfl) (by rfl) (by first | assumption | decide +kernel) (by decide +kernel) ⟨rfl, rfl, rfl, rfl, rfl, by decide +kernel⟩ ?hw ?hc
  case hw => w_witness2
  case hc =>
    refine Nv.walk_of2 (l := PySem.Challenge.rw_neveratrest_k64_whole_ways_to_find_a_rin) (n := 63) (k := 60) (x := "script") rfl (by decide) (by kernel_rfl) ⟨rfl, by decide, by decide⟩ ?F
    intro w mg fa h Y G hmg0
    obtain ⟨K, KX, c⟩ := Y
    have hmg : mg ("law" : PySem.Str) = some (.ref fa) := by
      have e : (HandSHeadRun.topDef (OpenLaw.row PySem.Challenge.rw_neveratrest_k64_whole_ways_to_find_a_rin).prog 14).name = ("law" : PySem.Str) := by kernel_rfl
      rw [← e]
      exact hmg0
    obtain ⟨fd, hb, hF⟩ := Nv.facts (P := (PySem.Challenge.rw_neveratrest_k64_whole_ways_to_find_a_rin).prog) (w := w) (dds := L64.dds) (iL := L64.i_law) (dL := Nv.mkD L64.top (Nv.fsR L64.raw) L64.r_law) 100000 60 KX G hmg c L64.dds_ok L64.binds rfl rfl
    exact ⟨K, fd, _, KX, hb, fun H a ns hl hr => Nv.sp_law L64.law_true H a ns hl hr, hF⟩
end
