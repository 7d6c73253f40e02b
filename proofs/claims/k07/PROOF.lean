import PyProof.Rows.All
import Wide.All
import OpenK.AllK
import Wide.FinOn
import HandS.ForMost
import KE.KDictKeyed
import HandS.ForExc
import HandS.TupAny
import HandS.TupMul
import HandS.Strs
import HandS.Zip
import HandS.IsInst
import HandS.Flow
import HandS.Style
import HandS.Deep
import HandS.FStr
import HandS.CallSlots
import HandS.More
import HandS.Conv
import HandS.Small
import HandS.RaiseMore
import HandS.WordsDict
import KE.KTupSum
import KE.GoesMore
import HandS.Walk
import PyProof.AutoSeq1
import HandS.Defaults
import HandS.Sort
import PyProof.Rows.StrMeet
import KE.SortData
import KE.KDictWalk
import KE.KDictSum
import HandS.Set
import HandS.SetTxt0
import PyProof.Rows.SetFrom
import KE.KDictZip
import KE.GoesZip
import KE.GoesEnum
import PyProof.DictUpdate
import KE.KIndexOf
import HandS.TryOnly
import KE.KStateDown
import HandS.Head0
import HandS.Head1
import HandS.Head2
import HandS.HeadEnd
import HandS.HeadHook1
import HandS.HeadHook2
import HandS.HeadHook3
import HandS.HeadHook4
import PySem.Challenge.RW_callturn_k07_whole_calls_that_come_last
set_option Elab.async false
set_option linter.all false
set_option maxRecDepth 100000
section
/-! callturn proofs, part a: plain data, a store of changing objects, a small language, and how it runs. No model here. -/
namespace CT
open PySem
abbrev Key := L2.Key

/-- what a value is, told without places: `lst`, `dct` never change once made; what changes is a `loc`, a place of the store; `scr`: the law's script -/
inductive D where
  | non | bl (b : Bool) | int (i : Int) | str (s : Str)
  | tup (ds : List D) | lst (ds : List D) | dct (ks : List Key) (ds : List D)
  | loc (n : Nat) | scr (ns : List Int)
  deriving Inhabited

/-- an object that changes; `ded`: it is forgotten -/
inductive Ob where
  | lst (ds : List D) | dct (ks : List Key) (ds : List D) | ins (c : Nat) (fs : List Str) (ds : List D) | ded
  | dcn (ks : List NestedKey) (ds : List D)
  deriving Inhabited

abbrev Sto := List Ob
abbrev Ev := List (Option D)

/-- how an expression ends: a value, an exception (by its class), or no word -/
inductive R (α : Type) where
  | ok (a : α) (S : Sto) | ex (c : Nat) (S : Sto) | no

def R.bind {α β : Type} : R α → (α → Sto → R β) → R β
  | .ok a S, f => f a S
  | .ex c S, _ => .ex c S
  | .no, _ => .no

def R.of {α : Type} (S : Sto) : Option α → R α
  | some a => .ok a S
  | none => .no

/-- no word, where there is nothing -/
def orNo {α β : Type} : Option α → (α → R β) → R β
  | some a, f => f a
  | none, _ => .no

/-- how a statement ends -/
inductive RS where
  | nx (e : Ev) (S : Sto) | rt (d : D) (S : Sto) | ct (e : Ev) (S : Sto) | ex (c : Nat) (e : Ev) (S : Sto) | no

inductive BOp where | add | sub | mul | mod | fdiv
  deriving DecidableEq
inductive COp where | eq | ne | lt | le | gt | ge | is | isn | isin | nin
  deriving DecidableEq
inductive Ty where | int | str | bool | tuple | list | dict
  deriving DecidableEq
inductive B1 where | len | tuple | list | dict | all | any | int | sorted | max | min | sum | str
  deriving DecidableEq
/-- what is walked -/
inductive IK where | seq | range1 | range2 | zip | enum
  deriving DecidableEq
/-- a target: a name's slot, or slots of an unpacked tuple -/
inductive Tg where | one (i : Nat) | many (is : List Nat)

inductive E where
  | var (i : Nat)
  | glo (x : Str) (d : D)
  | int (i : Int) | bl (b : Bool) | non | str (s : Str)
  | bin (o : BOp) (m : Bool) (a b : E)
  | neg (a : E)
  | not (a : E)
  | and (es : List E) | or (es : List E)
  | ite (c a b : E)
  | cmp (o : COp) (a b : E)
  | chain (o o' : COp) (a b c : E)
  | call (f : Nat) (as : List E)
  | make (c : Nat) (as : List E)
  | meth (f : Nat) (c : Nat) (m : Str) (a : E) (as : List E)
  | isi (a : E) (t : Ty)
  | b1 (b : B1) (m : Bool) (a : E)
  | max2 (a b : E) | min2 (a b : E)
  | lenset (a : E) | sortset (a : E)
  | dictzip (m : Bool) (a b : E)
  | append (a b : E) | extend (a b : E) | pop (a : E)
  | get1 (a b : E) | get2 (a b c : E)
  | gsub (ks : List Key) (ds : List D) (b : E) | pop0 (a : E)
  | join (a b : E) | split (a b : E) | index (a b : E) | count (a b : E) | update (a b : E)
  | attr (a : E) (f : Str)
  | sub (a b : E)
  | sl (a : E) (lo hi : List E)
  | rev (a : E)
  | tup (es : List E) | lst (m : Bool) (es : List E) | dct (m : Bool) (kvs : List E)
  | comp (m : Bool) (elt : E) (tg : Tg) (ik : IK) (its : List E) (cond : List E) (own : List Nat)
  | fstr (es : List E)
  | frz (a : E)
  | ink (a b : E) | sbk (a b : E) | dpk (a : E) | tidx (a b : E)
  | slm (a : E) (lo hi : List E)

inductive S where
  | expr (e : E)
  | set (tg : Tg) (e : E)
  | par (is : List Nat) (es : List E)
  | attr (o : E) (f : Str) (e : E)
  | sub (o i e : E)
  | sbk (o i e : E)
  | ret (e : E)
  | ite (c : E) (a b : List S)
  | for (tg : Tg) (ik : IK) (its : List E) (b : List S)
  | while (c : E) (b : List S)
  | raise (c : Nat)
  | try (b : List S) (c : Nat) (h : List S)
  | cont | pass

/-! ### data -/
mutual
def D.beq : D → D → Bool
  | .non, .non => true
  | .bl a, .bl b => a == b
  | .int a, .int b => decide (a = b)
  | .str a, .str b => decide (a = b)
  | .tup a, .tup b => beqs a b
  | .lst a, .lst b => beqs a b
  | .dct a x, .dct b y => decide (a = b) && beqs x y
  | .loc a, .loc b => a == b
  | .scr a, .scr b => decide (a = b)
  | _, _ => false
def beqs : List D → List D → Bool
  | [], [] => true
  | a :: x, b :: y => D.beq a b && beqs x y
  | _, _ => false
end
def Ob.beq : Ob → Ob → Bool
  | .lst a, .lst b => beqs a b
  | .dct a x, .dct b y => decide (a = b) && beqs x y
  | .ins c f x, .ins d g y => (c == d && decide (f = g)) && beqs x y
  | .ded, .ded => true
  | .dcn a x, .dcn b y => decide (a = b) && beqs x y
  | _, _ => false
def obeqs : List Ob → List Ob → Bool
  | [], [] => true
  | a :: x, b :: y => Ob.beq a b && obeqs x y
  | _, _ => false

mutual
/-- nothing in it changes -/
def D.pure : D → Bool
  | .tup ds => pures ds
  | .lst ds => pures ds
  | .dct _ ds => pures ds
  | .loc _ => false
  | _ => true
def pures : List D → Bool
  | [] => true
  | d :: r => D.pure d && pures r
end

def szl : Nat := 16777216
def fits (n : Nat) : Bool := Nat.ble n 16777216

/-- lists, by value or in the store -/
def asL (S : Sto) : D → Option (List D)
  | .lst ds => some ds
  | .scr ns => some (ns.map D.int)
  | .loc n => match S[n]? with
    | some (.lst ds) => some ds
    | _ => none
  | _ => none
/-- lists that the program made -/
def asM (S : Sto) : D → Option (List D)
  | .lst ds => some ds
  | .loc n => match S[n]? with
    | some (.lst ds) => some ds
    | _ => none
  | _ => none
/-- lists and tuples, no row of numbers of the script -/
def asMT (S : Sto) : D → Option (List D)
  | .tup ds => some ds
  | d => asM S d
/-- lists and tuples -/
def asQ (S : Sto) : D → Option (List D)
  | .tup ds => some ds
  | d => asL S d
def asD (S : Sto) : D → Option (List Key × List D)
  | .dct ks ds => some (ks, ds)
  | .loc n => match S[n]? with
    | some (.dct ks ds) => some (ks, ds)
    | _ => none
  | _ => none

def keyOf : D → Option Key
  | .int i => some (.inl i)
  | .str s => some (.inr s)
  | _ => none
def ofKey : Key → D
  | .inl i => .int i
  | .inr s => .str s

/-- the value at a key -/
def dget : List Key → List D → Key → Option D
  | k :: ks, d :: ds, j => if k = j then some d else dget ks ds j
  | _, _, _ => none
/-- a value put at a key -/
def dset : List Key → List D → Key → D → List D
  | k :: ks, d :: ds, j, x => (if k = j then x else d) :: dset ks ds j x
  | _, _, _, _ => []
def dput (ks : List Key) (ds : List D) (j : Key) (x : D) : List Key × List D :=
  if (ks.any fun k => decide (k = j)) = true then (ks, dset ks ds j x) else (ks ++ [j], ds ++ [x])
def dmerge : List Key → List D → List Key → List D → List Key × List D
  | ks, ds, k :: js, d :: es => let r := dput ks ds k d; dmerge r.1 r.2 js es
  | ks, ds, _, _ => (ks, ds)

/-! keys that are tuples, nested -/
mutual
def nkey : D → Option NestedKey
  | .int i => some (.num i)
  | .str s => some (.text s)
  | .tup ds => (nkeys ds).map NestedKey.tup
  | _ => none
def nkeys : List D → Option (List NestedKey)
  | [] => some []
  | d :: r => (nkey d).bind fun k => (nkeys r).map (k :: ·)
end
def nkeyT : D → Option NestedKey
  | .tup ds => (nkeys ds).bind fun ks => if decide ((NestedKey.tup ks).depth ≤ 8) = true then some (.tup ks) else none
  | _ => none
def dgetN : List NestedKey → List D → NestedKey → Option D
  | k :: ks, d :: ds, j => if k = j then some d else dgetN ks ds j
  | _, _, _ => none
def dsetN : List NestedKey → List D → NestedKey → D → List D
  | k :: ks, d :: ds, j, x => (if k = j then x else d) :: dsetN ks ds j x
  | _, _, _, _ => []
def dputN (ks : List NestedKey) (ds : List D) (j : NestedKey) (x : D) : List NestedKey × List D :=
  if (ks.any fun k => decide (k = j)) = true then (ks, dsetN ks ds j x) else (ks ++ [j], ds ++ [x])
def dmergeN : List NestedKey → List D → List NestedKey → List D → List NestedKey × List D
  | ks, ds, k :: js, d :: es => dmergeN (dputN ks ds k d).1 (dputN ks ds k d).2 js es
  | ks, ds, _, _ => (ks, ds)
/-- the store's dict with such keys; the empty dict is one, too -/
def asN (S : Sto) : D → Option (List NestedKey × List D)
  | .loc n => match S[n]? with
    | some (.dcn ks ds) => some (ks, ds)
    | some (.dct [] []) => some ([], [])
    | _ => none
  | _ => none

def truth (S : Sto) : D → Option Bool
  | .non => some false
  | .bl b => some b
  | .int i => some (i != 0)
  | .str s => if fits s.length then some (s.length != 0) else none
  | .tup ds => some (!ds.isEmpty)
  | .lst ds => some (!ds.isEmpty)
  | .scr ns => some (!ns.isEmpty)
  | .dct ks _ => some (!ks.isEmpty)
  | .loc n => match S[n]? with
    | some (.lst ds) => some (!ds.isEmpty)
    | some (.dct ks _) => some (!ks.isEmpty)
    | _ => none

/-- a new list: it never changes, or it is laid in the store -/
def mkL (m : Bool) (ds : List D) (S : Sto) : R D := if m then .ok (.loc S.length) (S ++ [.lst ds]) else .ok (.lst ds) S
def mkD (m : Bool) (ks : List Key) (ds : List D) (S : Sto) : R D := if m then .ok (.loc S.length) (S ++ [.dct ks ds]) else .ok (.dct ks ds) S

def rep {α : Type} (n : Nat) (xs : List α) : List α := (List.replicate n xs).flatten
def small (i : Int) : Bool := decide (-18446744073709551616 < i) && decide (i < 18446744073709551616)

def binop (o : BOp) (m : Bool) (x y : D) (S : Sto) : R D :=
  match o, x, y with
  | .add, .int i, .int j => .ok (.int (i + j)) S
  | .add, .str a, .str b => if fits (a.length + b.length) then .ok (.str (a ++ b)) S else .no
  | .add, .tup a, .tup b => if fits (a.length + b.length) then .ok (.tup (a ++ b)) S else .no
  | .add, x, y => match asM S x, asM S y with
    | some a, some b => if fits (a.length + b.length) then mkL m (a ++ b) S else .no
    | _, _ => .no
  | .sub, .int i, .int j => .ok (.int (i - j)) S
  | .mul, .int i, .int j => if small i || small j then .ok (.int (i * j)) S else .no
  | .mul, .str a, .int k => if decide (a.length ≤ 1000) && (decide (-1000 ≤ k) && decide (k ≤ 1000)) then .ok (.str (PySem.Txt.mul a k)) S else .no
  | .mul, .tup a, .int k => if decide (a.length ≤ 1000) && (decide (0 ≤ k) && decide (k ≤ 1000)) then .ok (.tup (rep k.toNat a)) S else .no
  | .mul, x, .int k => match asM S x with
    | some a => if decide (a.length ≤ 1000) && (decide (-1000 ≤ k) && decide (k ≤ 1000)) then mkL m (rep k.toNat a) S else .no
    | none => .no
  | .mod, .int i, .int j => if decide (0 < j) then .ok (.int (i % j)) S else .no
  | .fdiv, .int i, .int j => if decide (0 < j) && decide (j < 1073741824) then .ok (.int (i / j)) S else .no
  | _, _, _ => .no

/-- == of data: none where a changing thing is met -/
def flat : D → Bool
  | .non => true | .bl _ => true | .int _ => true | .str _ => true
  | _ => false
def b2i (b : Bool) : Int := if b then 1 else 0
mutual
def eqv : D → D → Bool
  | .non, .non => true
  | .bl a, .bl b => a == b
  | .bl a, .int j => decide (b2i a = j)
  | .int i, .bl b => decide (i = b2i b)
  | .int i, .int j => decide (i = j)
  | .str a, .str b => decide (a = b)
  | .tup a, .tup b => eqvs a b
  | .lst a, .lst b => eqvs a b
  | _, _ => false
def eqvs : List D → List D → Bool
  | [], [] => true
  | a :: x, b :: y => eqv a b && eqvs x y
  | _, _ => false
end
mutual
/-- plain data at most so deep -/
def D.deep : Nat → D → Bool
  | _, .non => true
  | _, .bl _ => true
  | _, .int _ => true
  | _, .str s => s.cps.all (· < 1114112)
  | n + 1, .tup ds => deeps n ds
  | n + 1, .lst ds => deeps n ds
  | _, _ => false
def deeps : Nat → List D → Bool
  | _, [] => true
  | n, d :: r => D.deep n d && deeps n r
end
/-- what is looked at when two are compared: a list of the store as it stands -/
def look (S : Sto) : D → D
  | .loc n => match S[n]? with
    | some (.lst ds) => .lst ds
    | _ => .loc n
  | d => d

/-- two things that may be compared; one and a row -/
def eqOk (x y : D) : Bool := (flat x && flat y) || (D.deep 50 x && D.deep 50 y)
def inOk (x : D) (ds : List D) : Bool := (flat x && ds.all flat) || (D.deep 50 x && deeps 50 ds)

def substr (a b : Str) : Bool := !(Builtin.Str.occurrences b a 0 b.length 1).isEmpty

def cmpop (o : COp) (x y : D) (S : Sto) : R D :=
  match o with
  | .eq => if eqOk (look S x) (look S y) then .ok (.bl (eqv (look S x) (look S y))) S else .no
  | .ne => if eqOk (look S x) (look S y) then .ok (.bl (!eqv (look S x) (look S y))) S else .no
  | .lt => match x, y with
    | .int i, .int j => .ok (.bl (decide (i < j))) S
    | _, _ => .no
  | .le => match x, y with
    | .int i, .int j => .ok (.bl (decide (i ≤ j))) S
    | _, _ => .no
  | .gt => match x, y with
    | .int i, .int j => .ok (.bl (decide (j < i))) S
    | _, _ => .no
  | .ge => match x, y with
    | .int i, .int j => .ok (.bl (decide (j ≤ i))) S
    | _, _ => .no
  | .is => match x, y with
    | x, .non => .ok (.bl (match x with | .non => true | _ => false)) S
    | .bl a, .bl b => .ok (.bl (a == b)) S
    | _, _ => .no
  | .isn => match x, y with
    | x, .non => .ok (.bl (match x with | .non => false | _ => true)) S
    | .bl a, .bl b => .ok (.bl (!(a == b))) S
    | _, _ => .no
  | .isin => match x, y with
    | .str a, .str b => .ok (.bl (substr a b)) S
    | x, y => match asD S y with
      | some (ks, ds) => match keyOf x with
        | some k => .ok (.bl (dget ks ds k).isSome) S
        | none => .no
      | none => match asQ S y with
        | some ds => if inOk x ds then .ok (.bl (ds.any fun z => eqv z x)) S else .no
        | none => .no
  | .nin => match x, y with
    | .str a, .str b => .ok (.bl (!substr a b)) S
    | x, y => match asD S y with
      | some (ks, ds) => match keyOf x with
        | some k => .ok (.bl (!(dget ks ds k).isSome)) S
        | none => .no
      | none => match asQ S y with
        | some ds => if inOk x ds then .ok (.bl (!ds.any fun z => eqv z x)) S else .no
        | none => .no

/-- the kind of a thing; none: unknown -/
def kind (S : Sto) : D → Option Ty
  | .bl _ => some .bool
  | .int _ => some .int
  | .str _ => some .str
  | .tup _ => some .tuple
  | .lst _ => some .list
  | .dct _ _ => some .dict
  | .loc n => match S[n]? with
    | some (.lst _) => some .list
    | some (.dct _ _) => some .dict
    | _ => none
  | _ => none
def isi (S : Sto) (d : D) (t : Ty) : Option Bool :=
  match d with
  | .non => some false
  | d => match kind S d with
    | some k => some (decide (k = t) || (decide (k = .bool) && decide (t = .int)))
    | none => none

def ixN (n : Nat) (i : Int) : Option Nat := if 0 ≤ i then (if i < n then some i.toNat else none) else if -(n : Int) ≤ i then some (i + n).toNat else none
def at_ {α : Type} (xs : List α) (i : Int) : Option α := (ixN xs.length i).bind fun j => xs[j]?
def subs (x y : D) (S : Sto) : R D :=
  match asD S x with
  | some (ks, ds) => match keyOf y with
    | some k => R.of S (dget ks ds k)
    | none => .no
  | none => match y with
    | .int i => match x with
      | .str s => if fits s.length then R.of S ((at_ s.cps.toList i).map fun c => D.str ⟨#[c]⟩) else .no
      | x => match asQ S x with
        | some ds => R.of S (at_ ds i)
        | none => .no
    | _ => .no

def sIx (n d : Nat) : Option Int → Nat
  | none => d
  | some i => if i < 0 then (i + (n : Int)).toNat else min i.toNat n
def cut {α : Type} (xs : List α) (lo hi : Option Int) : List α := (xs.drop (sIx xs.length 0 lo)).take (sIx xs.length xs.length hi - sIx xs.length 0 lo)
def slice (x : D) (lo hi : Option Int) (S : Sto) : R D :=
  match x with
  | .tup ds => .ok (.tup (cut ds lo hi)) S
  | x => match asM S x with
    | some ds => .ok (.lst (cut ds lo hi)) S
    | none => .no

/-- a slice of a list, laid in the store -/
def sliceM (x : D) (lo hi : Option Int) (S : Sto) : R D := orNo (asM S x) fun ds => mkL true (cut ds lo hi) S
/-- the items of a row of bools, ints, texts -/
def boolsOf : List D → Option (List Bool)
  | [] => some []
  | .bl b :: r => (boolsOf r).map (b :: ·)
  | _ => none
def intsOf : List D → Option (List Int)
  | [] => some []
  | .int b :: r => (intsOf r).map (b :: ·)
  | _ => none
def strsOf : List D → Option (List Str)
  | [] => some []
  | .str b :: r => (strsOf r).map (b :: ·)
  | _ => none
/-- pairs of a key and a thing -/
def prs : List D → Option (List Key × List D)
  | [] => some ([], [])
  | .tup [a, b] :: r => match keyOf a, prs r with
    | some k, some (ks, ds) => some (k :: ks, b :: ds)
    | _, _ => none
  | _ => none

def nprs : List D → Option (List NestedKey × List D)
  | [] => some ([], [])
  | .tup [a, b] :: r => match nkeyT a, nprs r with
    | some k, some (ks, ds) => some (k :: ks, b :: ds)
    | _, _ => none
  | _ => none
def slt (a b : Str) : Bool := decide (a.cps.toList < b.cps.toList)
def ins1 (a : Str) : List Str → List Str
  | [] => [a]
  | b :: r => if slt b a then b :: ins1 a r else a :: b :: r
def sortS : List Str → List Str
  | [] => []
  | a :: r => ins1 a (sortS r)
/-- tuples of texts: less, in order -/
def ltT : List Str → List Str → Bool
  | [], [] => false
  | [], _ :: _ => true
  | _ :: _, [] => false
  | a :: x, b :: y => slt a b || (decide (a = b) && ltT x y)
def insT (a : List Str) : List (List Str) → List (List Str)
  | [] => [a]
  | b :: r => if ltT b a then b :: insT a r else a :: b :: r
def sortT : List (List Str) → List (List Str)
  | [] => []
  | a :: r => insT a (sortT r)
def tsD (t : List Str) : D := .tup (t.map D.str)
def tupsOf : List D → Option (List (List Str))
  | [] => some []
  | .tup ds :: r => (strsOf ds).bind fun t => (tupsOf r).map (t :: ·)
  | _ => none
def ntxt : List NestedKey → Option (List Str)
  | [] => some []
  | .text s :: r => (ntxt r).map (s :: ·)
  | _ => none
def ntups : List NestedKey → Option (List (List Str))
  | [] => some []
  | .tup ks :: r => (ntxt ks).bind fun t => (ntups r).map (t :: ·)
  | _ => none
/-- rows of tuples of texts: a list's, a dict's keys -/
def tupsAt (S : Sto) (x : D) : Option (List (List Str)) :=
  match asM S x with
  | some ds => tupsOf ds
  | none => (asN S x).bind fun p => ntups p.1
def insI (a : Int) : List Int → List Int
  | [] => [a]
  | b :: r => if b < a then b :: insI a r else a :: b :: r
def sortI : List Int → List Int
  | [] => []
  | a :: r => insI a (sortI r)
def maxL : List Int → Int
  | [] => 0
  | [a] => a
  | a :: r => if maxL r > a then maxL r else a
def minL : List Int → Int
  | [] => 0
  | [a] => a
  | a :: r => if minL r < a then minL r else a

def b1 (b : B1) (m : Bool) (x : D) (S : Sto) : R D :=
  match b with
  | .len => match x with
    | .str s => if fits s.length then .ok (.int s.length) S else .no
    | x => match asQ S x with
      | some ds => .ok (.int ds.length) S
      | none => match asD S x with
        | some p => .ok (.int p.1.length) S
        | none => orNo (asN S x) fun p => .ok (.int p.1.length) S
  | .tuple => orNo (asQ S x) fun ds => .ok (.tup ds) S
  | .list => orNo (asQ S x) fun ds => mkL m ds S
  | .dict => orNo ((asM S x).bind prs) fun p => mkD m (dmerge [] [] p.1 p.2).1 (dmerge [] [] p.1 p.2).2 S
  | .all => orNo ((asM S x).bind boolsOf) fun bs => .ok (.bl (bs.all id)) S
  | .any => orNo ((asM S x).bind boolsOf) fun bs => .ok (.bl (bs.any id)) S
  | .int => match x with
    | .int i => .ok (.int i) S
    | .bl b => .ok (.int (b2i b)) S
    | .str s => if decide (s.length ≤ 640) = true then R.of S ((PySem.intText? s).map D.int) else .no
    | _ => .no
  | .sorted => match asD S x with
    | some (ks, _) => orNo (strsOf (ks.map ofKey)) fun ss => if decide (ss.length < 64) = true then mkL m ((sortS ss).map D.str) S else .no
    | none => match (asM S x).bind strsOf with
      | some ss => if decide (ss.length < 64) = true then mkL m ((sortS ss).map D.str) S else .no
      | none => match (asM S x).bind intsOf with
        | some ns => if decide (ns.length < 64) = true then mkL m ((sortI ns).map D.int) S else .no
        | none => orNo (tupsAt S x) fun ts => if (decide (ts.length < 64) && ts.all fun t => !t.isEmpty) = true then mkL m ((sortT ts).map tsD) S else .no
  | .max => orNo ((asM S x).bind intsOf) fun ns => if decide (0 < ns.length) = true then .ok (.int (maxL ns)) S else .no
  | .min => orNo ((asM S x).bind intsOf) fun ns => if decide (0 < ns.length) = true then .ok (.int (minL ns)) S else .no
  | .sum => orNo ((asMT S x).bind intsOf) fun ns => .ok (.int ns.sum) S
  | .str => match x with
    | .int i => if decide (i.natAbs < 1000000000000) = true then .ok (.str (Str.ofString (ToString.toString i))) S else .no
    | .str s => .ok (.str s) S
    | _ => .no

/-! ### env -/
def evset (e : Ev) : Tg → D → Sto → R Ev
  | .one i, d, S => .ok (e.set i (some d)) S
  | .many is, d, S => match d with
    | .tup ds => if ds.length == is.length then .ok ((is.zip ds).foldl (fun e p => e.set p.1 (some p.2)) e) S else .no
    | _ => .no
def wipe (e : Ev) : List Nat → Ev
  | [] => e
  | v :: vs => (wipe e vs).set v none

/-- the store's list -/
def lstAt (S : Sto) : D → Option (Nat × List D)
  | .loc n => match S[n]? with
    | some (.lst ds) => some (n, ds)
    | _ => none
  | _ => none
/-- what is walked: a row of things that stays, or a list of the store -/
inductive W where | row (ds : List D) | loc (n : Nat)
def walk (ik : IK) (ds : List D) (S : Sto) : R W :=
  match ik, ds with
  | .seq, [.str s] => if fits s.length then .ok (.row (s.cps.toList.map fun c => D.str ⟨#[c]⟩)) S else .no
  | .seq, [.loc n] => orNo (lstAt S (.loc n)) fun _ => .ok (.loc n) S
  | .seq, [.tup ds] => .ok (.row ds) S
  | .seq, [.lst ds] => .ok (.row ds) S
  | .range1, [.int n] => if fits n.toNat && decide (-4611686018427387904 ≤ n) then .ok (.row ((List.range n.toNat).map fun (i : Nat) => D.int (0 + i))) S else .no
  | .range2, [.int a, .int b] => if (fits (b - a).toNat && (decide (-4611686018427387904 ≤ a) && decide (a < 4611686018427387904))) && (decide (-4611686018427387904 ≤ b) && decide (b < 4611686018427387904)) then .ok (.row ((List.range (b - a).toNat).map fun (i : Nat) => D.int (a + i))) S else .no
  | .zip, [.tup a, .tup b] => .ok (.row ((a.zip b).map fun p => D.tup [p.1, p.2])) S
  | .zip, [.lst a, .lst b] => .ok (.row ((a.zip b).map fun p => D.tup [p.1, p.2])) S
  | .enum, [.tup a] => .ok (.row (a.zipIdx.map fun p => D.tup [.int (p.2 : Nat), p.1])) S
  | .enum, [.lst a] => .ok (.row (a.zipIdx.map fun p => D.tup [.int (p.2 : Nat), p.1])) S
  | _, _ => .no

/-! ### the run -/
/-- each item: nothing (a test fails), or one thing more -/
def compRow (f : D → Sto → R (List D)) : List D → Sto → R (List D)
  | [], S => .ok [] S
  | d :: r, S => (f d S).bind fun a S => (compRow f r S).bind fun b S => .ok (a ++ b) S
def compLoc (f : D → Sto → R (List D)) (n : Nat) : Nat → Nat → Sto → R (List D)
  | 0, _, _ => .no
  | w + 1, i, S => match S[n]? with
    | some (.lst ds) => match ds[i]? with
      | some d => (f d S).bind fun a S => (compLoc f n w (i + 1) S).bind fun b S => .ok (a ++ b) S
      | none => .ok [] S
    | _ => .no
def compW (f : D → Sto → R (List D)) (w : W) (wf : Nat) (S : Sto) : R (List D) :=
  match w with
  | .row ds => compRow f ds S
  | .loc n => compLoc f n wf 0 S
def forRow (f : D → Ev → Sto → RS) : List D → Ev → Sto → RS
  | [], e, S => .nx e S
  | d :: r, e, S => match f d e S with
    | .nx e S => forRow f r e S
    | .ct e S => forRow f r e S
    | x => x
def forLoc (f : D → Ev → Sto → RS) (n : Nat) : Nat → Nat → Ev → Sto → RS
  | 0, _, _, _ => .no
  | w + 1, i, e, S => match S[n]? with
    | some (.lst ds) => match ds[i]? with
      | some d => match f d e S with
        | .nx e S => forLoc f n w (i + 1) e S
        | .ct e S => forLoc f n w (i + 1) e S
        | x => x
      | none => .nx e S
    | _ => .no
def whl (c : Ev → Sto → R Bool) (f : Ev → Sto → RS) : Nat → Ev → Sto → RS
  | 0, _, _ => .no
  | w + 1, e, S => match c e S with
    | .ok true S => match f e S with
      | .nx e S => whl c f w e S
      | .ct e S => whl c f w e S
      | x => x
    | .ok false S => .nx e S
    | .ex c S => .ex c e S
    | .no => .no

/-- what calls do: a def by its number; a class's making -/
structure Cal where
  fn : Nat → List D → Sto → R D
  mak : Nat → List D → Sto → R D
  wf : Nat

def fdget : List Str → List D → Str → Option D
  | f :: fs, d :: ds, g => if f = g then some d else fdget fs ds g
  | _, _, _ => none
def fdput : List Str → List D → Str → D → List Str × List D
  | f :: fs, d :: ds, g, x => if f = g then (f :: fs, x :: ds) else
      let r := fdput fs ds g x
      (f :: r.1, d :: r.2)
  | _, _, g, x => ([g], [x])

def strip1 (S : Sto) (d : D) : R D :=
  match d with
  | .loc n => match S[n]? with
    | some (.lst ds) => .ok (.lst ds) (S.set n .ded)
    | some (.dct ks ds) => .ok (.dct ks ds) (S.set n .ded)
    | _ => .no
  | d => .ok d S

/-- parts of things -/
def D.int? : D → Option Int
  | .int i => some i
  | _ => none
def D.str? : D → Option Str
  | .str i => some i
  | _ => none
def D.bl? : D → Option Bool
  | .bl i => some i
  | _ => none
def D.tup? : D → Option (List D)
  | .tup i => some i
  | _ => none
def D.dct? : D → Option (List Key × List D)
  | .dct ks ds => some (ks, ds)
  | _ => none
/-- the store's dict, instance -/
def dctAt (S : Sto) : D → Option (Nat × List Key × List D)
  | .loc n => match S[n]? with
    | some (.dct ks ds) => some (n, ks, ds)
    | _ => none
  | _ => none
def insAt (S : Sto) : D → Option (Nat × Nat × List Str × List D)
  | .loc n => match S[n]? with
    | some (.ins c fs ds) => some (n, c, fs, ds)
    | _ => none
  | _ => none
def W.row? : W → Option (List D)
  | .row ds => some ds
  | _ => none
/-- a text of an int or a text -/
def textOf : D → Option Str
  | .str y => if fits y.length then some y else none
  | .int i => if decide (i.natAbs < 1000000000000) then some (Str.ofString (ToString.toString i)) else none
  | _ => none
/-- the ends of a slice -/
def part : List D → Option (Option Int)
  | [] => some none
  | [.int i] => some (some i)
  | _ => none

/-- k in d, d[k], k a tuple -/
def inK (x y : D) (S : Sto) : R D := orNo (nkeyT x) fun k => orNo (asN S y) fun p => .ok (.bl (dgetN p.1 p.2 k).isSome) S
def sbK (x y : D) (S : Sto) : R D := orNo (nkeyT y) fun k => orNo (asN S x) fun p => orNo (dgetN p.1 p.2 k) fun d => .ok d S
mutual
def ev (K : Cal) : E → Ev → Sto → R D
  | .var i, e, S => orNo (e[i]?.bind id) fun d => .ok d S
  | .glo _ d, _, S => .ok d S
  | .int i, _, S => .ok (.int i) S
  | .bl b, _, S => .ok (.bl b) S
  | .non, _, S => .ok .non S
  | .str s, _, S => .ok (.str s) S
  | .bin o m a b, e, S => (ev K a e S).bind fun x S => (ev K b e S).bind fun y S => binop o m x y S
  | .neg a, e, S => (ev K a e S).bind fun x S => orNo x.int? fun i => .ok (.int (-i)) S
  | .not a, e, S => (ev K a e S).bind fun x S => orNo (truth S x) fun b => .ok (.bl (!b)) S
  | .and es, e, S => evAnd K es e S
  | .or es, e, S => evOr K es e S
  | .ite c a b, e, S => (ev K c e S).bind fun x S => orNo (truth S x) fun t => if t = true then ev K a e S else ev K b e S
  | .cmp o a b, e, S => (ev K a e S).bind fun x S => (ev K b e S).bind fun y S => cmpop o x y S
  | .chain o o' a b c, e, S => (ev K a e S).bind fun x S => (ev K b e S).bind fun y S => (cmpop o x y S).bind fun z S => orNo z.bl? fun t =>
    if t = true then (ev K c e S).bind fun w S => cmpop o' y w S else .ok (.bl false) S
  | .call f as, e, S => (evs K as e S).bind fun vs S => K.fn f vs S
  | .make c as, e, S => (evs K as e S).bind fun vs S => K.mak c vs S
  | .meth f c m a as, e, S => (ev K a e S).bind fun x S => orNo (insAt S x) fun p => if (p.2.1 == c && !p.2.2.1.contains m) = true then (evs K as e S).bind fun vs S => K.fn f (x :: vs) S else .no
  | .isi a t, e, S => (ev K a e S).bind fun x S => orNo (isi S x t) fun b => .ok (.bl b) S
  | .b1 b m a, e, S => (ev K a e S).bind fun x S => b1 b m x S
  | .max2 a b, e, S => (ev K a e S).bind fun x S => (ev K b e S).bind fun y S => orNo x.int? fun i => orNo y.int? fun j => .ok (.int (if j > i then j else i)) S
  | .min2 a b, e, S => (ev K a e S).bind fun x S => (ev K b e S).bind fun y S => orNo x.int? fun i => orNo y.int? fun j => .ok (.int (if j < i then j else i)) S
  | .lenset a, e, S => (ev K a e S).bind fun x S => orNo (x.tup?.bind strsOf) fun ss => if decide (ss.length < 64) = true then .ok (.int ss.eraseDups.length) S else .no
  | .sortset a, e, S => (ev K a e S).bind fun x S => orNo (x.tup?.bind strsOf) fun ss => if decide (ss.length < 4000 ∧ ss.eraseDups.length < 64) = true then .ok (.lst ((sortS ss.eraseDups).map D.str)) S else .no
  | .dictzip m a b, e, S => (ev K a e S).bind fun x S => (ev K b e S).bind fun y S => orNo ((asQ S x).bind strsOf) fun xs => orNo (asQ S y) fun ys =>
    if decide (xs.length ≤ 1000 ∧ ys.length ≤ 1000) = true then mkD m (dmerge [] [] ((xs.map Sum.inr).take ys.length) (ys.take xs.length)).1 (dmerge [] [] ((xs.map Sum.inr).take ys.length) (ys.take xs.length)).2 S else .no
  | .append a b, e, S => (ev K a e S).bind fun x S => orNo (lstAt S x) fun _ => (ev K b e S).bind fun y S => orNo (lstAt S x) fun p => if fits (p.2.length + 1) = true then .ok .non (S.set p.1 (.lst (p.2 ++ [y]))) else .no
  | .extend a b, e, S => (ev K a e S).bind fun x S => orNo (lstAt S x) fun _ => (ev K b e S).bind fun y S => orNo (lstAt S x) fun p => orNo (asMT S y) fun zs =>
    if fits (p.2.length + zs.length) = true then .ok .non (S.set p.1 (.lst (p.2 ++ zs))) else .no
  | .pop a, e, S => (ev K a e S).bind fun x S => orNo (lstAt S x) fun p => orNo p.2.getLast? fun y => .ok y (S.set p.1 (.lst p.2.dropLast))
  | .get1 a b, e, S => (ev K a e S).bind fun x S => orNo (asD S x) fun _ => (ev K b e S).bind fun y S => orNo (asD S x) fun p => orNo (keyOf y) fun k => .ok ((dget p.1 p.2 k).getD .non) S
  | .get2 a b c, e, S => (ev K a e S).bind fun x S => orNo (asD S x) fun _ => (ev K b e S).bind fun y S => (ev K c e S).bind fun z S => orNo (asD S x) fun p => orNo (keyOf y) fun k => .ok ((dget p.1 p.2 k).getD z) S
  | .join a b, e, S => (ev K a e S).bind fun x S => orNo x.str? fun a => (ev K b e S).bind fun y S => orNo ((asM S y).bind strsOf) fun ys =>
    if fits ((ys.map (·.length)).sum + ys.length * a.length) = true then .ok (.str (PySem.Txt.join a ys)) S else .no
  | .split a b, e, S => (ev K a e S).bind fun x S => orNo x.str? fun a => (ev K b e S).bind fun y S => orNo y.str? fun b =>
    if (!(b.length == 0) && fits (a.length + 2)) = true then .ok (.lst ((PySem.Txt.split a b).map D.str)) S else .no
  | .index a b, e, S => (ev K a e S).bind fun x S => orNo (asL S x) fun _ => (ev K b e S).bind fun y S => orNo ((asL S x).bind strsOf) fun ss => orNo y.str? fun z =>
    if ss.contains z = true then .ok (.int (ss.idxOf z)) S else .no
  | .count a b, e, S => (ev K a e S).bind fun x S => orNo (asL S x) fun _ => (ev K b e S).bind fun y S => orNo (asL S x) fun ds => if (flat y && ds.all flat) = true then .ok (.int (ds.countP fun z => eqv z y)) S else .no
  | .update a b, e, S => (ev K a e S).bind fun x S => orNo (dctAt S x) fun _ => (ev K b e S).bind fun y S => orNo (dctAt S x) fun p => orNo y.dct? fun q =>
    if fits (p.2.1.length + q.1.length) = true then .ok .non (S.set p.1 (.dct (dmerge p.2.1 p.2.2 q.1 q.2).1 (dmerge p.2.1 p.2.2 q.1 q.2).2)) else .no
  | .gsub ks ds b, e, S => (ev K b e S).bind fun y S => orNo y.str? fun s => orNo (dget ks ds (.inr s)) fun d => .ok d S
  | .pop0 a, e, S => (ev K a e S).bind fun x S => orNo (lstAt S x) fun p => orNo p.2.head? fun y => .ok y (S.set p.1 (.lst p.2.tail))
  | .attr a f, e, S => (ev K a e S).bind fun x S => orNo (insAt S x) fun p => orNo (fdget p.2.2.1 p.2.2.2 f) fun d => .ok d S
  | .sub a b, e, S => (ev K a e S).bind fun x S => (ev K b e S).bind fun y S => subs x y S
  | .sl a lo hi, e, S => (ev K a e S).bind fun x S => (evs K lo e S).bind fun l S => orNo (part l) fun i => (evs K hi e S).bind fun h S => orNo (part h) fun j => slice x i j S
  | .slm a lo hi, e, S => (ev K a e S).bind fun x S => (evs K lo e S).bind fun l S => orNo (part l) fun i => (evs K hi e S).bind fun h S => orNo (part h) fun j => sliceM x i j S
  | .rev a, e, S => (ev K a e S).bind fun x S => match x with
    | .tup ds => .ok (.tup ds.reverse) S
    | x => orNo (asM S x) fun ds => .ok (.lst ds.reverse) S
  | .tup es, e, S => (evs K es e S).bind fun vs S => if fits vs.length = true then .ok (.tup vs) S else .no
  | .lst m es, e, S => (evs K es e S).bind fun vs S => if fits vs.length = true then mkL m vs S else .no
  | .dct m kvs, e, S => (evPairs K kvs e S).bind fun p S => if decide (p.1.length ≤ 15) = true then let r := dmerge [] [] p.1 p.2; mkD m r.1 r.2 S else .no
  | .comp m elt tg ik its cond own, e, S => (evs K its e S).bind fun ds S => (walk ik ds S).bind fun w S =>
    (compW (fun d S => (evset (wipe e own) tg d S).bind fun e S => (evAnd K cond e S).bind fun b S => orNo (truth S b) fun t =>
      if t = true then (ev K elt e S).bind fun x S => .ok [x] S else .ok [] S) w K.wf S).bind fun xs S => if fits xs.length = true then mkL m xs S else .no
  | .fstr es, e, S => (evFs K es Str.empty e S).bind fun s S => .ok (.str s) S
  | .frz a, e, S => (ev K a e S).bind fun x S => strip1 S x
  | .ink a b, e, S => (ev K a e S).bind fun x S => (ev K b e S).bind fun y S => inK x y S
  | .sbk a b, e, S => (ev K a e S).bind fun x S => (ev K b e S).bind fun y S => sbK x y S
  | .tidx a b, e, S => (ev K a e S).bind fun x S => orNo x.tup? fun _ => (ev K b e S).bind fun y S => orNo (x.tup?.bind strsOf) fun ss => orNo y.str? fun z =>
    if ss.contains z = true then .ok (.int (ss.idxOf z)) S else .no
  | .dpk a, e, S => (ev K a e S).bind fun x S => orNo ((asM S x).bind nprs) fun p => .ok (.loc S.length) (S ++ [.dcn (dmergeN [] [] p.1 p.2).1 (dmergeN [] [] p.1 p.2).2])
def evs (K : Cal) : List E → Ev → Sto → R (List D)
  | [], _, S => .ok [] S
  | a :: r, e, S => (ev K a e S).bind fun x S => (evs K r e S).bind fun xs S => .ok (x :: xs) S
def evAnd (K : Cal) : List E → Ev → Sto → R D
  | [], _, S => .ok (.bl true) S
  | [a], e, S => ev K a e S
  | a :: b :: r, e, S => (ev K a e S).bind fun x S => orNo (truth S x) fun t => if t = true then evAnd K (b :: r) e S else .ok x S
def evOr (K : Cal) : List E → Ev → Sto → R D
  | [], _, S => .ok (.bl false) S
  | [a], e, S => ev K a e S
  | a :: b :: r, e, S => (ev K a e S).bind fun x S => orNo (truth S x) fun t => if t = true then .ok x S else evOr K (b :: r) e S
def evPairs (K : Cal) : List E → Ev → Sto → R (List Key × List D)
  | [], _, S => .ok ([], []) S
  | [_], _, _ => .no
  | a :: b :: r, e, S => (ev K a e S).bind fun x S => (ev K b e S).bind fun y S => (evPairs K r e S).bind fun p S => orNo (keyOf x) fun k => .ok (k :: p.1, y :: p.2) S
def evFs (K : Cal) : List E → Str → Ev → Sto → R Str
  | [], acc, _, S => .ok acc S
  | a :: r, acc, e, S => (ev K a e S).bind fun x S => orNo (textOf x) fun y => if fits (acc.length + y.length) = true then evFs K r (acc ++ y) e S else .no
end

def RS.bind (e : Ev) {α : Type} (r : R α) (f : α → Sto → RS) : RS :=
  match r with
  | .ok d S => f d S
  | .ex c S => .ex c e S
  | .no => .no
def orNoS {α : Type} : Option α → (α → RS) → RS
  | some a, f => f a
  | none, _ => .no
def forW (f : D → Ev → Sto → RS) (w : W) (wf : Nat) (e : Ev) (S : Sto) : RS :=
  match w with
  | .row ds => forRow f ds e S
  | .loc n => forLoc f n wf 0 e S
def RS.next (r : RS) (f : Ev → Sto → RS) : RS :=
  match r with
  | .nx e S => f e S
  | x => x
def RS.catch (r : RS) (c : Nat) (f : Ev → Sto → RS) : RS :=
  match r with
  | .ex c' e S => if (c == c') = true then f e S else .no
  | x => x
/-- o[i] = d -/
def setSub (x y d : D) (e : Ev) (S : Sto) : RS :=
  match x with
  | .loc n => match S[n]? with
    | some (.dct ks ds) => orNoS (keyOf y) fun k => if fits (ks.length + 1) = true then .nx e (S.set n (.dct (dput ks ds k d).1 (dput ks ds k d).2)) else .no
    | some (.lst ds) => orNoS y.int? fun i => orNoS (ixN ds.length i) fun j => .nx e (S.set n (.lst (ds.set j d)))
    | _ => .no
  | _ => .no

/-- o[k] = d, k a tuple -/
def setSubK (x y d : D) (e : Ev) (S : Sto) : RS :=
  orNoS (nkeyT y) fun k => orNoS (asN S x) fun p => if fits (p.1.length + 1) = true then (match x with
    | .loc n => .nx e (S.set n (.dcn (dputN p.1 p.2 k d).1 (dputN p.1 p.2 k d).2))
    | _ => .no) else .no

mutual
def ex (K : Cal) : S → Ev → Sto → RS
  | .expr a, e, S => RS.bind e (ev K a e S) fun _ S => .nx e S
  | .set tg a, e, S => RS.bind e (ev K a e S) fun d S => RS.bind e (evset e tg d S) fun e S => .nx e S
  | .par is as, e, S => RS.bind e (evs K as e S) fun ds S => RS.bind e (evset e (.many is) (.tup ds) S) fun e S => .nx e S
  | .attr o f a, e, S => RS.bind e (ev K a e S) fun d S => RS.bind e (ev K o e S) fun x S => orNoS (insAt S x) fun p =>
    if decide (p.2.2.1.length < 1000) = true then .nx e (S.set p.1 (.ins p.2.1 (fdput p.2.2.1 p.2.2.2 f d).1 (fdput p.2.2.1 p.2.2.2 f d).2)) else .no
  | .sub o i a, e, S => RS.bind e (ev K a e S) fun d S => RS.bind e (ev K o e S) fun x S => RS.bind e (ev K i e S) fun y S => setSub x y d e S
  | .sbk o i a, e, S => RS.bind e (ev K a e S) fun d S => RS.bind e (ev K o e S) fun x S => RS.bind e (ev K i e S) fun y S => setSubK x y d e S
  | .ret a, e, S => RS.bind e (ev K a e S) fun d S => .rt d S
  | .ite c a b, e, S => RS.bind e (ev K c e S) fun x S => orNoS (truth S x) fun t => if t = true then exs K a e S else exs K b e S
  | .for tg ik its b, e, S => RS.bind e (evs K its e S) fun ds S => RS.bind e (walk ik ds S) fun w S =>
    forW (fun d e S => RS.bind e (evset e tg d S) fun e S => exs K b e S) w K.wf e S
  | .while c b, e, S => whl (fun e S => (ev K c e S).bind fun x S => orNo (truth S x) fun t => .ok t S) (fun e S => exs K b e S) K.wf e S
  | .raise c, e, S => .ex c e S
  | .try b c h, e, S => (exs K b e S).catch c fun e S => exs K h e S
  | .cont, e, S => .ct e S
  | .pass, e, S => .nx e S
def exs (K : Cal) : List S → Ev → Sto → RS
  | [], e, S => .nx e S
  | s :: r, e, S => (ex K s e S).next fun e S => exs K r e S
end

/-- a def: its slots, its body; `own`: what it lays in the store goes when it ends -/
structure Def where
  ps : Nat
  ns : Nat
  body : List S
  own : Bool := false

structure Prg where
  fn : List (Nat × Def)
  cl : List (Nat × Nat)     -- the class's number gives its __init__'s

def endOf (own : Bool) (S0 : Sto) : RS → R D
  | .nx _ S => fin .non S
  | .rt d S => fin d S
  | .ct _ _ => .no
  | .ex c _ S => if own then (if obeqs (S.take S0.length) S0 then .ex c S0 else .no) else .ex c S
  | .no => .no
where fin (d : D) (S : Sto) : R D := if own then (if d.pure && obeqs (S.take S0.length) S0 then .ok d S0 else .no) else .ok d S

def start (n : Nat) (ds : List D) : Ev := ds.map some ++ List.replicate (n - ds.length) none

def cal (P : Prg) (wf : Nat) : Nat → Cal
  | 0 => ⟨fun _ _ _ => .no, fun _ _ _ => .no, wf⟩
  | n + 1 => ⟨fun f ds S => match P.fn.lookup f with
      | some d => if ds.length == d.ps then endOf d.own S (exs (cal P wf n) d.body (start d.ns ds) S) else .no
      | none => .no,
    fun c ds S => match P.cl.lookup c with
      | some f => match (cal P wf n).fn f (.loc S.length :: ds) (S ++ [.ins c [] []]) with
        | .ok .non S' => .ok (.loc S.length) S'
        | .ok _ _ => .no
        | .ex c S' => .ex c S'
        | .no => .no
      | none => .no, wf⟩
end CT

end
section
set_option maxHeartbeats 4000000
/-! callturn proofs, part b: plain data and the layer's values, the store and the layer's heap -/
namespace CT
open PySem PySem.Spec PyProof.Rows L2

/-- where the store's things lie; what never changes; what is held aside -/
structure Gh where
  ρ : List Addr
  Hf : Hp
  fr : Hp

structure Gh.le (g g' : Gh) : Prop where
  ρ : ∃ more, g'.ρ = g.ρ ++ more
  Hf : ∀ a o, g.Hf a = some o → g'.Hf a = some o
  fr : g'.fr = g.fr
theorem Gh.le.refl (g : Gh) : g.le g := ⟨⟨[], by simp⟩, fun _ _ h => h, rfl⟩
theorem Gh.le.trans {a b c : Gh} (h : a.le b) (k : b.le c) : a.le c := by
  obtain ⟨m, e⟩ := h.ρ
  obtain ⟨m', e'⟩ := k.ρ
  exact ⟨⟨m ++ m', by rw [e', e, List.append_assoc]⟩, fun a o z => k.Hf a o (h.Hf a o z), k.fr.trans h.fr⟩
/-- the same but for what is held aside -/
structure Gh.sub (g g' : Gh) : Prop where
  ρ : ∃ more, g'.ρ = g.ρ ++ more
  Hf : ∀ a o, g.Hf a = some o → g'.Hf a = some o
theorem Gh.le.to {g g' : Gh} (h : g.le g') : g.sub g' := ⟨h.ρ, h.Hf⟩
theorem Gh.sub.trans {a b c : Gh} (h : a.sub b) (k : b.sub c) : a.sub c := by
  obtain ⟨m, e⟩ := h.ρ
  obtain ⟨m', e'⟩ := k.ρ
  exact ⟨⟨m ++ m', by rw [e', e, List.append_assoc]⟩, fun a o z => k.Hf a o (h.Hf a o z)⟩
theorem Gh.sub.refl (g : Gh) : g.sub g := ⟨⟨[], by simp⟩, fun _ _ h => h⟩
theorem Gh.sub.at {g g' : Gh} (h : g.sub g') {n : Nat} {a : Addr} (e : g.ρ[n]? = some a) : g'.ρ[n]? = some a := by
  obtain ⟨m, e'⟩ := h.ρ
  rw [e']
  obtain ⟨hl, _⟩ := List.getElem?_eq_some_iff.mp e
  rw [List.getElem?_append_left hl]; exact e
theorem Gh.le.at {g g' : Gh} (h : g.le g') {n : Nat} {a : Addr} (e : g.ρ[n]? = some a) : g'.ρ[n]? = some a := by
  obtain ⟨m, e'⟩ := h.ρ
  rw [e']
  obtain ⟨hl, _⟩ := List.getElem?_eq_some_iff.mp e
  rw [List.getElem?_append_left hl]; exact e

theorem rd_mono {H H' : Hp} (k : ∀ a o, H a = some o → H' a = some o) {a : Addr} {u : HO} (r : Rd H a u) : Rd H' a u := by
  rcases r with r | ⟨o, r⟩
  · exact .inl (k _ _ r)
  · exact .inr ⟨o, k _ _ r⟩
theorem sqT_mono {K : PySem.W.Frag} {H H' : Hp} (k : ∀ a o, H a = some o → H' a = some o) {a : Addr} {xs : List V} (r : SqT K H a xs) : SqT K H' a xs := by
  rcases r with r | r
  · exact .inl (rd_mono k r)
  · exact .inr r
/-- the object there has no dict of its own -/
def NoD (K : PySem.W.Frag) (H : Hp) (a : Addr) : Prop := (∃ o u, H a = some (.frz o u) ∧ o.dict = none) ∨ ∃ o, K.lookup a = some o ∧ o.dict = none
/-- a tuple without a dict of its own -/
def SqN (K : PySem.W.Frag) (H : Hp) (a : Addr) (xs : List V) : Prop := SqT K H a xs ∧ NoD K H a
theorem sqN_mono {K : PySem.W.Frag} {H H' : Hp} (k : ∀ a o, H a = some o → H' a = some o) {a : Addr} {xs : List V} (r : SqN K H a xs) : SqN K H' a xs := by
  refine ⟨sqT_mono k r.1, ?_⟩
  rcases r.2 with ⟨o, u, h, d⟩ | h
  · exact .inl ⟨o, u, k _ _ h, d⟩
  · exact .inr h
theorem sqL_mono {K : PySem.W.Frag} {H H' : Hp} (k : ∀ a o, H a = some o → H' a = some o) {a : Addr} {xs : List V} (r : SqL K H a xs) : SqL K H' a xs := by
  rcases r with r | r
  · exact .inl (rd_mono k r)
  · exact .inr r

section
variable (K : PySem.W.Frag)
mutual
/-- a value of the layer is this datum -/
inductive RD (g : Gh) : V → D → Prop
  | non : RD g .non .non
  | bl (b : Bool) : RD g (.bl b) (.bl b)
  | int (i : Int) : RD g (.int i) (.int i)
  | str (s : Str) : RD g (.str s) (.str s)
  | tup {a : Addr} {xs : List V} {ds : List D} : SqN K g.Hf a xs → xs.length ≤ sizeLine → RDs g xs ds → RD g (.ref a) (.tup ds)
  | lst {a : Addr} {xs : List V} {ds : List D} : g.Hf a = some (.lst xs) → xs.length ≤ sizeLine → RDs g xs ds → RD g (.ref a) (.lst ds)
  | dct {a : Addr} {ks : List Key} {xs : List V} {ds : List D} : g.Hf a = some (.dK (ks.zip xs)) → ks.length = xs.length → RDs g xs ds → RD g (.ref a) (.dct ks ds)
  | loc {a : Addr} {n : Nat} : g.ρ[n]? = some a → RD g (.ref a) (.loc n)
  | scr {a : Addr} {ns : List Int} : SqL K g.Hf a (ns.map V.int) → RD g (.ref a) (.scr ns)
inductive RDs (g : Gh) : List V → List D → Prop
  | nil : RDs g [] []
  | cons {v : V} {d : D} {vs : List V} {ds : List D} : RD g v d → RDs g vs ds → RDs g (v :: vs) (d :: ds)
end
mutual
theorem RD.monoS {g g' : Gh} (h : g.sub g') : ∀ {v : V} {d : D}, RD K g v d → RD K g' v d
  | _, _, .non => .non
  | _, _, .bl b => .bl b
  | _, _, .int i => .int i
  | _, _, .str s => .str s
  | _, _, .tup q l r => .tup (sqN_mono h.Hf q) l (RDs.monoS h r)
  | _, _, .lst q l r => .lst (h.Hf _ _ q) l (RDs.monoS h r)
  | _, _, .dct q l r => .dct (h.Hf _ _ q) l (RDs.monoS h r)
  | _, _, .loc q => .loc (h.at q)
  | _, _, .scr q => .scr (sqL_mono h.Hf q)
theorem RDs.monoS {g g' : Gh} (h : g.sub g') : ∀ {v : List V} {d : List D}, RDs K g v d → RDs K g' v d
  | _, _, .nil => .nil
  | _, _, .cons a b => .cons (RD.monoS h a) (RDs.monoS h b)
end
theorem RD.mono {g g' : Gh} (h : g.le g') {v : V} {d : D} (r : RD K g v d) : RD K g' v d := RD.monoS K h.to r
theorem RDs.mono {g g' : Gh} (h : g.le g') {v : List V} {d : List D} (r : RDs K g v d) : RDs K g' v d := RDs.monoS K h.to r
end
section
variable {K : PySem.W.Frag} {g g' : Gh}
theorem RDs.length : ∀ {v : List V} {d : List D}, RDs K g v d → v.length = d.length
  | _, _, .nil => rfl
  | _, _, .cons _ b => by simp [RDs.length b]
theorem RDs.get : ∀ {v : List V} {d : List D} {i : Nat} {x : D}, RDs K g v d → d[i]? = some x → ∃ u, v[i]? = some u ∧ RD K g u x
  | _, _, _, _, .nil, e => by simp at e
  | _, _, 0, _, .cons a _, e => by simp at e; subst e; exact ⟨_, rfl, a⟩
  | _, _, i + 1, _, .cons _ b, e => by simpa using RDs.get b (by simpa using e)
theorem RDs.append : ∀ {v v' : List V} {d d' : List D}, RDs K g v d → RDs K g v' d' → RDs K g (v ++ v') (d ++ d')
  | _, _, _, _, .nil, s => s
  | _, _, _, _, .cons a b, s => .cons a (RDs.append b s)
theorem RDs.split : ∀ {v : List V} {d d' : List D}, RDs K g v (d ++ d') → ∃ x y, v = x ++ y ∧ RDs K g x d ∧ RDs K g y d'
  | v, [], d', h => ⟨[], v, rfl, .nil, h⟩
  | _, _ :: d, d', .cons a b => by
    obtain ⟨x, y, rfl, h1, h2⟩ := RDs.split b
    exact ⟨_ :: x, y, rfl, .cons a h1, h2⟩
theorem RDs.take : ∀ {v : List V} {d : List D} (n : Nat), RDs K g v d → RDs K g (v.take n) (d.take n)
  | _, _, 0, _ => by simpa using RDs.nil
  | _, _, _ + 1, .nil => .nil
  | _, _, n + 1, .cons a b => .cons a (RDs.take n b)
theorem RDs.drop : ∀ {v : List V} {d : List D} (n : Nat), RDs K g v d → RDs K g (v.drop n) (d.drop n)
  | _, _, 0, r => r
  | _, _, _ + 1, .nil => .nil
  | _, _, n + 1, .cons _ b => RDs.drop n b
theorem RDs.set {x : V} {y : D} (r : RD K g x y) : ∀ {v : List V} {d : List D} (n : Nat), RDs K g v d → RDs K g (v.set n x) (d.set n y)
  | _, _, _, .nil => .nil
  | _, _, 0, .cons _ b => .cons r b
  | _, _, n + 1, .cons a b => .cons a (RDs.set r n b)
theorem RDs.reverse : ∀ {v : List V} {d : List D}, RDs K g v d → RDs K g v.reverse d.reverse
  | _, _, .nil => .nil
  | _, _, .cons a b => by rw [List.reverse_cons, List.reverse_cons]; exact (RDs.reverse b).append (.cons a .nil)
theorem RDs.flatten_rep {v : List V} {d : List D} (r : RDs K g v d) : ∀ n, RDs K g (List.replicate n v).flatten (List.replicate n d).flatten
  | 0 => .nil
  | n + 1 => by rw [List.replicate_succ, List.replicate_succ, List.flatten_cons, List.flatten_cons]; exact r.append (RDs.flatten_rep r n)
theorem RDs.ints : ∀ {v : List V} {d : List D} {ns : List Int}, RDs K g v d → intsOf d = some ns → v = ns.map V.int
  | _, _, _, .nil, e => by simp [intsOf] at e; subst e; rfl
  | _, _, _, .cons a b, e => by
    cases a <;> simp [intsOf] at e
    obtain ⟨r, e1, rfl⟩ := e
    rw [RDs.ints b e1]; rfl
theorem RDs.strs : ∀ {v : List V} {d : List D} {ns : List Str}, RDs K g v d → strsOf d = some ns → v = ns.map V.str
  | _, _, _, .nil, e => by simp [strsOf] at e; subst e; rfl
  | _, _, _, .cons a b, e => by
    cases a <;> simp [strsOf] at e
    obtain ⟨r, e1, rfl⟩ := e
    rw [RDs.strs b e1]; rfl
theorem RDs.bools : ∀ {v : List V} {d : List D} {ns : List Bool}, RDs K g v d → boolsOf d = some ns → v = ns.map V.bl
  | _, _, _, .nil, e => by simp [boolsOf] at e; subst e; rfl
  | _, _, _, .cons a b, e => by
    cases a <;> simp [boolsOf] at e
    obtain ⟨r, e1, rfl⟩ := e
    rw [RDs.bools b e1]; rfl
theorem rds_strs (g : Gh) : ∀ ss : List Str, RDs K g (ss.map V.str) (ss.map D.str)
  | [] => .nil
  | s :: r => .cons (.str s) (rds_strs g r)
theorem rds_ints (g : Gh) : ∀ ss : List Int, RDs K g (ss.map V.int) (ss.map D.int)
  | [] => .nil
  | s :: r => .cons (.int s) (rds_ints g r)
end

section
variable (K : PySem.W.Frag)
mutual
/-- a value of the layer is this key: of tuples that never change -/
inductive NKV (H : Hp) : V → NestedKey → Prop
  | num (i : Int) : NKV H (.int i) (.num i)
  | text (s : Str) : NKV H (.str s) (.text s)
  | tup {a : Addr} {xs : List V} {ks : List NestedKey} : SqN K H a xs → xs.length ≤ sizeLine → NKVs H xs ks → NKV H (.ref a) (.tup ks)
inductive NKVs (H : Hp) : List V → List NestedKey → Prop
  | nil : NKVs H [] []
  | cons {v : V} {k : NestedKey} {vs : List V} {ks : List NestedKey} : NKV H v k → NKVs H vs ks → NKVs H (v :: vs) (k :: ks)
end
mutual
theorem NKV.mono {H H' : Hp} (h : ∀ a o, H a = some o → H' a = some o) : ∀ {v : V} {k : NestedKey}, NKV K H v k → NKV K H' v k
  | _, _, .num i => .num i
  | _, _, .text s => .text s
  | _, _, .tup q l r => .tup (sqN_mono h q) l (NKVs.mono h r)
theorem NKVs.mono {H H' : Hp} (h : ∀ a o, H a = some o → H' a = some o) : ∀ {v : List V} {k : List NestedKey}, NKVs K H v k → NKVs K H' v k
  | _, _, .nil => .nil
  | _, _, .cons a b => .cons (NKV.mono h a) (NKVs.mono h b)
end
mutual
theorem RD.nkv {g : Gh} : ∀ {d : D} {v : V} {k : NestedKey}, RD K g v d → nkey d = some k → NKV K g.Hf v k
  | .int _, _, _, .int i, h => by simp only [nkey, Option.some.injEq] at h; subst h; exact .num i
  | .str _, _, _, .str s, h => by simp only [nkey, Option.some.injEq] at h; subst h; exact .text s
  | .tup _, _, _, .tup q l r, h => by
    simp only [nkey, Option.map_eq_some_iff] at h
    obtain ⟨ks, h1, rfl⟩ := h
    exact .tup q l (RDs.nkvs r h1)
  | .non, _, _, _, h => by simp [nkey] at h
  | .bl _, _, _, _, h => by simp [nkey] at h
  | .lst _, _, _, _, h => by simp [nkey] at h
  | .dct _ _, _, _, _, h => by simp [nkey] at h
  | .loc _, _, _, _, h => by simp [nkey] at h
  | .scr _, _, _, _, h => by simp [nkey] at h
theorem RDs.nkvs {g : Gh} : ∀ {d : List D} {v : List V} {k : List NestedKey}, RDs K g v d → nkeys d = some k → NKVs K g.Hf v k
  | [], _, _, .nil, h => by simp only [nkeys, Option.some.injEq] at h; subst h; exact .nil
  | _ :: _, _, _, .cons a b, h => by
    simp only [nkeys, Option.bind_eq_some_iff, Option.map_eq_some_iff] at h
    obtain ⟨k, h1, ks, h2, rfl⟩ := h
    exact .cons (RD.nkv a h1) (RDs.nkvs b h2)
end
def entN (nh : NestedKey → Int) (x : NestedKey × Addr × Value) : DictEntry := ⟨nh x.1, .ref x.2.1, x.2.2⟩
/-- a dict with such keys, by its object -/
def NDO (nh : NestedKey → Int) (a : Addr) (xs : List (NestedKey × Addr × Value)) : HO := .ext fun h => (a == sysModules) = false ∧ ∃ o es ep, h.get? a = some o ∧ o.ExactDict ∧ o.data = .dict es ep ∧ es.toList = xs.map (entN nh) ∧ (xs.map (·.1)).Nodup
variable (cA : Nat → Addr) (nh : NestedKey → Int)
/-- an object of the heap is this object of the store -/
inductive ObR (g : Gh) (a : Addr) : HO → Ob → Prop
  | lst {xs : List V} {ds : List D} : xs.length ≤ sizeLine → RDs K g xs ds → ObR g a (.lst xs) (.lst ds)
  | dct {ks : List Key} {xs : List V} {ds : List D} : ks.length = xs.length → RDs K g xs ds → ObR g a (.dK (ks.zip xs)) (.dct ks ds)
  | ins {c : Nat} {dx : Addr} {fs : List Str} {xs : List V} {ds : List D} : fs.length = xs.length → RDs K g xs ds → ObR g a (.ins (cA c) dx (fs.zip xs)) (.ins c fs ds)
  | dcn {xs : List (NestedKey × Addr × Value)} {vs : List V} {ds : List D} : xs.length ≤ sizeLine → (∀ x ∈ xs, NKV K g.Hf (.ref x.2.1) x.1 ∧ x.1.depth ≤ 8) → Vals vs (xs.map (·.2.2)) → RDs K g vs ds → ObR g a (NDO nh a xs) (.dcn (xs.map (·.1)) ds)
theorem ObR.mono {g g' : Gh} (h : g.le g') {a : Addr} {ho : HO} {o : Ob} : ObR K cA nh g a ho o → ObR K cA nh g' a ho o
  | .lst l r => .lst l (RDs.mono K h r)
  | .dct l r => .dct l (RDs.mono K h r)
  | .ins l r => .ins l (RDs.mono K h r)
  | .dcn l k v r => .dcn l (fun x hx => ⟨NKV.mono K h.Hf (k x hx).1, (k x hx).2⟩) v (RDs.mono K h r)

structure Sim (g : Gh) (S : Sto) (H : Hp) : Prop where
  sub : ∀ a o, g.Hf a = some o → H a = some o
  frs : ∀ a o, g.fr a = some o → H a = some o ∧ g.Hf a = none ∧ a ∉ g.ρ
  len : g.ρ.length = S.length
  nd : g.ρ.Nodup
  ex : ∀ a ∈ g.ρ, ∃ ho, H a = some ho
  obj : ∀ (n : Nat) a o, g.ρ[n]? = some a → S[n]? = some o → o ≠ .ded → g.Hf a = none ∧ ∃ ho, H a = some ho ∧ ObR K cA nh g a ho o
end
section
variable {K : PySem.W.Frag} {cA : Nat → Addr} {nh : NestedKey → Int} {g : Gh} {S : Sto} {H : Hp}
theorem Sim.nowhere (s : Sim K cA nh g S H) {p : Addr} (h : H p = none) : g.Hf p = none ∧ g.fr p = none ∧ p ∉ g.ρ := by
  refine ⟨?_, ?_, fun hp => ?_⟩
  · cases e : g.Hf p with
    | none => rfl
    | some o => rw [s.sub p o e] at h; cases h
  · cases e : g.fr p with
    | none => rfl
    | some o => rw [(s.frs p o e).1] at h; cases h
  · obtain ⟨o, e⟩ := s.ex p hp
    rw [e] at h; cases h
/-- a new thing that never changes -/
theorem Sim.frz (s : Sim K cA nh g S H) {p : Addr} (o : HO) (h : H p = Option.none) : Sim K cA nh { g with Hf := upd g.Hf p o } S (upd H p o) ∧ g.le { g with Hf := upd g.Hf p o } := by
  obtain ⟨h1, h2, h3⟩ := s.nowhere h
  have hle : g.le { g with Hf := upd g.Hf p o } := by
    refine ⟨⟨[], by simp⟩, fun a u e => ?_, rfl⟩
    show upd g.Hf p o a = some u
    rw [upd_ne (ne_of_none e h1)]; exact e
  refine ⟨⟨fun a u e => ?_, fun a u e => ?_, s.len, s.nd, fun a ha => ?_, fun n a u e1 e2 e3 => ?_⟩, hle⟩
  · by_cases ha : a = p
    · subst ha
      have e' : upd g.Hf a o a = some u := e
      rw [upd_same] at e'; rw [upd_same]; exact e'
    · have e' : upd g.Hf p o a = some u := e
      rw [upd_ne ha] at e'; rw [upd_ne ha]; exact s.sub a u e'
  · obtain ⟨q1, q2, q3⟩ := s.frs a u e
    have hn : a ≠ p := ne_of_none e h2
    refine ⟨by rw [upd_ne hn]; exact q1, ?_, q3⟩
    show upd g.Hf p o a = none
    rw [upd_ne hn]; exact q2
  · obtain ⟨ho, e⟩ := s.ex a ha
    exact ⟨ho, by rw [upd_ne (ne_of_none e h)]; exact e⟩
  · obtain ⟨q1, ho, q2, q3⟩ := s.obj n a u e1 e2 e3
    have hn : a ≠ p := ne_of_none q2 h
    refine ⟨?_, ho, by rw [upd_ne hn]; exact q2, ObR.mono K cA nh hle q3⟩
    show upd g.Hf p o a = none
    rw [upd_ne hn]; exact q1
/-- a new thing of the store -/
theorem Sim.lay (s : Sim K cA nh g S H) {p : Addr} {ho : HO} {o : Ob} (h : H p = Option.none) (r : ObR K cA nh g p ho o) : Sim K cA nh { g with ρ := g.ρ ++ [p] } (S ++ [o]) (upd H p ho) ∧ g.le { g with ρ := g.ρ ++ [p] } ∧ (g.ρ ++ [p])[S.length]? = some p := by
  obtain ⟨h1, h2, h3⟩ := s.nowhere h
  have hle : g.le { g with ρ := g.ρ ++ [p] } := ⟨⟨[p], rfl⟩, fun _ _ e => e, rfl⟩
  have hat : (g.ρ ++ [p])[S.length]? = some p := by rw [← s.len]; simp
  refine ⟨⟨fun a u e => ?_, fun a u e => ?_, ?_, ?_, fun a ha => ?_, fun n a u e1 e2 e3 => ?_⟩, hle, hat⟩
  · rw [upd_ne (ne_of_none e h1)]; exact s.sub a u e
  · obtain ⟨q1, q2, q3⟩ := s.frs a u e
    have hn : a ≠ p := ne_of_none e h2
    refine ⟨by rw [upd_ne hn]; exact q1, q2, ?_⟩
    show a ∉ g.ρ ++ [p]
    simp [q3, hn]
  · simp [s.len]
  · show (g.ρ ++ [p]).Nodup
    rw [List.nodup_append]
    refine ⟨s.nd, by simp, fun a ha b hb => ?_⟩
    have e : b = p := by simpa using hb
    subst e
    exact fun z => h3 (z ▸ ha)
  · by_cases ha' : a = p
    · subst ha'; exact ⟨ho, upd_same⟩
    · have hm : a ∈ g.ρ := by
        have : a ∈ g.ρ ++ [p] := ha
        simpa [ha'] using this
      obtain ⟨u, e⟩ := s.ex a hm
      exact ⟨u, by rw [upd_ne ha']; exact e⟩
  · by_cases hn : n = S.length
    · subst hn
      have ea : p = a := by
        have e1' : (g.ρ ++ [p])[S.length]? = some a := e1
        rw [hat] at e1'; exact Option.some.inj e1'
      subst ea
      have eo : o = u := by simpa using e2
      subst eo
      exact ⟨h1, ho, upd_same, ObR.mono K cA nh hle r⟩
    · have hlt : n < S.length := by
        have := (List.getElem?_eq_some_iff.mp e2).1
        simp at this; omega
      have e1' : g.ρ[n]? = some a := by
        have z : (g.ρ ++ [p])[n]? = some a := e1
        rwa [List.getElem?_append_left (by rw [s.len]; exact hlt)] at z
      have e2' : S[n]? = some u := by rwa [List.getElem?_append_left hlt] at e2
      obtain ⟨q1, hu, q2, q3⟩ := s.obj n a u e1' e2' e3
      exact ⟨q1, hu, by rw [upd_ne (ne_of_none q2 h)]; exact q2, ObR.mono K cA nh hle q3⟩
/-- a thing of the store is changed -/
theorem Sim.put (s : Sim K cA nh g S H) {n : Nat} {a : Addr} {o0 o : Ob} {ho : HO} (e : g.ρ[n]? = some a) (e0 : S[n]? = some o0) (h0 : o0 ≠ .ded) (r : ObR K cA nh g a ho o) : Sim K cA nh g (S.set n o) (upd H a ho) := by
  obtain ⟨q1, h1, q2, q3⟩ := s.obj n a o0 e e0 h0
  have hm : a ∈ g.ρ := List.mem_of_getElem? e
  refine ⟨fun b u z => ?_, fun b u z => ?_, by simp [s.len], s.nd, fun b hb => ?_, fun m b u e1 e2 e3 => ?_⟩
  · have hn : b ≠ a := ne_of_none z q1
    rw [upd_ne hn]; exact s.sub b u z
  · obtain ⟨p1, p2, p3⟩ := s.frs b u z
    have hn : b ≠ a := fun y => p3 (y ▸ hm)
    exact ⟨by rw [upd_ne hn]; exact p1, p2, p3⟩
  · by_cases hb' : b = a
    · subst hb'; exact ⟨ho, upd_same⟩
    · obtain ⟨u, z⟩ := s.ex b hb
      exact ⟨u, by rw [upd_ne hb']; exact z⟩
  · by_cases hmn : m = n
    · subst hmn
      rw [e] at e1; cases e1
      have hl : m < S.length := (List.getElem?_eq_some_iff.mp e0).1
      rw [List.getElem?_set_self hl] at e2
      cases e2
      exact ⟨q1, ho, upd_same, r⟩
    · rw [List.getElem?_set_ne (Ne.symm hmn)] at e2
      obtain ⟨p1, hu, p2, p3⟩ := s.obj m b u e1 e2 e3
      have hn : b ≠ a := by
        intro y; subst y
        obtain ⟨l1, x1⟩ := List.getElem?_eq_some_iff.mp e
        obtain ⟨l2, x2⟩ := List.getElem?_eq_some_iff.mp e1
        exact hmn ((List.getElem_inj s.nd).mp (x2.trans x1.symm))
      exact ⟨p1, hu, by rw [upd_ne hn]; exact p2, p3⟩
/-- a thing of the store changes no more -/
theorem Sim.strip (s : Sim K cA nh g S H) {n : Nat} {a : Addr} {o : Ob} {ho : HO} (e : g.ρ[n]? = some a) (e0 : S[n]? = some o) (h0 : o ≠ .ded) (hH : H a = some ho) :
    Sim K cA nh { g with Hf := upd g.Hf a ho } (S.set n .ded) H ∧ g.le { g with Hf := upd g.Hf a ho } := by
  obtain ⟨q1, h1, q2, q3⟩ := s.obj n a o e e0 h0
  have hm : a ∈ g.ρ := List.mem_of_getElem? e
  have hle : g.le { g with Hf := upd g.Hf a ho } := by
    refine ⟨⟨[], by simp⟩, fun b u z => ?_, rfl⟩
    show upd g.Hf a ho b = some u
    rw [upd_ne (ne_of_none z q1)]; exact z
  refine ⟨⟨fun b u z => ?_, fun b u z => ?_, by simp [s.len], s.nd, s.ex, fun m b u e1 e2 e3 => ?_⟩, hle⟩
  · have z' : upd g.Hf a ho b = some u := z
    by_cases hb : b = a
    · subst hb; rw [upd_same] at z'; cases z'; exact hH
    · rw [upd_ne hb] at z'; exact s.sub b u z'
  · obtain ⟨p1, p2, p3⟩ := s.frs b u z
    refine ⟨p1, ?_, p3⟩
    show upd g.Hf a ho b = none
    have hn : b ≠ a := fun y => p3 (y ▸ hm)
    rw [upd_ne hn]; exact p2
  · by_cases hmn : m = n
    · subst hmn
      have hl : m < S.length := (List.getElem?_eq_some_iff.mp e0).1
      rw [List.getElem?_set_self hl] at e2
      cases e2
      exact absurd rfl e3
    · rw [List.getElem?_set_ne (Ne.symm hmn)] at e2
      obtain ⟨p1, hu, p2, p3⟩ := s.obj m b u e1 e2 e3
      have hn : b ≠ a := by
        intro y; subst y
        obtain ⟨l1, x1⟩ := List.getElem?_eq_some_iff.mp e
        obtain ⟨l2, x2⟩ := List.getElem?_eq_some_iff.mp e1
        exact hmn ((List.getElem_inj s.nd).mp (x2.trans x1.symm))
      refine ⟨?_, hu, p2, ObR.mono K cA nh hle p3⟩
      show upd g.Hf a ho b = none
      rw [upd_ne hn]; exact p1
/-- held aside: nothing changes it -/
theorem ObR.monoS {K : PySem.W.Frag} {cA : Nat → Addr} {nh : NestedKey → Int} {g g' : Gh} (h : g.sub g') {a : Addr} {ho : HO} {o : Ob} : ObR K cA nh g a ho o → ObR K cA nh g' a ho o
  | .lst l r => .lst l (RDs.monoS K h r)
  | .dct l r => .dct l (RDs.monoS K h r)
  | .ins l r => .ins l (RDs.monoS K h r)
  | .dcn l k v r => .dcn l (fun x hx => ⟨NKV.mono K h.Hf (k x hx).1, (k x hx).2⟩) v (RDs.monoS K h r)
theorem sub_fr (g : Gh) (f : Hp) : g.sub { g with fr := f } := ⟨⟨[], by simp⟩, fun _ _ h => h⟩
theorem sub_fr' (g : Gh) (f : Hp) : Gh.sub { g with fr := f } g := ⟨⟨[], by simp⟩, fun _ _ h => h⟩
theorem Sim.pin (s : Sim K cA nh g S H) {p : Addr} {o : HO} (h : H p = Option.none) : Sim K cA nh { g with fr := upd g.fr p o } S (upd H p o) := by
  obtain ⟨h1, h2, h3⟩ := s.nowhere h
  refine ⟨fun a u e => ?_, fun a u e => ?_, s.len, s.nd, fun a ha => ?_, fun n a u e1 e2 e3 => ?_⟩
  · rw [upd_ne (ne_of_none e h1)]; exact s.sub a u e
  · have e' : upd g.fr p o a = some u := e
    by_cases ha : a = p
    · subst ha
      rw [upd_same] at e'
      rw [upd_same]
      exact ⟨e', h1, h3⟩
    · rw [upd_ne ha] at e'
      rw [upd_ne ha]
      exact s.frs a u e'
  · obtain ⟨u, e⟩ := s.ex a ha
    exact ⟨u, by rw [upd_ne (ne_of_none e h)]; exact e⟩
  · obtain ⟨q1, hu, q2, q3⟩ := s.obj n a u e1 e2 e3
    exact ⟨q1, hu, by rw [upd_ne (ne_of_none q2 h)]; exact q2, ObR.monoS (sub_fr g _) q3⟩
theorem Sim.repin {f : Hp} {p : Addr} {o o' : HO} (s : Sim K cA nh g S H) (hf : g.fr = upd f p o) : Sim K cA nh { g with fr := upd f p o' } S (upd H p o') := by
  obtain ⟨q0, p1, p2⟩ := s.frs p o (by rw [hf]; exact upd_same)
  refine ⟨fun a u e => ?_, fun a u e => ?_, s.len, s.nd, fun a ha => ?_, fun n a u e1 e2 e3 => ?_⟩
  · rw [upd_ne (ne_of_none e p1)]; exact s.sub a u e
  · have e' : upd f p o' a = some u := e
    by_cases ha : a = p
    · subst ha
      rw [upd_same] at e'
      rw [upd_same]
      exact ⟨e', p1, p2⟩
    · rw [upd_ne ha] at e'
      rw [upd_ne ha]
      exact s.frs a u (by rw [hf, upd_ne ha]; exact e')
  · have hap : a ≠ p := fun z => p2 (z ▸ ha)
    obtain ⟨u, e⟩ := s.ex a ha
    exact ⟨u, by rw [upd_ne hap]; exact e⟩
  · obtain ⟨q1, hu, q2, q3⟩ := s.obj n a u e1 e2 e3
    have hap : a ≠ p := fun z => p2 (z ▸ List.mem_of_getElem? e1)
    exact ⟨q1, hu, by rw [upd_ne hap]; exact q2, ObR.monoS (sub_fr g _) q3⟩
theorem Sim.unpin {f : Hp} {p : Addr} {o : HO} (s : Sim K cA nh g S H) (hf : g.fr = upd f p o) (hn : f p = Option.none) : Sim K cA nh { g with fr := f } S H :=
  ⟨s.sub, fun a u e => s.frs a u (by rw [hf, upd_ne (ne_of_none e hn)]; exact e), s.len, s.nd, s.ex, fun n a u e1 e2 e3 => let ⟨q1, hu, q2, q3⟩ := s.obj n a u e1 e2 e3; ⟨q1, hu, q2, ObR.monoS (sub_fr g _) q3⟩⟩
/-- what was aside never changes any more -/
theorem Sim.unpinF {f : Hp} {p : Addr} {o : HO} (s : Sim K cA nh g S H) (hf : g.fr = upd f p o) (hn : f p = Option.none) : Sim K cA nh { g with fr := f, Hf := upd g.Hf p o } S H := by
  obtain ⟨q0, p1, p2⟩ := s.frs p o (by rw [hf]; exact upd_same)
  have sb : Gh.sub g { g with fr := f, Hf := upd g.Hf p o } := ⟨⟨[], by simp⟩, fun a u e => by show upd g.Hf p o a = some u; rw [upd_ne (ne_of_none e p1)]; exact e⟩
  refine ⟨fun a u e => ?_, fun a u e => ?_, s.len, s.nd, s.ex, fun n a u e1 e2 e3 => ?_⟩
  · have e' : upd g.Hf p o a = some u := e
    by_cases ha : a = p
    · subst ha; rw [upd_same] at e'; rw [← e']; exact q0
    · rw [upd_ne ha] at e'; exact s.sub a u e'
  · have hap : a ≠ p := ne_of_none e hn
    obtain ⟨y1, y2, y3⟩ := s.frs a u (by rw [hf, upd_ne hap]; exact e)
    exact ⟨y1, by show upd g.Hf p o a = none; rw [upd_ne hap]; exact y2, y3⟩
  · obtain ⟨y1, hu, y2, y3⟩ := s.obj n a u e1 e2 e3
    have hap : a ≠ p := fun z => p2 (z ▸ List.mem_of_getElem? e1)
    exact ⟨by show upd g.Hf p o a = none; rw [upd_ne hap]; exact y1, hu, y2, ObR.monoS sb y3⟩
/-- what was aside is laid in the store -/
theorem Sim.unpinL {f : Hp} {p : Addr} {o : HO} {ob : Ob} (s : Sim K cA nh g S H) (hf : g.fr = upd f p o) (hn : f p = Option.none) (r : ObR K cA nh g p o ob) : Sim K cA nh { g with fr := f, ρ := g.ρ ++ [p] } (S ++ [ob]) H ∧ (g.ρ ++ [p])[S.length]? = some p := by
  obtain ⟨q0, p1, p2⟩ := s.frs p o (by rw [hf]; exact upd_same)
  have sb : Gh.sub g { g with fr := f, ρ := g.ρ ++ [p] } := ⟨⟨[p], rfl⟩, fun _ _ e => e⟩
  have hat : (g.ρ ++ [p])[S.length]? = some p := by rw [← s.len]; simp
  refine ⟨⟨s.sub, fun a u e => ?_, by simp [s.len], ?_, fun a ha => ?_, fun n a u e1 e2 e3 => ?_⟩, hat⟩
  · have hap : a ≠ p := ne_of_none e hn
    obtain ⟨y1, y2, y3⟩ := s.frs a u (by rw [hf, upd_ne hap]; exact e)
    exact ⟨y1, y2, by show a ∉ g.ρ ++ [p]; simp [y3, hap]⟩
  · show (g.ρ ++ [p]).Nodup
    rw [List.nodup_append]
    refine ⟨s.nd, by simp, fun a ha b hb => ?_⟩
    have e : b = p := by simpa using hb
    subst e
    exact fun z => p2 (z ▸ ha)
  · by_cases hap : a = p
    · subst hap; exact ⟨o, q0⟩
    · have hm : a ∈ g.ρ := by
        have z : a ∈ g.ρ ++ [p] := ha
        simpa [hap] using z
      exact s.ex a hm
  · by_cases hnS : n = S.length
    · subst hnS
      have ea : p = a := by
        have e1' : (g.ρ ++ [p])[S.length]? = some a := e1
        rw [hat] at e1'; exact Option.some.inj e1'
      subst ea
      have eo : ob = u := by simpa using e2
      subst eo
      exact ⟨p1, o, q0, ObR.monoS sb r⟩
    · have hlt : n < S.length := by
        have := (List.getElem?_eq_some_iff.mp e2).1
        simp at this; omega
      have e1' : g.ρ[n]? = some a := by
        have z : (g.ρ ++ [p])[n]? = some a := e1
        rwa [List.getElem?_append_left (by rw [s.len]; exact hlt)] at z
      have e2' : S[n]? = some u := by rwa [List.getElem?_append_left hlt] at e2
      obtain ⟨y1, hu, y2, y3⟩ := s.obj n a u e1' e2' e3
      exact ⟨y1, hu, y2, ObR.monoS sb y3⟩
end
end CT

end
section
set_option maxHeartbeats 4000000
/-! callturn proofs, part c: what a run of the small language promises of the layer; expressions one by one -/
namespace CT
open PySem PySem.Spec PyProof.Rows L2
abbrev LSt := L2.St

/-- the written part, where the classes and the exceptions lie -/
structure Tb where
  K : PySem.W.Frag
  cA : Nat → Addr
  eA : Nat → Addr
  nh : NestedKey → Int
abbrev Tb.Sim (T : Tb) (g : Gh) (S : Sto) (H : Hp) : Prop := CT.Sim T.K T.cA T.nh g S H
abbrev Tb.RD (T : Tb) (g : Gh) : V → D → Prop := CT.RD T.K g
abbrev Tb.RDs (T : Tb) (g : Gh) : List V → List D → Prop := CT.RDs T.K g

structure Tb.EnvR (T : Tb) (g : Gh) (σ : LSt) (e : Ev) : Prop where
  len : σ.length = e.length
  at_ : ∀ (i : Nat) d, e[i]? = some (some d) → ∃ v, σ[i]? = some (some v) ∧ T.RD g v d
theorem Tb.EnvR.mono {T : Tb} {g g' : Gh} {σ : LSt} {e : Ev} (h : T.EnvR g σ e) (l : g.le g') : T.EnvR g' σ e :=
  ⟨h.len, fun i d z => let ⟨v, a, b⟩ := h.at_ i d z; ⟨v, a, RD.mono T.K l b⟩⟩

section
variable (T : Tb) {α β : Type} (rel : Gh → β → α → Prop) (W : WX)
/-- an end of a run, as the layer is to bear it: k of what comes, the wish W of an exception -/
def GoR (g : Gh) (σ : LSt) (r : R α) (k : Gh → Hp → β → α → Sto → Prop) : Prop :=
  match r with
  | .ok d S => ∀ g' H' v, g.le g' → T.Sim g' S H' → rel g' v d → k g' H' v d S
  | .ex c S => ∀ g' H', g.le g' → T.Sim g' S H' → W (.ref (T.eA c)) none σ H'
  | .no => False
variable {T rel W}
theorem GoR.imp {g : Gh} {σ : LSt} {r : R α} {k k' : Gh → Hp → β → α → Sto → Prop} (h : GoR T rel W g σ r k)
    (f : ∀ g' H' v d S, g.le g' → T.Sim g' S H' → rel g' v d → r = .ok d S → k g' H' v d S → k' g' H' v d S) : GoR T rel W g σ r k' := by
  cases r with
  | ok d S => exact fun g' H' v l s q => f g' H' v d S l s q rfl (h g' H' v l s q)
  | ex c S => exact h
  | no => exact h
theorem GoR.mono {g g1 : Gh} {σ : LSt} {r : R α} {k : Gh → Hp → β → α → Sto → Prop} (h : GoR T rel W g σ r k) (l : g.le g1) : GoR T rel W g1 σ r k := by
  cases r with
  | ok d S => exact fun g' H' v l' s q => h g' H' v (l.trans l') s q
  | ex c S => exact fun g' H' l' s => h g' H' (l.trans l') s
  | no => exact h
theorem GoR.bind {α' β' : Type} {rel' : Gh → β' → α' → Prop} {g : Gh} {σ : LSt} {r : R α} {f : α → Sto → R α'} {k : Gh → Hp → β' → α' → Sto → Prop} (h : GoR T rel' W g σ (r.bind f) k) :
    GoR T rel W g σ r (fun g1 _ _ d S => GoR T rel' W g1 σ (f d S) k) := by
  cases r with
  | ok d S => exact fun g' H' v l s q => GoR.mono h l
  | ex c S => exact h
  | no => exact h
/-- what is there now -/
theorem GoR.now {g : Gh} {σ : LSt} {d : α} {S : Sto} {k : Gh → Hp → β → α → Sto → Prop} (h : GoR T rel W g σ (.ok d S) k) {H : Hp} {v : β} (s : T.Sim g S H) (r : rel g v d) : k g H v d S :=
  h g H v (Gh.le.refl g) s r
theorem GoR.to {g g' : Gh} {σ : LSt} {d : α} {S : Sto} {k : Gh → Hp → β → α → Sto → Prop} (h : GoR T rel W g σ (.ok d S) k) {H : Hp} {v : β} (l : g.le g') (s : T.Sim g' S H) (r : rel g' v d) : k g' H v d S :=
  h g' H v l s r
end
theorem orNo_ok {T : Tb} {α β γ : Type} {rel : Gh → β → α → Prop} {W : WX} {g : Gh} {σ : LSt} {o : Option γ} {f : γ → R α} {k : Gh → Hp → β → α → Sto → Prop} (h : GoR T rel W g σ (orNo o f) k) : ∃ a, o = some a ∧ GoR T rel W g σ (f a) k := by
  cases o with
  | none => exact h.elim
  | some a => exact ⟨a, rfl, h⟩
abbrev Tb.Go (T : Tb) (W : WX) (g : Gh) (σ : LSt) (r : R D) (Q : VK) : Prop := GoR T T.RD W g σ r fun _ H' v _ _ => Q v H'

/-- an expression's reading, an argument list's, a test's -/
def tI (T : Tb) (W : WX) (f : Ev → Sto → R D) : TE := fun σ H Q => ∃ g S e, T.Sim g S H ∧ T.EnvR g σ e ∧ GoR T T.RD W g σ (f e S) fun _ H' v _ _ => Q v H'
def tIs (T : Tb) (W : WX) (f : Ev → Sto → R (List D)) : TA := fun σ H Q => ∃ g S e, T.Sim g S H ∧ T.EnvR g σ e ∧ GoR T T.RDs W g σ (f e S) fun _ H' v _ _ => Q v H'
def tIT (T : Tb) (W : WX) (f : Ev → Sto → R Bool) : TT := fun σ H Q => ∃ g S e, T.Sim g S H ∧ T.EnvR g σ e ∧ GoR T (fun _ (b : Bool) d => b = d) W g σ (f e S) fun _ H' v _ _ => Q v H'

/-- a stronger reading does -/
theorem PE.imp {X : Cx} {e : Expr} {t t' : TE} (h : PE X e t) (f : ∀ σ H Q, t' σ H Q → t σ H Q) : PE X e t' := ⟨fun pins s σ H Q I q => h.run pins s σ H Q I (f σ H Q q)⟩
theorem PT.imp {X : Cx} {e : Expr} {t t' : TT} (h : PT X e t) (f : ∀ σ H Q, t' σ H Q → t σ H Q) : PT X e t' := ⟨fun pins s σ H Q I q => h.run pins s σ H Q I (f σ H Q q)⟩
theorem PA.imp {X : Cx} {e : List Expr} {t t' : TA} (h : PA X e t) (f : ∀ σ H Q, t' σ H Q → t σ H Q) : PA X e t' := ⟨fun pos pins s σ H Q I q => h.run pos pins s σ H Q I (f σ H Q q)⟩

section
variable {T : Tb} {W : WX} {X : Cx} {C : Cal}
/-- one part first -/
theorem tI_bind {f : Ev → Sto → R D} {k : D → Ev → Sto → R D} {σ : LSt} {H : Hp} {Q : VK} {R' : VK} (h : tI T W (fun e S => (f e S).bind fun x S => k x e S) σ H Q)
    (hk : ∀ g S e H1 x d, T.Sim g S H1 → T.EnvR g σ e → T.RD g x d → GoR T T.RD W g σ (k d e S) (fun _ H' v _ _ => Q v H') → R' x H1) : tI T W f σ H R' := by
  obtain ⟨g, S, e, s, r, q⟩ := h
  refine ⟨g, S, e, s, r, (GoR.bind q).imp fun g' H' v d S' l s' rd _ q' => ?_⟩
  exact hk g' S' e H' v d s' (r.mono l) rd q'

/-! ### leaves -/
theorem s_var {i : Nat} {x : Str} {pos : Pos} (hN : X.N[i]? = some x) (hv : Vis X.env.scope x) (hd : (x == ("__debug__" : Str)) = false) (hcd : (x == ("__classdict__" : Str)) = false) : PE X (.Name x pos) (tI T W (ev C (.var i))) := by
  refine PE.imp (pe_var hN hv hd hcd) fun σ H Q ⟨g, S, e, s, r, q⟩ => ?_
  simp only [ev] at q
  obtain ⟨d, h, q⟩ := orNo_ok q
  have h' : e[i]? = some (some d) := by
    cases h2 : e[i]? with
    | none => rw [h2] at h; cases h
    | some o => rw [h2] at h; simp only [Option.bind_some, id] at h; rw [h]
  obtain ⟨v, hv, rd⟩ := r.at_ i d h'
  exact ⟨v, hv, q.now s rd⟩
theorem s_int {i j pos} : PE X (.Constant (.int i) j pos) (tI T W (ev C (.int i))) := by
  refine PE.imp pe_int fun σ H Q ⟨g, S, e, s, _, q⟩ => ?_
  simp only [ev] at q
  exact q.now s (.int i)
theorem s_bl {b j pos} : PE X (.Constant (.bool b) j pos) (tI T W (ev C (.bl b))) := by
  refine PE.imp pe_bl fun σ H Q ⟨g, S, e, s, _, q⟩ => ?_
  simp only [ev] at q
  exact q.now s (.bl b)
theorem s_non {j pos} : PE X (.Constant .none j pos) (tI T W (ev C .non)) := by
  refine PE.imp pe_non fun σ H Q ⟨g, S, e, s, _, q⟩ => ?_
  simp only [ev] at q
  exact q.now s .non
theorem s_str {x j pos} : PE X (.Constant (.str x) j pos) (tI T W (ev C (.str x))) := by
  refine PE.imp pe_str fun σ H Q ⟨g, S, e, s, _, q⟩ => ?_
  simp only [ev] at q
  exact q.now s (.str x)
theorem s_glo {x w : Str} {d : D} {v : V} {u : Value} {pos : Pos} (hg : Gl X x) (hm : X.mg x = some u) (r : RelV v u) (rd : ∀ g, T.RD g v d) (hd : (x == ("__debug__" : Str)) = false) : PE X (.Name x pos) (tI T W (ev C (.glo w d))) :=
  by
  refine PE.imp (pe_glob hg hm r hd) fun σ H Q ⟨g, S, e, s, _, q⟩ => ?_
  simp only [ev] at q
  exact q.now s (rd g)

/-! ### arguments -/
theorem s_nil : PA X [] (tIs T W (evs C [])) := by
  refine PA.imp pa_nil fun σ H Q ⟨g, S, e, s, r, q⟩ => ?_
  simp only [evs] at q
  exact q.now s .nil
theorem s_cons {a : E} {as : List E} {x : Expr} {xs : List Expr} (ha : PE X x (tI T W (ev C a))) (hr : PA X xs (tIs T W (evs C as))) (he : starEach (x :: xs) X.env = (false, eval x X.env) :: starEach xs X.env) : PA X (x :: xs) (tIs T W (evs C (a :: as))) := by
  refine PA.imp (pa_cons ha hr he) fun σ H Q ⟨g, S, e, s, r, q⟩ => ?_
  simp only [evs] at q
  refine ⟨g, S, e, s, r, (GoR.bind q).imp fun g1 H1 v d S1 l1 s1 rd1 _ q1 => ?_⟩
  refine ⟨g1, S1, e, s1, r.mono l1, (GoR.bind q1).imp fun g2 H2 vs ds S2 l2 s2 rd2 _ q2 => ?_⟩
  exact GoR.now q2 s2 (.cons (RD.mono T.K l2 rd1) rd2)

/-- an operation upon two values, told by data -/
def rTwo (T : Tb) (W : WX) (f : D → D → Sto → R D) : R2 := fun x y H Q => ∃ g S dx dy σ, T.Sim g S H ∧ T.RD g x dx ∧ T.RD g y dy ∧ GoR T T.RD W g σ (f dx dy S) fun _ H' v _ _ => Q v H'
def rOne (T : Tb) (W : WX) (f : D → Sto → R D) : V → Hp → VK → Prop := fun x H Q => ∃ g S dx σ, T.Sim g S H ∧ T.RD g x dx ∧ GoR T T.RD W g σ (f dx S) fun _ H' v _ _ => Q v H'

theorem two_of {a b : E} {f : D → D → Sto → R D} {σ : LSt} {H : Hp} {Q : VK} (h : tI T W (fun e S => (ev C a e S).bind fun x S => (ev C b e S).bind fun y S => f x y S) σ H Q) :
    tI T W (ev C a) σ H fun x H1 => tI T W (ev C b) σ H1 fun y H2 => rTwo T W f x y H2 Q := by
  obtain ⟨g, S, e, s, r, q⟩ := h
  refine ⟨g, S, e, s, r, (GoR.bind q).imp fun g1 H1 v d S1 l1 s1 rd1 _ q1 => ?_⟩
  refine ⟨g1, S1, e, s1, r.mono l1, (GoR.bind q1).imp fun g2 H2 u d2 S2 l2 s2 rd2 _ q2 => ?_⟩
  exact ⟨g2, S2, d, d2, σ, s2, RD.mono T.K l2 rd1, rd2, q2⟩
theorem one_of {a : E} {f : D → Sto → R D} {σ : LSt} {H : Hp} {Q : VK} (h : tI T W (fun e S => (ev C a e S).bind fun x S => f x S) σ H Q) :
    tI T W (ev C a) σ H fun x H1 => rOne T W f x H1 Q := by
  obtain ⟨g, S, e, s, r, q⟩ := h
  refine ⟨g, S, e, s, r, (GoR.bind q).imp fun g1 H1 v d S1 l1 s1 rd1 _ q1 => ?_⟩
  exact ⟨g1, S1, d, σ, s1, rd1, q1⟩
theorem s_bin {o : BOp} {m : Bool} {a b : E} {x y : Expr} {op : Operator} {pos : Pos} (ho : OpR X (binaryOp op) (rTwo T W (binop o m))) (ha : PE X x (tI T W (ev C a))) (hb : PE X y (tI T W (ev C b))) : PE X (.BinOp x op y pos) (tI T W (ev C (.bin o m a b))) :=
  PE.imp (pe_op ho ha hb) fun σ H Q h => two_of (f := binop o m) (by simpa only [ev] using h)
theorem s_cmp {o : COp} {a b : E} {x y : Expr} {op : CmpOp} {pos : Pos} (ho : OpR X (compareOp op) (rTwo T W (cmpop o))) (ha : PE X x (tI T W (ev C a))) (hb : PE X y (tI T W (ev C b))) (hm : behindInMarks op y = false) : PE X (.Compare x [op] [y] pos) (tI T W (ev C (.cmp o a b))) :=
  PE.imp (pe_cmpR ho ha hb hm) fun σ H Q h => two_of (f := cmpop o) (by simpa only [ev] using h)
end

/-! ### rows of things -/
section
variable {T : Tb} {g : Gh} {S : Sto} {H : Hp} {x : V} {d : D}
theorem asM_ok (s : T.Sim g S H) (r : T.RD g x d) {ds : List D} (h : asM S d = some ds) : ∃ a xs, x = .ref a ∧ H a = some (.lst xs) ∧ T.RDs g xs ds := by
  cases r with
  | lst q _ r => simp only [asM, Option.some.injEq] at h; subst h; exact ⟨_, _, rfl, s.sub _ _ q, r⟩
  | @loc a n q =>
    simp only [asM] at h
    cases e : S[n]? with
    | none => rw [e] at h; cases h
    | some o =>
      rw [e] at h
      cases o with
      | lst zs =>
        cases h
        obtain ⟨_, ho, q2, q3⟩ := s.obj n a _ q e (by simp)
        cases q3 with
        | lst _ r => exact ⟨_, _, rfl, q2, r⟩
      | _ => cases h
  | _ => cases h
theorem asL_ok (s : T.Sim g S H) (r : T.RD g x d) {ds : List D} (h : asL S d = some ds) : ∃ a xs, x = .ref a ∧ SqL T.K H a xs ∧ T.RDs g xs ds := by
  cases r with
  | lst q _ r => simp only [asL, Option.some.injEq] at h; subst h; exact ⟨_, _, rfl, SqL.of (s.sub _ _ q), r⟩
  | scr q => simp only [asL, Option.some.injEq] at h; subst h; exact ⟨_, _, rfl, sqL_mono s.sub q, rds_ints g _⟩
  | @loc a n q =>
    obtain ⟨a', xs, e1, e2, e3⟩ := asM_ok s (.loc q) (ds := ds) h
    exact ⟨a', xs, e1, SqL.of e2, e3⟩
  | _ => cases h
theorem asQ_ok (s : T.Sim g S H) (r : T.RD g x d) {ds : List D} (h : asQ S d = some ds) : ∃ a xs, x = .ref a ∧ (SqL T.K H a xs ∨ SqT T.K H a xs) ∧ T.RDs g xs ds := by
  cases r with
  | tup q _ r => simp only [asQ, Option.some.injEq] at h; subst h; exact ⟨_, _, rfl, .inr (sqT_mono s.sub q.1), r⟩
  | lst q l r => obtain ⟨a, xs, h1, h2, h3⟩ := asL_ok s (.lst q l r) (ds := ds) h; exact ⟨a, xs, h1, .inl h2, h3⟩
  | scr q => obtain ⟨a, xs, h1, h2, h3⟩ := asL_ok s (.scr q) (ds := ds) h; exact ⟨a, xs, h1, .inl h2, h3⟩
  | loc q => obtain ⟨a, xs, h1, h2, h3⟩ := asL_ok s (.loc q) (ds := ds) h; exact ⟨a, xs, h1, .inl h2, h3⟩
  | _ => cases h
theorem asD_ok (s : T.Sim g S H) (r : T.RD g x d) {ks : List Key} {ds : List D} (h : asD S d = some (ks, ds)) : ∃ a xs, x = .ref a ∧ H a = some (.dK (ks.zip xs)) ∧ ks.length = xs.length ∧ T.RDs g xs ds := by
  cases r with
  | dct q l r => simp only [asD, Option.some.injEq, Prod.mk.injEq] at h; obtain ⟨rfl, rfl⟩ := h; exact ⟨_, _, rfl, s.sub _ _ q, l, r⟩
  | @loc a n q =>
    simp only [asD] at h
    cases e : S[n]? with
    | none => rw [e] at h; cases h
    | some o =>
      rw [e] at h
      cases o with
      | dct zs ws =>
        simp only [Option.some.injEq, Prod.mk.injEq] at h
        obtain ⟨rfl, rfl⟩ := h
        obtain ⟨_, ho, q2, q3⟩ := s.obj n a _ q e (by simp)
        cases q3 with
        | dct l r => exact ⟨_, _, rfl, q2, l, r⟩
      | _ => cases h
  | _ => cases h
theorem fits_le {n : Nat} (h : fits n = true) : n ≤ sizeLine := by
  have h' : n ≤ 16777216 := Nat.le_of_ble_eq_true h
  rw [sizeLine_eq]; exact h'
end

section
variable {T : Tb} {W : WX} {g : Gh} {S : Sto} {H : Hp} {σ : LSt} {Q : VK}
/-- a new row is laid -/
theorem mkL_ok {m : Bool} {ds : List D} {xs : List V} (s : T.Sim g S H) (hl : xs.length ≤ sizeLine) (r : T.RDs g xs ds) (q : GoR T T.RD W g σ (mkL m ds S) fun _ H' v _ _ => Q v H') : ∀ p, H p = none → Q (.ref p) (upd H p (.lst xs)) := fun p hp => by
  cases m with
  | true =>
    obtain ⟨s', l, e⟩ := s.lay hp (ObR.lst (K := T.K) (cA := T.cA) (nh := T.nh) hl r)
    simp only [mkL, if_true] at q
    exact q.to l s' (RD.loc e)
  | false =>
    obtain ⟨s', l⟩ := s.frz (.lst xs) hp
    simp only [mkL, Bool.false_eq_true, if_false] at q
    exact q.to l s' (RD.lst upd_same hl (RDs.mono T.K l r))
theorem mkD_ok {m : Bool} {ks : List Key} {ds : List D} {xs : List V} (s : T.Sim g S H) (hl : ks.length = xs.length) (r : T.RDs g xs ds) (q : GoR T T.RD W g σ (mkD m ks ds S) fun _ H' v _ _ => Q v H') : ∀ p, H p = none → Q (.ref p) (upd H p (.dK (ks.zip xs))) := fun p hp => by
  cases m with
  | true =>
    obtain ⟨s', l, e⟩ := s.lay hp (ObR.dct (K := T.K) (cA := T.cA) (nh := T.nh) hl r)
    simp only [mkD, if_true] at q
    exact q.to l s' (RD.loc e)
  | false =>
    obtain ⟨s', l⟩ := s.frz (.dK (ks.zip xs)) hp
    simp only [mkD, Bool.false_eq_true, if_false] at q
    exact q.to l s' (RD.dct upd_same hl (RDs.mono T.K l r))
/-- what is wanted where a new tuple is laid -/
def NewT (Q : VK) (H : Hp) (xs : List V) : Prop := ∀ p o, H p = none → o.dict = none → Q (.ref p) (upd H p (.frz o (.tup xs)))
theorem mkT_ok {ds : List D} {xs : List V} (s : T.Sim g S H) (hl : xs.length ≤ sizeLine) (r : T.RDs g xs ds) (q : GoR T T.RD W g σ (.ok (.tup ds) S) fun _ H' v _ _ => Q v H') : NewT Q H xs := fun p o hp hd => by
  obtain ⟨s', l⟩ := s.frz (.frz o (.tup xs)) hp
  exact q.to l s' (.tup ⟨.inl (.inr ⟨o, upd_same⟩), .inl ⟨o, _, upd_same, hd⟩⟩ hl (RDs.mono T.K l r))
end
end CT

end
section
set_option maxHeartbeats 4000000
/-! callturn proofs, part ca: tuple * 0, tuple * 1 -/
namespace CT
open PySem PySem.Spec PyProof.Rows L2
theorem tm0 (l : Addr) (items : Array Value) (n : Nat) (dd : Option Addr) (sl : Array (Option Value)) (u : Tok) (c1 : items.isEmpty = false) :
    Meets (Builtin.«tuple.__mul__» ⟨[.ref l, .int 0 u], []⟩) (fun _ R z => z.heap.get? l = some { cls := .type "tuple", dict := dd, data := .seq items n, slots := sl } ∧
      R (.ok (.ret (Value.ref z.heap.objs.size))) { z with heap := z.heap.push { cls := Value.type "tuple", data := Data.seq #[] }, toks := z.toks }) :=
  .of_wp fun prog w A R z h => by
    obtain ⟨hp, g, d, tk, os⟩ := z
    obtain ⟨hl, h⟩ := h
    have f1 := AutoSeq1.idx_int
    have c1' : (items.isEmpty || (0 : Int) == 1) = false := by rw [c1]; rfl
    wp_walk using wpAny_loadPart' hl
    repeat (first
      | (refine wpAny_ite_false (decide_eq_false (by decide)) ?_; wp_walk using wpAny_loadPart' hl)
      | (refine wpAny_ite_false (decide_eq_false (by rw [c1']; exact Bool.false_ne_true)) ?_; wp_walk using wpAny_loadPart' hl)
      | (refine wpAny_ite_true (decide_eq_true (by decide)) ?_; wp_walk using wpAny_loadPart' hl))
    all_goals first | exact ⟨_, rfl, h⟩ | skip
theorem tm1 (l : Addr) (items : Array Value) (n : Nat) (sl : Array (Option Value)) (dd : Option Addr) (u : Tok) (k : Int) (k0 : 0 ≤ k) (k1 : k ≤ 1000) (c1' : (items.isEmpty || k == 1) = true) :
    Meets (Builtin.«tuple.__mul__» ⟨[.ref l, .int k u], []⟩) (fun _ R z => z.heap.get? l = some { cls := .type "tuple", dict := dd, data := .seq items n, slots := sl } ∧ R (.ok (.ret (Value.ref l))) z) :=
  .of_wp fun prog w A R z h => by
    obtain ⟨hp, g, d, tk, os⟩ := z
    obtain ⟨hl, h⟩ := h
    have f1 := AutoSeq1.idx_int
    have c0 : (decide (k < -(2 ^ 63)) || decide (k ≥ 2 ^ 63)) = false := by
      rw [decide_eq_false (by omega), decide_eq_false (by omega)] <;> rfl
    wp_walk using wpAny_loadPart' hl
    repeat (first
      | (refine wpAny_ite_false (decide_eq_false (by decide)) ?_; wp_walk using wpAny_loadPart' hl)
      | (refine wpAny_ite_false (decide_eq_false (by rw [c0]; exact Bool.false_ne_true)) ?_; wp_walk using wpAny_loadPart' hl)
      | (refine wpAny_ite_true (decide_eq_true (by rw [c1'])) ?_; wp_walk using wpAny_loadPart' hl)
      | (refine wpAny_ite_true (decide_eq_true (by decide)) ?_; wp_walk using wpAny_loadPart' hl))
    all_goals first | exact ⟨_, rfl, h⟩ | skip
section
variable {X : Cx}
/-- a new tuple is laid -/
theorem tnew {pins : List (Addr × Obj)} {σ : LSt} {H : Hp} {s : Shared} (I : Inv X pins σ H s) {xs : List V} {its : List Value} (r : Vals xs its) (hz : xs.length ≤ sizeLine) {Q : VK} (q : NewT Q H xs) (t' : Nat) :
    EP X pins σ Q (.ref s.heap.objs.size) { s with heap := s.heap.push { cls := .type "tuple", data := .seq its.toArray }, toks := t' } :=
  ⟨.ref s.heap.objs.size, _, I.laid (t' := t') (o := .frz { cls := .type "tuple", data := .seq its.toArray } (.tup xs)) (fun b ob e => Heap.get?_push_of_some _ e) (Nat.le_refl _) ⟨Heap.get?_push_size _ rfl, hz, its, r, IsTup.new _ _⟩, rfl, q _ _ (I.hok.fresh (Nat.le_refl _)) rfl⟩
def tTupF (t : TA) : TE := fun σ H Q => t σ H fun xs H1 => xs.length ≤ sizeLine ∧ NewT Q H1 xs
theorem pe_tupF {es : List Expr} {t : TA} {pos : Pos} {k : Nat} (h : PA X es t) : PE X (.Tuple es k pos) (tTupF t) := by
  refine ⟨fun pins s σ H Q I hq => wpAny_Tuple_spliced (thn (h.run pos pins s σ H _ I hq) fun us s1 hh => ?_)⟩
  obtain ⟨xs, H1, I1, r, z, q⟩ := hh
  exact ⟨by rw [← r.length]; exact z, tnew I1 r z q s1.toks⟩
def rTupF (K : PySem.W.Frag) : List V → Hp → VK → Prop := fun xs H Q => ∃ p ys, xs = [.ref p] ∧ ((SqL K H p ys ∧ NewT Q H ys) ∨ (SqT K H p ys ∧ Q (.ref p) H))
theorem call_tupleF : CallR X (.type "tuple") (rTupF X.K) := by
  intro pins s σ H xs us Q I r h
  obtain ⟨p, ys, rfl, h⟩ := h
  rcases h with ⟨hq, q⟩ | ⟨hq, q⟩
  · obtain ⟨u, rfl, rx⟩ := Vals.one r
    cases rx
    obtain ⟨its, r2, pl, hz⟩ := I.list hq
    have hl := r2.length
    refine call_tuple_list pl.isList (fun h2 kp => ?_) (by simp only [List.size_toArray] <;> omega)
    exact tnew (s := { s with heap := h2 }) (I.kept (t' := s.toks) kp) r2 hz q s.toks
  · exact call_tupleT pins s σ H _ us Q I r ⟨p, ys, rfl, hq, q⟩
def rCatF (K : PySem.W.Frag) : R2 := fun x y H Q => ∃ a b xs ys, x = .ref a ∧ y = .ref b ∧ SqT K H a xs ∧ SqT K H b ys ∧ xs.length + ys.length ≤ sizeLine ∧
  (xs = [] → Q (.ref b) H) ∧ (xs ≠ [] → ys = [] → Q (.ref a) H) ∧ (xs ≠ [] → ys ≠ [] → NewT Q H (xs ++ ys))
theorem op_catF : OpR X (binaryOp .Add) (rCatF X.K) := by
  intro pins s σ H x y v u Q I rx ry h
  obtain ⟨a, b, xs, ys, rfl, rfl, ha, hb, hz, q0, q1, q2⟩ := h
  cases rx
  cases ry
  obtain ⟨is1, r1, p1, _⟩ := I.tuple ha
  obtain ⟨is2, r2, p2, _⟩ := I.tuple hb
  by_cases hx : xs = []
  · subst hx
    cases r1
    exact cat_tup0 p1 p2 ⟨.ref b, H, I, rfl, q0 rfl⟩
  · refine HT.cat_tup p1 p2 (fun z => hx (r1.nil_iff.mp z)) (fun z => ⟨.ref a, H, I, rfl, q1 hx (r2.nil_iff.mp z)⟩) (fun z => ?_) (by rw [← r1.length, ← r2.length]; exact hz)
    exact tnew I (r1.append r2) (by rw [List.length_append]; exact hz) (q2 hx fun w => z (r2.nil_iff.mpr w)) s.toks
def rSlF (K : PySem.W.Frag) : V → Option Int → Option Int → Hp → VK → Prop := fun x lo hi H Q => ∃ a xs, x = .ref a ∧ SqT K H a xs ∧
  (HT.sIx xs.length 0 lo = 0 ∧ HT.sIx xs.length xs.length hi = xs.length → Q (.ref a) H) ∧ (¬ (HT.sIx xs.length 0 lo = 0 ∧ HT.sIx xs.length xs.length hi = xs.length) → NewT Q H (cutV xs lo hi))
theorem sl_tupF : SlR X (rSlF X.K) := by
  intro pins s σ H x v vl vu lo hi sl Q I rx hs pl pu h
  obtain ⟨a, xs, rfl, hx, q1, q2⟩ := h
  cases rx
  obtain ⟨its, r, ht, hz⟩ := I.tuple hx
  have hl : its.toArray.size = xs.length := by rw [List.size_toArray]; exact r.length.symm
  refine ⟨"tuple", _, PyProof.Rows.slot_tuple_getitem.lookup, ht.typeIs, ?_⟩
  by_cases hw : HT.sIx xs.length 0 lo = 0 ∧ HT.sIx xs.length xs.length hi = xs.length
  · exact getItem_tuple_whole ht hs pl pu (by rw [hl]; exact hw) ⟨.ref a, H, I, rfl, q1 hw⟩
  · refine HT.getItem_tuple_cut ht hs pl pu (by rw [hl]; exact hw) ?_ (by rw [hl]; exact hz)
    rw [hl]
    have rr := (r.drop (HT.sIx xs.length 0 lo)).take (HT.sIx xs.length xs.length hi - HT.sIx xs.length 0 lo)
    exact tnew I rr (Nat.le_trans (cutV_length xs lo hi) hz) (q2 hw) s.toks
def rRepF (K : PySem.W.Frag) : R2 := fun x y H Q => ∃ l k xs, x = .ref l ∧ y = .int k ∧ SqT K H l xs ∧ xs ≠ [] ∧ 2 ≤ k ∧ k ≤ 1000 ∧ xs.length ≤ 1000 ∧ NewT Q H (List.replicate k.toNat xs).flatten
theorem op_repF : OpR X (binaryOp .Mult) (rRepF X.K) := by
  intro pins s σ H x y v u Q I rx ry h
  obtain ⟨l, k, xs, rfl, rfl, hT, hne, k1, k2, hz, q⟩ := h
  cases rx
  obtain ⟨t, rfl⟩ := ry
  obtain ⟨its, r, ⟨⟨cls, dd, data, sl⟩, ho, hc, n, hd⟩, hs⟩ := I.tuple hT
  simp only at hc hd
  subst hc hd
  have hl : its.length = xs.length := r.length.symm
  have hi : its.toArray.isEmpty = false := by
    cases its with
    | nil => exact absurd (List.eq_nil_of_length_eq_zero hl.symm) hne
    | cons _ _ => rfl
  have m1 : k.toNat * xs.length ≤ 1000 * 1000 := Nat.mul_le_mul (by omega) hz
  have fl : (List.replicate k.toNat its).flatten.length ≤ sizeLine := by
    rw [PyProof.Rows.lm_len_rep_flat, hl, sizeLine_eq]; omega
  have d0 : (decide (k < -(2 ^ 63)) || decide (k ≥ 2 ^ 63)) = false := by
    rw [decide_eq_false (by omega), decide_eq_false (by omega)] <;> rfl
  have d1 : (its.toArray.isEmpty || k == 1) = false := by
    rw [hi, Bool.false_or]; exact beq_eq_false_iff_ne.mpr (by omega)
  have d2 : (decide (k ≤ 0) || its.toArray.isEmpty) = false := by
    rw [hi, Bool.or_false]; exact decide_eq_false (by omega)
  have m2 : ((its.toArray.size : Nat) : Int) * k ≤ 1000000 := by
    rw [List.size_toArray, hl]
    have a1 : ((xs.length : Nat) : Int) * k ≤ 1000 * k := Int.mul_le_mul_of_nonneg_right (by omega) (by omega)
    omega
  have d4 : Builtin.Tuple.tupleTooMany (((its.toArray.size : Nat) : Int) * k) = false := by
    unfold Builtin.Tuple.tupleTooMany
    rw [sizeLine_eq]; exact decide_eq_false (by omega)
  have ty : s.TypeIs (.ref l) "tuple" := ⟨_, ho, rfl⟩
  refine wpAny_binaryOp_repeat_ref (T := "tuple") (U := "int") (by decide) ty (fun s' => typeIs_int s' k t) noFill_tuple_mul F.fills_int_mul F.slot_int_rmul repeat_tuple F.slot_int_index.lookup
    (call_meets F.slot_int_rmul (typeIs_int s k t) F.entry_int_rmul (F.args_int_rmul_2 _ _) (int_rmul_tuple k t l its.toArray n dd sl)
      ⟨ho, rfl, ty, call_meets F.slot_tuple_mul ty F.entry_tuple_mul (F.args_tuple_mul_2 _ _) (tuple_mulW l its.toArray n dd sl k t d0 d1 d2 (by omega) d4 (by rw [size_rep, List.size_toArray]; exact fl)) ⟨ho, ?_⟩⟩)
  rw [size_rep]
  exact tnew I (r.rep k.toNat) (by rw [PyProof.Rows.lm_len_rep_flat, sizeLine_eq]; omega) q s.toks
end
theorem op_rep01 {X : Cx} : OpR X (binaryOp .Mult) (fun x y H Q => ∃ l k xs, x = .ref l ∧ y = .int k ∧ SqT X.K H l xs ∧ ((k = 0 ∧ xs ≠ [] ∧ NewT Q H []) ∨ (0 ≤ k ∧ k ≤ 1000 ∧ (xs = [] ∨ k = 1) ∧ Q (.ref l) H))) := by
  intro pins z σ H x y v u Q I rx ry h
  obtain ⟨l, k, xs, rfl, rfl, hT, q⟩ := h
  cases rx
  obtain ⟨t, rfl⟩ := ry
  obtain ⟨its, r, ⟨⟨cls, dd, data, sl⟩, ho, hc, n, hd⟩, hs⟩ := I.tuple hT
  simp only at hc hd
  subst hc hd
  have hi : xs ≠ [] → its.toArray.isEmpty = false := fun hne => by
    cases its with
    | nil => exact absurd (List.eq_nil_of_length_eq_zero (by rw [r.length]; rfl)) hne
    | cons a b => rfl
  have ty : z.TypeIs (.ref l) "tuple" := ⟨_, ho, rfl⟩
  rcases q with ⟨rfl, hne, q⟩ | ⟨k0, k1, hk, q⟩
  · refine wpAny_binaryOp_repeat_ref (T := "tuple") (U := "int") (by decide) ty (fun s' => typeIs_int s' 0 t) noFill_tuple_mul F.fills_int_mul F.slot_int_rmul repeat_tuple F.slot_int_index.lookup
      (call_meets F.slot_int_rmul (typeIs_int z 0 t) F.entry_int_rmul (F.args_int_rmul_2 _ _) (int_rmul_tuple 0 t l its.toArray n dd sl)
        ⟨ho, rfl, ty, call_meets F.slot_tuple_mul ty F.entry_tuple_mul (F.args_tuple_mul_2 _ _) (tm0 l its.toArray n dd sl t (hi hne)) ⟨ho, ?_⟩⟩)
    exact tnew I .nil (Nat.zero_le _) q z.toks
  · have c1 : (its.toArray.isEmpty || k == 1) = true := by
      rcases hk with rfl | rfl
      · cases r; rfl
      · simp
    refine wpAny_binaryOp_repeat_ref (T := "tuple") (U := "int") (by decide) ty (fun s' => typeIs_int s' k t) noFill_tuple_mul F.fills_int_mul F.slot_int_rmul repeat_tuple F.slot_int_index.lookup
      (call_meets F.slot_int_rmul (typeIs_int z k t) F.entry_int_rmul (F.args_int_rmul_2 _ _) (int_rmul_tuple k t l its.toArray n dd sl)
        ⟨ho, rfl, ty, call_meets F.slot_tuple_mul ty F.entry_tuple_mul (F.args_tuple_mul_2 _ _) (tm1 l its.toArray n sl dd t k k0 k1 c1) ⟨ho, ?_⟩⟩)
    exact ⟨.ref l, H, I, rfl, q⟩
end CT

end
section
set_option maxHeartbeats 4000000
/-! callturn proofs, part d: operators and comparisons upon data -/
namespace CT
open PySem PySem.Spec PyProof.Rows L2

theorem OpR.imp {X : Cx} {f : Value → Value → Sem Value} {r r' : R2} (h : OpR X f r) (k : ∀ x y H Q, r' x y H Q → r x y H Q) : OpR X f r' :=
  fun pins s σ H x y v u Q I rx ry q => h pins s σ H x y v u Q I rx ry (k x y H Q q)

section
variable {T : Tb} {W : WX} {X : Cx}
theorem small_ok {i j : Int} (h : (small i || small j) = true) : CMul i j := by
  rcases Bool.or_eq_true_iff.mp h with h | h
  · obtain ⟨a, b⟩ := Bool.and_eq_true_iff.mp h
    exact .inl ⟨of_decide_eq_true a, of_decide_eq_true b⟩
  · obtain ⟨a, b⟩ := Bool.and_eq_true_iff.mp h
    exact .inr ⟨of_decide_eq_true a, of_decide_eq_true b⟩

theorem o_add (hK : X.K = T.K) (m : Bool) : OpR X (binaryOp .Add) (rTwo T W (binop .add m)) := by
  have c1 : OpR X (binaryOp .Add) (rCatF T.K) := hK ▸ op_catF
  intro pins s σ H x y v u Q I rx ry h
  obtain ⟨g, S, dx, dy, σ', sm, hx, hy, q⟩ := h
  have lists : (∀ z w, (dx = .int z ∧ dy = .int w) → False) → (∀ z w, (dx = .str z ∧ dy = .str w) → False) → (∀ z w, (dx = .tup z ∧ dy = .tup w) → False) →
      wpAny (model X.prog X.w) X.A (binaryOp .Add v u) (EP X pins σ Q) X.xe s := by
    intro n1 n2 n3
    have q' : GoR T T.RD W g σ' (match asM S dx, asM S dy with
      | some a, some b => if fits (a.length + b.length) then mkL m (a ++ b) S else .no
      | _, _ => .no) fun _ H' v _ _ => Q v H' := by
      revert q
      cases dx <;> cases dy <;> first
        | exact fun q => q
        | exact (n1 _ _ ⟨rfl, rfl⟩).elim
        | exact (n2 _ _ ⟨rfl, rfl⟩).elim
        | exact (n3 _ _ ⟨rfl, rfl⟩).elim
    cases ea : asM S dx with
    | none => rw [ea] at q'; exact q'.elim
    | some a =>
      cases eb : asM S dy with
      | none => rw [ea, eb] at q'; exact q'.elim
      | some b =>
        rw [ea, eb] at q'
        simp only at q'
        cases hf : fits (a.length + b.length) with
        | false => rw [hf] at q'; simp only [Bool.false_eq_true, if_false] at q'; exact q'.elim
        | true =>
          rw [hf] at q'
          simp only [if_true] at q'
          obtain ⟨l1, xs, rfl, h1, r1⟩ := asM_ok sm hx ea
          obtain ⟨l2, ys, rfl, h2, r2⟩ := asM_ok sm hy eb
          have hlen : xs.length + ys.length ≤ sizeLine := by rw [r1.length, r2.length]; exact fits_le hf
          exact op_cat pins s σ H _ _ v u Q I rx ry ⟨l1, l2, xs, ys, rfl, rfl, h1, h2, hlen, mkL_ok sm (by rw [List.length_append]; exact hlen) (r1.append r2) q'⟩
  cases hx with
  | int i =>
    cases hy with
    | int j => exact op_add pins s σ H _ _ v u Q I rx ry ⟨i, j, rfl, rfl, q.now sm (.int _)⟩
    | _ => exact lists (by rintro _ _ ⟨h1, h2⟩; first | cases h1; done | cases h2) (by rintro _ _ ⟨h1, h2⟩; first | cases h1; done | cases h2) (by rintro _ _ ⟨h1, h2⟩; first | cases h1; done | cases h2)
  | str i =>
    cases hy with
    | str j =>
      simp only [binop] at q
      cases hf : fits (i.length + j.length) with
      | false => rw [hf] at q; simp only [Bool.false_eq_true, if_false] at q; exact q.elim
      | true =>
        rw [hf] at q
        simp only [if_true] at q
        exact op_add_str pins s σ H _ _ v u Q I rx ry ⟨i, j, rfl, rfl, fits_le hf, q.now sm (.str _)⟩
    | _ => exact lists (by rintro _ _ ⟨h1, h2⟩; first | cases h1; done | cases h2) (by rintro _ _ ⟨h1, h2⟩; first | cases h1; done | cases h2) (by rintro _ _ ⟨h1, h2⟩; first | cases h1; done | cases h2)
  | @tup a xs ds qx lx rx' =>
    cases hy with
    | @tup b ys es qy ly ry' =>
      simp only [binop] at q
      cases hf : fits (ds.length + es.length) with
      | false => rw [hf] at q; simp only [Bool.false_eq_true, if_false] at q; exact q.elim
      | true =>
        rw [hf] at q
        simp only [if_true] at q
        have hx' : T.RD g (.ref a) (.tup ds) := .tup qx lx rx'
        have hy' : T.RD g (.ref b) (.tup es) := .tup qy ly ry'
        refine c1 pins s σ H _ _ v u Q I rx ry ⟨a, b, xs, ys, rfl, rfl, sqT_mono sm.sub qx.1, sqT_mono sm.sub qy.1, by rw [rx'.length, ry'.length]; exact fits_le hf, fun e => ?_, fun _ e => ?_, fun _ _ => ?_⟩
        · subst e
          cases rx'
          exact q.now sm hy'
        · subst e
          cases ry'
          rw [List.append_nil] at q
          exact q.now sm hx'
        · exact mkT_ok sm (by rw [List.length_append, rx'.length, ry'.length]; exact fits_le hf) (rx'.append ry') q
    | _ => exact lists (by rintro _ _ ⟨h1, h2⟩; first | cases h1; done | cases h2) (by rintro _ _ ⟨h1, h2⟩; first | cases h1; done | cases h2) (by rintro _ _ ⟨h1, h2⟩; first | cases h1; done | cases h2)
  | _ => exact lists (by rintro _ _ ⟨h1, h2⟩; first | cases h1; done | cases h2) (by rintro _ _ ⟨h1, h2⟩; first | cases h1; done | cases h2) (by rintro _ _ ⟨h1, h2⟩; first | cases h1; done | cases h2)

theorem o_sub (m : Bool) : OpR X (binaryOp .Sub) (rTwo T W (binop .sub m)) := by
  refine OpR.imp op_sub fun x y H Q ⟨g, S, dx, dy, σ', sm, hx, hy, q⟩ => ?_
  cases hx with
  | int i =>
    cases hy with
    | int j => exact ⟨i, j, rfl, rfl, q.now sm (.int _)⟩
    | _ => exact q.elim
  | _ => exact q.elim
theorem o_mod (m : Bool) : OpR X (binaryOp .Mod) (rTwo T W (binop .mod m)) := by
  refine OpR.imp op_mod fun x y H Q ⟨g, S, dx, dy, σ', sm, hx, hy, q⟩ => ?_
  cases hx with
  | int i =>
    cases hy with
    | int j =>
      simp only [binop] at q
      by_cases hj : 0 < j
      · rw [decide_eq_true hj] at q
        simp only [if_true] at q
        exact ⟨i, j, rfl, rfl, hj, q.now sm (.int _)⟩
      · rw [decide_eq_false hj] at q
        exact q.elim
    | _ => exact q.elim
  | _ => exact q.elim
theorem o_fdiv (m : Bool) : OpR X (binaryOp .FloorDiv) (rTwo T W (binop .fdiv m)) := by
  refine OpR.imp op_fdiv fun x y H Q ⟨g, S, dx, dy, σ', sm, hx, hy, q⟩ => ?_
  cases hx with
  | int i =>
    cases hy with
    | int j =>
      simp only [binop] at q
      cases hj : (decide (0 < j) && decide (j < 1073741824)) with
      | true =>
        rw [hj] at q
        simp only [if_true] at q
        obtain ⟨h1, h2⟩ := Bool.and_eq_true_iff.mp hj
        exact ⟨i, j, rfl, rfl, ⟨of_decide_eq_true h1, of_decide_eq_true h2⟩, q.now sm (.int _)⟩
      | false => rw [hj] at q; exact q.elim
    | _ => exact q.elim
  | _ => exact q.elim
theorem bnd {a b : Bool} (h : (a && b) = true) : a = true ∧ b = true := Bool.and_eq_true_iff.mp h
theorem ite_ok {α β : Type} {T : Tb} {rel : Gh → β → α → Prop} {W : WX} {g : Gh} {σ : LSt} {c : Bool} {r : R α} {k : Gh → Hp → β → α → Sto → Prop} (h : GoR T rel W g σ (if c = true then r else .no) k) : c = true ∧ GoR T rel W g σ r k := by
  cases c with
  | true => exact ⟨rfl, by simpa only [if_true] using h⟩
  | false => simp only [Bool.false_eq_true, if_false] at h; exact h.elim
theorem mul_str_ok {a : Str} {k : Int} (h1 : a.length ≤ 1000) (h2 : -1000 ≤ k) (h3 : k ≤ 1000) : PySem.MulOk a k := by
  refine ⟨by rw [decide_eq_false (by omega), decide_eq_false (by omega)] <;> rfl, fun n1 _ => ?_, fun n1 _ => ?_⟩
  · have hk : 0 < k := by omega
    have : (1000 : Int) ≤ (2 ^ 63 - 1) / k := by
      rw [Int.le_ediv_iff_mul_le hk]
      have : (1000 : Int) * k ≤ 1000 * 1000 := by omega
      omega
    omega
  · have : a.length * k.toNat ≤ 1000 * 1000 := Nat.mul_le_mul h1 (by omega)
    unfold PySem.Builtin.Str.tooLong
    first
      | exact decide_eq_false (by rw [sizeLine_eq]; omega)
      | exact decide_eq_false (by omega)
      | (simp only [decide_eq_false_iff_not]; omega)
      | (rw [decide_eq_false]; omega)
theorem o_mul (hK : X.K = T.K) (m : Bool) : OpR X (binaryOp .Mult) (rTwo T W (binop .mul m)) := by
  have c1 : OpR X (binaryOp .Mult) (rRepF T.K) := hK ▸ op_repF
  have c2' := op_rep01 (X := X)
  rw [hK] at c2'
  intro pins s σ H x y v u Q I rx ry h
  obtain ⟨g, S, dx, dy, σ', sm, hx, hy, q⟩ := h
  cases hy with
  | int j =>
    have lists : GoR T T.RD W g σ' (match asM S dx with
      | some a => if decide (a.length ≤ 1000) && (decide (-1000 ≤ j) && decide (j ≤ 1000)) then mkL m (rep j.toNat a) S else .no
      | none => .no) (fun _ H' v _ _ => Q v H') → wpAny (model X.prog X.w) X.A (binaryOp .Mult v u) (EP X pins σ Q) X.xe s := by
      intro q'
      cases ea : asM S dx with
      | none => rw [ea] at q'; exact q'.elim
      | some a =>
        rw [ea] at q'
        obtain ⟨hc, q''⟩ := ite_ok q'
        obtain ⟨c1', c2⟩ := bnd hc
        obtain ⟨c2, c3⟩ := bnd c2
        have b1 := of_decide_eq_true c1'
        have b2 := of_decide_eq_true c2
        have b3 := of_decide_eq_true c3
        obtain ⟨l1, xs, rfl, h1, r1⟩ := asM_ok sm hx ea
        have hz : xs.length * j.toNat ≤ sizeLine := by
          rw [r1.length, sizeLine_eq]
          have : a.length * j.toNat ≤ 1000 * 1000 := Nat.mul_le_mul b1 (by omega)
          omega
        exact op_rep pins s σ H _ _ v u Q I rx ry ⟨l1, j, xs, rfl, rfl, h1, by omega, by omega, hz, mkL_ok sm (by rw [PyProof.Rows.lm_len_rep_flat, Nat.mul_comm]; exact hz) (r1.flatten_rep j.toNat) q''⟩
    cases hx with
    | int i =>
      simp only [binop] at q
      obtain ⟨hc, q'⟩ := ite_ok q
      exact op_mul pins s σ H _ _ v u Q I rx ry ⟨i, j, rfl, rfl, small_ok hc, q'.now sm (.int _)⟩
    | str a =>
      simp only [binop] at q
      obtain ⟨hc, q'⟩ := ite_ok q
      obtain ⟨c1', c2⟩ := bnd hc
      obtain ⟨c2, c3⟩ := bnd c2
      obtain ⟨t, rfl⟩ := rx
      obtain ⟨t', rfl⟩ := ry
      exact PySem.SB.mul (mul_str_ok (of_decide_eq_true c1') (of_decide_eq_true c2) (of_decide_eq_true c3)) fun t2 k => ⟨.str _, H, I.tok k, ⟨_, rfl⟩, q'.now sm (.str _)⟩
    | @tup a xs ds qx lx rx' =>
      simp only [binop] at q
      obtain ⟨hc, q'⟩ := ite_ok q
      obtain ⟨c1', c3⟩ := bnd hc
      obtain ⟨c3, c4⟩ := bnd c3
      have b1 := of_decide_eq_true c1'
      have b3 := of_decide_eq_true c3
      have b5 := of_decide_eq_true c4
      by_cases hne : xs = []
      · subst hne
        cases rx'
        have e1 : rep j.toNat ([] : List D) = [] := by simp [rep]
        rw [e1] at q'
        exact c2' pins s σ H _ _ v u Q I rx ry ⟨a, j, [], rfl, rfl, sqT_mono sm.sub qx.1, .inr ⟨b3, b5, .inl rfl, q'.now sm (.tup qx lx .nil)⟩⟩
      by_cases j0 : j = 0
      · subst j0
        exact c2' pins s σ H _ _ v u Q I rx ry ⟨a, 0, xs, rfl, rfl, sqT_mono sm.sub qx.1, .inl ⟨rfl, hne, mkT_ok sm (Nat.zero_le _) (.nil) q'⟩⟩
      by_cases j1 : j = 1
      · subst j1
        have e1 : rep (1 : Int).toNat ds = ds := by simp [rep]
        rw [e1] at q'
        exact c2' pins s σ H _ _ v u Q I rx ry ⟨a, 1, xs, rfl, rfl, sqT_mono sm.sub qx.1, .inr ⟨by omega, by omega, .inr rfl, q'.now sm (.tup qx lx rx')⟩⟩
      refine c1 pins s σ H _ _ v u Q I rx ry ⟨a, j, xs, rfl, rfl, sqT_mono sm.sub qx.1, hne, by omega, of_decide_eq_true c4, by rw [rx'.length]; exact b1, mkT_ok sm ?_ (rx'.flatten_rep j.toNat) q'⟩
      · have b4 := of_decide_eq_true c4
        rw [PyProof.Rows.lm_len_rep_flat, sizeLine_eq, rx'.length]
        have : j.toNat * ds.length ≤ 1000 * 1000 := Nat.mul_le_mul (by omega) b1
        omega
    | lst qx _ rx' => exact lists q
    | loc qx => exact lists q
    | scr qx => exact lists q
    | _ => exact q.elim
  | _ => cases hx <;> exact q.elim
theorem o_bin (hK : X.K = T.K) (m : Bool) : ∀ {o : BOp} {op : Operator}, (match o, op with | .add, .Add => true | .sub, .Sub => true | .mul, .Mult => true | .mod, .Mod => true | .fdiv, .FloorDiv => true | _, _ => false) = true →
    OpR X (binaryOp op) (rTwo T W (binop o m))
  | .add, op, h => by cases op <;> first | exact o_add hK m | cases h
  | .sub, op, h => by cases op <;> first | exact o_sub m | cases h
  | .mul, op, h => by cases op <;> first | exact o_mul hK m | cases h
  | .mod, op, h => by cases op <;> first | exact o_mod m | cases h
  | .fdiv, op, h => by cases op <;> first | exact o_fdiv m | cases h
end
end CT

end
section
set_option maxHeartbeats 4000000
/-! callturn proofs, part e: comparisons upon data -/
namespace CT
open PySem PySem.Spec PyProof.Rows L2
mutual
def toP : D → PyData
  | .non => .none
  | .bl b => .bool b
  | .int i => .int i
  | .str s => .str s
  | .tup ds => .tuple (toPs ds)
  | .lst ds => .list (toPs ds)
  | _ => .none
def toPs : List D → List PyData
  | [] => []
  | d :: r => toP d :: toPs r
end
mutual
theorem dp_of {T : Tb} {g : Gh} {H : Hp} (s : ∀ a o, g.Hf a = some o → H a = some o) : ∀ {n : Nat} {v : V} {d : D}, T.RD g v d → D.deep n d = true → Dp T.K H v (toP d)
  | _, _, _, .non, _ => .non
  | _, _, _, .bl b, _ => .bl b
  | _, _, _, .int i, _ => .int i
  | _, _, _, .str x, _ => .str x
  | 0, _, _, .tup _ _ _, h => by simp [D.deep] at h
  | n + 1, _, _, .tup q _ r, h => .tup (sqT_mono s q.1) (dps_of s (n := n) r (by simpa only [D.deep] using h))
  | 0, _, _, .lst _ _ _, h => by simp [D.deep] at h
  | n + 1, _, _, .lst q _ r, h => .lst (SqL.of (s _ _ q)) (dps_of s (n := n) r (by simpa only [D.deep] using h))
  | n, _, _, .dct _ _ _, h => by cases n <;> simp [D.deep] at h
  | n, _, _, .loc _, h => by cases n <;> simp [D.deep] at h
  | n, _, _, .scr _, h => by cases n <;> simp [D.deep] at h
theorem dps_of {T : Tb} {g : Gh} {H : Hp} (s : ∀ a o, g.Hf a = some o → H a = some o) : ∀ {n : Nat} {v : List V} {d : List D}, T.RDs g v d → deeps n d = true → DpAll T.K H v (toPs d)
  | _, _, _, .nil, _ => .nil
  | n, _, _, .cons a b, h => by
    simp only [deeps, Bool.and_eq_true] at h
    exact .cons (dp_of s (n := n) a h.1) (dps_of s (n := n) b h.2)
end
mutual
theorem lay_of : ∀ (n : Nat) (d : D), D.deep n d = true → (toP d).canLay0 = true ∧ (toP d).depth ≤ n
  | _, .non, _ => ⟨by simp [toP, PyData.canLay0], by simp [toP, PyData.depth]⟩
  | _, .bl _, _ => ⟨by simp [toP, PyData.canLay0], by simp [toP, PyData.depth]⟩
  | _, .int _, _ => ⟨by simp [toP, PyData.canLay0], by simp [toP, PyData.depth]⟩
  | n, .str s, h => ⟨by
      have h' : s.cps.all (· < 1114112) = true := by cases n <;> simpa only [D.deep] using h
      simp only [toP, PyData.canLay0]
      exact h', by simp [toP, PyData.depth]⟩
  | 0, .tup _, h => by simp [D.deep] at h
  | n + 1, .tup ds, h => by
    obtain ⟨a, b⟩ := lays_of n ds (by simpa only [D.deep] using h)
    exact ⟨by simpa only [toP, PyData.canLay0] using a, by simp only [toP, PyData.depth]; omega⟩
  | 0, .lst _, h => by simp [D.deep] at h
  | n + 1, .lst ds, h => by
    obtain ⟨a, b⟩ := lays_of n ds (by simpa only [D.deep] using h)
    exact ⟨by simpa only [toP, PyData.canLay0] using a, by simp only [toP, PyData.depth]; omega⟩
  | n, .dct _ _, h => by cases n <;> simp [D.deep] at h
  | n, .loc _, h => by cases n <;> simp [D.deep] at h
  | n, .scr _, h => by cases n <;> simp [D.deep] at h
theorem lays_of : ∀ (n : Nat) (d : List D), deeps n d = true → PyData.canLayAll0 (toPs d) = true ∧ PyData.depthAll (toPs d) ≤ n
  | _, [], _ => ⟨by simp [toPs, PyData.canLayAll0], by simp [toPs, PyData.depthAll]⟩
  | n, d :: r, h => by
    simp only [deeps, Bool.and_eq_true] at h
    obtain ⟨a, b⟩ := lay_of n d h.1
    obtain ⟨a', b'⟩ := lays_of n r h.2
    exact ⟨by simp [toPs, PyData.canLayAll0, a, a'], by simp only [toPs, PyData.depthAll]; omega⟩
end
theorem shaped_of {n : Nat} {d : D} (h : D.deep n d = true) (hn : n ≤ 64) : SeqAt.shaped (toP d) = true := by
  obtain ⟨a, b⟩ := lay_of n d h
  unfold SeqAt.shaped
  rw [a, decide_eq_true (Nat.le_trans b hn)]; rfl
mutual
theorem eqv_P : ∀ (n m : Nat) (a b : D), D.deep n a = true → D.deep m b = true → PyData.eqv (toP a) (toP b) = eqv a b
  | n, m, .non, b, _, h => by cases b <;> first | (simp [toP, PyData.eqv, eqv]; done) | (cases m <;> simp [D.deep] at h; done)
  | n, m, .bl a, b, _, h => by
    cases b with
    | int j => simp only [toP, PyData.eqv, eqv, b2i]; rw [Bool.beq_eq_decide_eq]; exact decide_eq_decide.mpr Iff.rfl
    | _ => first | (simp [toP, PyData.eqv, eqv]; done) | (cases m <;> simp [D.deep] at h; done)
  | n, m, .int i, b, _, h => by
    cases b with
    | int j => simp only [toP, PyData.eqv, eqv]; rw [Bool.beq_eq_decide_eq]
    | bl j => simp only [toP, PyData.eqv, eqv, b2i]; rw [Bool.beq_eq_decide_eq]; exact decide_eq_decide.mpr Iff.rfl
    | _ => first | (simp [toP, PyData.eqv, eqv]; done) | (cases m <;> simp [D.deep] at h; done)
  | n, m, .str x, b, _, h => by
    cases b with
    | str y => simp only [toP, PyData.eqv, eqv]; rw [Bool.beq_eq_decide_eq]
    | _ => first | (simp [toP, PyData.eqv, eqv]; done) | (cases m <;> simp [D.deep] at h; done)
  | 0, _, .tup _, _, h, _ => by simp [D.deep] at h
  | 0, _, .lst _, _, h, _ => by simp [D.deep] at h
  | n + 1, m, .tup x, b, h1, h => by
    cases b with
    | tup y =>
      cases m with
      | zero => simp [D.deep] at h
      | succ m =>
        simp only [toP, PyData.eqv, eqv]
        exact eqvs_P n m x y (by simpa only [D.deep] using h1) (by simpa only [D.deep] using h)
    | _ => first | simp [toP, PyData.eqv, eqv]; done | (cases m <;> simp [D.deep] at h)
  | n + 1, m, .lst x, b, h1, h => by
    cases b with
    | lst y =>
      cases m with
      | zero => simp [D.deep] at h
      | succ m =>
        simp only [toP, PyData.eqv, eqv]
        exact eqvs_P n m x y (by simpa only [D.deep] using h1) (by simpa only [D.deep] using h)
    | _ => first | simp [toP, PyData.eqv, eqv]; done | (cases m <;> simp [D.deep] at h)
  | n, _, .dct _ _, _, h, _ => by cases n <;> simp [D.deep] at h
  | n, _, .loc _, _, h, _ => by cases n <;> simp [D.deep] at h
  | n, _, .scr _, _, h, _ => by cases n <;> simp [D.deep] at h
theorem eqvs_P : ∀ (n m : Nat) (a b : List D), deeps n a = true → deeps m b = true → PyData.eqvAll (toPs a) (toPs b) = eqvs a b
  | _, _, [], [], _, _ => by simp [toPs, PyData.eqvAll, eqvs]
  | _, _, [], _ :: _, _, _ => by simp [toPs, PyData.eqvAll, eqvs]
  | _, _, _ :: _, [], _, _ => by simp [toPs, PyData.eqvAll, eqvs]
  | n, m, a :: x, b :: y, h1, h2 => by
    simp only [deeps, Bool.and_eq_true] at h1 h2
    simp only [toPs, PyData.eqvAll, eqvs]
    rw [eqv_P n m a b h1.1 h2.1, eqvs_P n m x y h1.2 h2.2]
end
section
variable {T : Tb} {W : WX} {X : Cx}
theorem flat_of {g : Gh} {v : V} {d : D} (r : T.RD g v d) (h : flat d = true) : flatV v = true ∧ (∀ v' d', T.RD g v' d' → flat d' = true → L2.eqV v v' = eqv d d') := by
  cases r <;> first | (simp [flat] at h; done) | skip
  all_goals
    refine ⟨rfl, fun v' d' r' h' => ?_⟩
    cases r' <;> first | (simp [flat] at h'; done) | rfl | (simp only [L2.eqV, eqv, b2i]; rw [Bool.beq_eq_decide_eq]; done) | (simp only [L2.eqV, eqv, b2i]; rw [Bool.beq_eq_decide_eq]; exact decide_eq_decide.mpr Iff.rfl)
/-- == of two that may be compared -/
theorem eq_two {g : Gh} {H : Hp} {x y : V} {dx dy : D} (sm : ∀ a o, g.Hf a = some o → H a = some o) (hx : T.RD g x dx) (hy : T.RD g y dy) (h : eqOk dx dy = true) :
    (scal x y = true ∧ decide (x = y) = eqv dx dy) ∨ ∃ d e, Dp T.K H x d ∧ Dp T.K H y e ∧ SeqAt.shaped d = true ∧ SeqAt.shaped e = true ∧ PyData.eqv d e = eqv dx dy := by
  rcases Bool.or_eq_true_iff.mp h with h | h
  · obtain ⟨h1, h2⟩ := bnd h
    cases hx <;> first | (simp [flat] at h1; done) | skip
    all_goals
      cases hy <;> first | (simp [flat] at h2; done) | skip
      all_goals first
        | (refine .inl ⟨rfl, ?_⟩; simp [eqv]; done)
        | (refine .inl ⟨rfl, ?_⟩; simp [eqv, Bool.beq_eq_decide_eq]; done)
        | (refine .inl ⟨rfl, ?_⟩; simp only [eqv]; exact decide_eq_decide.mpr (by simp))
        | exact .inr ⟨_, _, Dp.bl _, Dp.int _, rfl, rfl, by simp only [PyData.eqv, eqv, b2i]; rw [Bool.beq_eq_decide_eq]; exact decide_eq_decide.mpr Iff.rfl⟩
        | exact .inr ⟨_, _, Dp.int _, Dp.bl _, rfl, rfl, by simp only [PyData.eqv, eqv, b2i]; rw [Bool.beq_eq_decide_eq]; exact decide_eq_decide.mpr Iff.rfl⟩
  · obtain ⟨h1, h2⟩ := bnd h
    exact .inr ⟨_, _, dp_of sm hx h1, dp_of sm hy h2, shaped_of h1 (by decide), shaped_of h2 (by decide), eqv_P 50 50 dx dy h1 h2⟩
/-- the heap as it stands, looked at -/
abbrev now (g : Gh) (H : Hp) : Gh := { g with Hf := H }
theorem le_now {g : Gh} {S : Sto} {H : Hp} (sm : T.Sim g S H) : g.le (now g H) := ⟨⟨[], by simp⟩, sm.sub, rfl⟩
theorem look_ok {g : Gh} {S : Sto} {H : Hp} {x : V} {d : D} (sm : T.Sim g S H) (hx : T.RD g x d) : T.RD (now g H) x (look S d) := by
  have h0 : T.RD (now g H) x d := RD.mono T.K (le_now sm) hx
  cases hx with
  | @loc a n q =>
    simp only [look]
    cases e : S[n]? with
    | none => exact h0
    | some o =>
      cases o with
      | lst ds =>
        obtain ⟨_, ho, q2, q3⟩ := sm.obj n a _ q e (by simp)
        cases q3 with
        | lst l r => exact .lst q2 l (RDs.mono T.K (le_now sm) r)
      | _ => exact h0
  | _ => exact h0
theorem o_eq (hK : X.K = T.K) (hu : X.A.units + 64 < cLine) : OpR X (compareOp .Eq) (rTwo T W (cmpop .eq)) := by
  have c1 : OpR X (compareOp .Eq) (rEqD T.K) := hK ▸ op_eqD hu
  intro pins s σ H x y v u Q I rx ry h
  obtain ⟨g, S, dx, dy, σ', sm, hx, hy, q⟩ := h
  simp only [cmpop] at q
  obtain ⟨hc, q⟩ := ite_ok q
  rcases eq_two (fun _ _ z => z) (look_ok sm hx) (look_ok sm hy) hc with ⟨h1, h2⟩ | ⟨d, e, h1, h2, h3, h4, h5⟩
  · exact op_eq pins s σ H x y v u Q I rx ry ⟨h1, by rw [h2]; exact q.now sm (.bl _)⟩
  · exact c1 pins s σ H x y v u Q I rx ry ⟨d, e, h1, h2, h3, h4, by rw [h5]; exact q.now sm (.bl _)⟩
theorem o_ne (hK : X.K = T.K) (hu : X.A.units + 64 < cLine) : OpR X (compareOp .NotEq) (rTwo T W (cmpop .ne)) := by
  have c1 : OpR X (compareOp .NotEq) (rNeD T.K) := hK ▸ op_neD hu
  intro pins s σ H x y v u Q I rx ry h
  obtain ⟨g, S, dx, dy, σ', sm, hx, hy, q⟩ := h
  simp only [cmpop] at q
  obtain ⟨hc, q⟩ := ite_ok q
  rcases eq_two (fun _ _ z => z) (look_ok sm hx) (look_ok sm hy) hc with ⟨h1, h2⟩ | ⟨d, e, h1, h2, h3, h4, h5⟩
  · exact op_ne pins s σ H x y v u Q I rx ry ⟨h1, by rw [h2]; exact q.now sm (.bl _)⟩
  · exact c1 pins s σ H x y v u Q I rx ry ⟨d, e, h1, h2, h3, h4, by rw [h5]; exact q.now sm (.bl _)⟩
theorem int_two {o : COp} {p : Int → Int → Bool} (h : ∀ x y S, cmpop o x y S = match x, y with | .int i, .int j => .ok (.bl (p i j)) S | _, _ => .no) : ∀ x y H Q, rTwo T W (cmpop o) x y H Q → ∃ i j, x = V.int i ∧ y = V.int j ∧ Q (.bl (p i j)) H := by
  intro x y H Q ⟨g, S, dx, dy, σ', sm, hx, hy, q⟩
  rw [h] at q
  cases hx with
  | int i =>
    cases hy with
    | int j => exact ⟨i, j, rfl, rfl, q.now sm (.bl _)⟩
    | _ => exact q.elim
  | _ => exact q.elim
theorem o_lt : OpR X (compareOp .Lt) (rTwo T W (cmpop .lt)) := OpR.imp op_lt (int_two (p := fun i j => decide (i < j)) fun _ _ _ => rfl)
theorem o_le : OpR X (compareOp .LtE) (rTwo T W (cmpop .le)) := OpR.imp op_le (int_two (p := fun i j => decide (i ≤ j)) fun _ _ _ => rfl)
theorem o_gt : OpR X (compareOp .Gt) (rTwo T W (cmpop .gt)) := OpR.imp op_gt (int_two (p := fun i j => decide (j < i)) fun _ _ _ => rfl)
theorem o_ge : OpR X (compareOp .GtE) (rTwo T W (cmpop .ge)) := OpR.imp op_ge (int_two (p := fun i j => decide (j ≤ i)) fun _ _ _ => rfl)
def isNonD : D → Bool
  | .non => true
  | _ => false
theorem non_of {g : Gh} {v : V} {d : D} (r : T.RD g v d) : decide (v = .non) = isNonD d := by
  cases r <;> simp [isNonD]
theorem o_is : OpR X (compareOp .Is) (rTwo T W (cmpop .is)) := by
  intro pins s σ H x y v u Q I rx ry h
  obtain ⟨g, S, dx, dy, σ', sm, hx, hy, q⟩ := h
  have hn := non_of hx
  cases hy with
  | non =>
    have q' : GoR T T.RD W g σ' (.ok (.bl (isNonD dx)) S) (fun _ H' v _ _ => Q v H') := by
      cases dx <;> exact q
    exact op_isN pins s σ H x _ v u Q I rx ry ⟨rfl, by rw [hn]; exact q'.now sm (.bl _)⟩
  | bl b =>
    cases hx with
    | bl a => exact op_isBl pins s σ H _ _ v u Q I rx ry ⟨a, b, rfl, rfl, by rw [← Bool.beq_eq_decide_eq]; exact q.now sm (.bl _)⟩
    | _ => exact q.elim
  | _ => cases hx <;> exact q.elim
theorem o_isn : OpR X (compareOp .IsNot) (rTwo T W (cmpop .isn)) := by
  intro pins s σ H x y v u Q I rx ry h
  obtain ⟨g, S, dx, dy, σ', sm, hx, hy, q⟩ := h
  have hn := non_of hx
  cases hy with
  | non =>
    have q' : GoR T T.RD W g σ' (.ok (.bl (!isNonD dx)) S) (fun _ H' v _ _ => Q v H') := by
      cases dx <;> exact q
    exact op_notN pins s σ H x _ v u Q I rx ry ⟨rfl, by rw [hn]; exact q'.now sm (.bl _)⟩
  | bl b =>
    cases hx with
    | bl a => exact op_notBl pins s σ H _ _ v u Q I rx ry ⟨a, b, rfl, rfl, by rw [← Bool.beq_eq_decide_eq]; exact q.now sm (.bl _)⟩
    | _ => exact q.elim
  | _ => cases hx <;> exact q.elim
end
end CT

end
section
set_option maxHeartbeats 4000000
/-! callturn proofs, part f: dicts, truth, in, subscripts, slices, kinds -/
namespace CT
open PySem PySem.Spec PyProof.Rows L2

/-! ### dicts by data -/
section
variable {K : PySem.W.Frag} {g : Gh}
theorem val_zip {k : Key} : ∀ {ks : List Key} {xs : List V} {ds : List D}, ks.length = xs.length → RDs K g xs ds →
    (valV (ks.zip xs) k = none ∧ dget ks ds k = none) ∨ ∃ v d, valV (ks.zip xs) k = some v ∧ dget ks ds k = some d ∧ RD K g v d
  | [], _, _, _, _ => by simp [valV_nil, dget]
  | j :: ks, [], _, h, _ => by simp at h
  | j :: ks, x :: xs, _, h, .cons (d := d) (ds := ds) r rs => by
    by_cases e : j = k
    · refine .inr ⟨x, d, ?_, ?_, r⟩
      · exact valV_pos (p := (j, x)) e
      · simp [dget, e]
    · have e1 : valV ((j, x) :: ks.zip xs) k = valV (ks.zip xs) k := valV_neg (p := (j, x)) e
      have e2 : dget (j :: ks) (d :: ds) k = dget ks ds k := by simp [dget, e]
      rw [List.zip_cons_cons, e1, e2]
      exact val_zip (by simpa using h) rs
theorem any_zip {k : Key} : ∀ {ks : List Key} {xs : List V}, ks.length = xs.length → ((ks.zip xs).any fun kv => decide (kv.1 = k)) = ks.any fun j => decide (j = k)
  | [], _, _ => by simp
  | j :: ks, [], h => by simp at h
  | j :: ks, x :: xs, h => by
    rw [List.zip_cons_cons, List.any_cons, List.any_cons, any_zip (ks := ks) (xs := xs) (by simpa using h)]
theorem map_zip {k : Key} {v : V} {d : D} (r : RD K g v d) : ∀ {ks : List Key} {xs : List V} {ds : List D}, ks.length = xs.length → RDs K g xs ds →
    ∃ ys, (ks.zip xs).map (fun kv => if kv.1 = k then (kv.1, v) else kv) = ks.zip ys ∧ ks.length = ys.length ∧ RDs K g ys (dset ks ds k d)
  | [], [], _, _, .nil => ⟨[], by simp, rfl, by simpa [dset] using RDs.nil⟩
  | j :: ks, [], _, h, _ => by simp at h
  | [], _ :: _, _, h, _ => by simp at h
  | j :: ks, x :: xs, _, h, .cons r1 rs => by
    obtain ⟨ys, e1, e2, e3⟩ := map_zip (k := k) r (ks := ks) (xs := xs) (by simpa using h) rs
    by_cases e : j = k
    · refine ⟨v :: ys, by simp [e, e1], by simp [e2], ?_⟩
      simp only [dset, e, if_true]; exact .cons r e3
    · refine ⟨x :: ys, by simp [e, e1], by simp [e2], ?_⟩
      simp only [dset, e, if_false]; exact .cons r1 e3
theorem put_zip {k : Key} {v : V} {d : D} (r : RD K g v d) {ks : List Key} {xs : List V} {ds : List D} (h : ks.length = xs.length) (rs : RDs K g xs ds) :
    ∃ ys, putK (ks.zip xs) k v = (dput ks ds k d).1.zip ys ∧ (dput ks ds k d).1.length = ys.length ∧ RDs K g ys (dput ks ds k d).2 := by
  unfold putK dput
  rw [any_zip h]
  by_cases c : (ks.any fun j => decide (j = k)) = true
  · rw [if_pos c, if_pos c]
    exact map_zip r h rs
  · rw [if_neg c, if_neg c]
    refine ⟨xs ++ [v], ?_, by simp [h], rs.append (.cons r .nil)⟩
    show ks.zip xs ++ [(k, v)] = (ks ++ [k]).zip (xs ++ [v])
    rw [List.zip_append h]; rfl
theorem merge_zip : ∀ {js : List Key} {ys : List V} {es : List D} {ks : List Key} {xs : List V} {ds : List D}, ks.length = xs.length → RDs K g xs ds → js.length = ys.length → RDs K g ys es →
    ∃ zs, mergeK (ks.zip xs) (js.zip ys) = (dmerge ks ds js es).1.zip zs ∧ (dmerge ks ds js es).1.length = zs.length ∧ RDs K g zs (dmerge ks ds js es).2
  | [], ys, es, ks, xs, ds, h, r, _, _ => ⟨xs, by simp [mergeK, dmerge], by simpa [dmerge] using h, by simpa [dmerge] using r⟩
  | j :: js, [], _, _, _, _, _, _, h, _ => by simp at h
  | j :: js, y :: ys, _, ks, xs, ds, h, r, h', .cons r1 rs => by
    obtain ⟨zs, e1, e2, e3⟩ := put_zip (k := j) r1 h r
    obtain ⟨ws, f1, f2, f3⟩ := merge_zip (js := js) (ys := ys) e2 e3 (by simpa using h') rs
    refine ⟨ws, ?_, by simpa only [dmerge] using f2, by simpa only [dmerge] using f3⟩
    simp only [dmerge]
    rw [← f1, ← e1]
    simp [mergeK]
theorem key_of {v : V} {d : D} {k : Key} (r : RD K g v d) (h : keyOf d = some k) : v = kV k := by
  cases r <;> simp [keyOf] at h
  all_goals (subst h; rfl)
theorem rd_key (k : Key) : RD K g (kV k) (ofKey k) := by
  cases k with
  | inl i => exact .int i
  | inr s => exact .str s
end

/-! ### truth -/
section
variable {T : Tb} {W : WX} {X : Cx} {C : Cal}
theorem truth_ok {g : Gh} {S : Sto} {H : Hp} {x : V} {d : D} {b : Bool} (s : T.Sim g S H) (r : T.RD g x d) (h : truth S d = some b) : TruV T.K x H b := by
  cases r with
  | non => simp [truth] at h; exact h
  | bl c => simp [truth] at h; exact h.symm
  | int i => simp [truth] at h; exact h.symm
  | str z =>
    simp only [truth] at h
    cases hf : fits z.length with
    | false => rw [hf] at h; simp at h
    | true =>
      rw [hf] at h
      simp only [if_true, Option.some.injEq] at h
      refine ⟨fits_le hf, ?_⟩
      rw [← h]
      by_cases hz : z.length = 0
      · simp [hz]
      · have : ((z.length : Int) != 0) = true := by simp; omega
        rw [this]
        simp [hz]
  | tup q _ rs =>
    simp only [truth, Option.some.injEq] at h
    refine .inr (.inl ⟨_, sqT_mono s.sub q.1, ?_⟩)
    rw [← h]; cases rs <;> rfl
  | lst q _ rs =>
    simp only [truth, Option.some.injEq] at h
    refine .inl ⟨_, SqL.of (s.sub _ _ q), ?_⟩
    rw [← h]; cases rs <;> rfl
  | scr q =>
    simp only [truth, Option.some.injEq] at h
    refine .inl ⟨_, sqL_mono s.sub q, ?_⟩
    rw [← h]; simp
  | @dct a ks xs ds q l rs =>
    simp only [truth, Option.some.injEq] at h
    refine .inr (.inr ⟨_, s.sub _ _ q, ?_⟩)
    rw [← h]
    cases ks <;> cases xs <;> simp at l ⊢
  | @loc a n q =>
    simp only [truth] at h
    cases e : S[n]? with
    | none => rw [e] at h; cases h
    | some o =>
      rw [e] at h
      cases o with
      | lst ds =>
        obtain ⟨_, ho, q2, q3⟩ := s.obj n a _ q e (by simp)
        cases q3 with
        | lst _ rs =>
          simp only [Option.some.injEq] at h
          refine .inl ⟨_, SqL.of q2, ?_⟩
          rw [← h]; cases rs <;> rfl
      | dct ks ds =>
        obtain ⟨_, ho, q2, q3⟩ := s.obj n a _ q e (by simp)
        cases q3 with
        | @dct _ xs _ l rs =>
          simp only [Option.some.injEq] at h
          refine .inr (.inr ⟨_, q2, ?_⟩)
          rw [← h]
          cases ks <;> cases xs <;> simp at l ⊢
      | _ => cases h

/-! ### not, and, or, if -/
theorem s_not (hK : X.K = T.K) {a : E} {x : Expr} {pos : Pos} (ha : PE X x (tI T W (ev C a))) : PE X (.UnaryOp .Not x pos) (tI T W (ev C (.not a))) := by
  refine PE.imp (pe_notT ha) fun σ H Q ⟨g, S, e, s, r, q⟩ => ?_
  simp only [ev] at q
  refine ⟨g, S, e, s, r, (GoR.bind q).imp fun g1 H1 v d S1 l1 s1 rd _ q1 => ?_⟩
  obtain ⟨b, h1, h3⟩ := orNo_ok q1
  exact ⟨b, by rw [hK]; exact truth_ok s1 rd h1, h3.now s1 (.bl _)⟩
theorem s_and1 {a : E} {x : Expr} {pos : Pos} (ha : PE X x (tI T W (ev C a))) : PE X (.BoolOp .And [x] pos) (tI T W (evAnd C [a])) :=
  PE.imp (pe_one ha) fun σ H Q ⟨g, S, e, s, r, q⟩ => ⟨g, S, e, s, r, by simpa only [evAnd] using q⟩
theorem s_or1 {a : E} {x : Expr} {pos : Pos} (ha : PE X x (tI T W (ev C a))) : PE X (.BoolOp .Or [x] pos) (tI T W (evOr C [a])) :=
  PE.imp (pe_one ha) fun σ H Q ⟨g, S, e, s, r, q⟩ => ⟨g, S, e, s, r, by simpa only [evOr] using q⟩
theorem s_and (hK : X.K = T.K) {a b : E} {rs : List E} {x y : Expr} {xs : List Expr} {pos : Pos} (ha : PE X x (tI T W (ev C a))) (hb : PE X (.BoolOp .And (y :: xs) pos) (tI T W (evAnd C (b :: rs)))) :
    PE X (.BoolOp .And (x :: y :: xs) pos) (tI T W (evAnd C (a :: b :: rs))) := by
  refine PE.imp (pe_andT ha hb) fun σ H Q ⟨g, S, e, s, r, q⟩ => ?_
  simp only [evAnd] at q
  refine ⟨g, S, e, s, r, (GoR.bind q).imp fun g1 H1 v d S1 l1 s1 rd _ q1 => ?_⟩
  obtain ⟨b', h1, h3⟩ := orNo_ok q1
  refine ⟨b', by rw [hK]; exact truth_ok s1 rd h1, ?_⟩
  cases b' with
  | true => simp only [if_true] at h3 ⊢; exact ⟨g1, S1, e, s1, r.mono l1, h3⟩
  | false => simp only [Bool.false_eq_true, if_false] at h3 ⊢; exact h3.now s1 rd
theorem s_or (hK : X.K = T.K) {a b : E} {rs : List E} {x y : Expr} {xs : List Expr} {pos : Pos} (ha : PE X x (tI T W (ev C a))) (hb : PE X (.BoolOp .Or (y :: xs) pos) (tI T W (evOr C (b :: rs)))) :
    PE X (.BoolOp .Or (x :: y :: xs) pos) (tI T W (evOr C (a :: b :: rs))) := by
  refine PE.imp (pe_orT ha hb) fun σ H Q ⟨g, S, e, s, r, q⟩ => ?_
  simp only [evOr] at q
  refine ⟨g, S, e, s, r, (GoR.bind q).imp fun g1 H1 v d S1 l1 s1 rd _ q1 => ?_⟩
  obtain ⟨b', h1, h3⟩ := orNo_ok q1
  refine ⟨b', by rw [hK]; exact truth_ok s1 rd h1, ?_⟩
  cases b' with
  | true => simp only [if_true] at h3 ⊢; exact h3.now s1 rd
  | false => simp only [Bool.false_eq_true, if_false] at h3 ⊢; exact ⟨g1, S1, e, s1, r.mono l1, h3⟩
end
end CT

end
section
set_option maxHeartbeats 4000000
/-! callturn proofs, part g: in, subscripts, slices, kinds, displays, tests -/
namespace CT
open PySem PySem.Spec PyProof.Rows L2
section
variable {T : Tb} {W : WX} {X : Cx} {C : Cal}
/-! ### in -/
theorem any_flat {g : Gh} {x : V} {dx : D} (rx : T.RD g x dx) (hx : flat dx = true) : ∀ {ys : List V} {ds : List D}, T.RDs g ys ds → ds.all flat = true → ys.all flatV = true ∧ L2.inV x ys = ds.any fun z => eqv z dx
  | _, _, .nil, _ => ⟨rfl, rfl⟩
  | _, _, .cons (v := v) (d := d) r rs, h => by
    simp only [List.all_cons, Bool.and_eq_true] at h
    obtain ⟨a, b⟩ := any_flat rx hx rs h.2
    obtain ⟨c, e⟩ := flat_of r h.1
    refine ⟨by simp [a, c], ?_⟩
    have e' := e x dx rx hx
    simp only [L2.inV, List.any_cons] at b ⊢
    rw [b, e']
theorem anys_P (n m : Nat) (d : D) (hd : D.deep m d = true) : ∀ ds : List D, deeps n ds = true → ((toPs ds).any fun z => PyData.eqv z (toP d)) = ds.any fun z => eqv z d
  | [], _ => rfl
  | a :: r, h => by
    simp only [deeps, Bool.and_eq_true] at h
    simp only [toPs, List.any_cons]
    rw [eqv_P n m a d h.1 hd, anys_P n m d hd r h.2]
theorem in_two {g : Gh} {S : Sto} {H : Hp} {x y : V} {dx dy : D} (sm : T.Sim g S H) (hx : T.RD g x dx) (hy : T.RD g y dy) {ds : List D} (hq : asQ S dy = some ds) (h : inOk dx ds = true) :
    (∃ p xs, y = .ref p ∧ (SqL T.K H p xs ∨ SqT T.K H p xs) ∧ flatV x = true ∧ xs.all flatV = true ∧ L2.inV x xs = ds.any fun z => eqv z dx) ∨
    (∃ d es, Dp T.K H x d ∧ (Dp T.K H y (.list es) ∨ Dp T.K H y (.tuple es)) ∧ SeqAt.shaped d = true ∧ PyData.canLayAll0 es = true ∧ (es.any fun z => PyData.eqv z d) = ds.any fun z => eqv z dx) := by
  obtain ⟨p, xs, rfl, hs, rs⟩ := asQ_ok sm hy hq
  rcases Bool.or_eq_true_iff.mp h with h | h
  · obtain ⟨h1, h2⟩ := bnd h
    obtain ⟨a, b⟩ := any_flat hx h1 rs h2
    exact .inl ⟨p, xs, rfl, hs, (flat_of hx h1).1, a, b⟩
  · obtain ⟨h1, h2⟩ := bnd h
    refine .inr ⟨toP dx, toPs ds, dp_of sm.sub hx h1, ?_, shaped_of h1 (by decide), (lays_of 50 ds h2).1, anys_P 50 50 dx h1 ds h2⟩
    rcases hs with hs | hs
    · exact .inl (.lst hs (dps_of sm.sub rs h2))
    · exact .inr (.tup hs (dps_of sm.sub rs h2))
theorem o_in (hK : X.K = T.K) (hu : X.A.units + 65 < cLine) : OpR X (compareOp .In) (rTwo T W (cmpop .isin)) := by
  have c1 : OpR X (compareOp .In) (rIn T.K false) := hK ▸ op_in_seq
  intro pins s σ H x y v u Q I rx ry h
  obtain ⟨g, S, dx, dy, σ', sm, hx, hy, q⟩ := h
  have rest : (∀ a b, dx = .str a → dy = .str b → False) → wpAny (model X.prog X.w) X.A (compareOp .In v u) (EP X pins σ Q) X.xe s := by
    intro n1
    have q' : GoR T T.RD W g σ' (match asD S dy with
      | some (ks, ds) => match keyOf dx with
        | some k => .ok (.bl (dget ks ds k).isSome) S
        | none => .no
      | none => match asQ S dy with
        | some ds => if inOk dx ds then .ok (.bl (ds.any fun z => eqv z dx)) S else .no
        | none => .no) fun _ H' v _ _ => Q v H' := by
      revert q
      cases dx <;> cases dy <;> first
        | exact fun q => q
        | exact (n1 _ _ rfl rfl).elim
    cases ed : asD S dy with
    | some p =>
      obtain ⟨ks, ds⟩ := p
      rw [ed] at q'
      simp only at q'
      cases ek : keyOf dx with
      | none => rw [ek] at q'; exact q'.elim
      | some k =>
        rw [ek] at q'
        simp only at q'
        obtain ⟨a, xs, rfl, h1, h2, h3⟩ := asD_ok sm hy ed
        obtain rfl := key_of hx ek
        cases ry
        refine d_in (by omega) I (DGet.k (k := k) h1) rx fun s' I' => ⟨.bl _, H, I', rfl, ?_⟩
        rcases val_zip (k := k) h2 h3 with ⟨e1, e2⟩ | ⟨v', d', e1, e2, _⟩
        · rw [e1]; rw [e2] at q'; exact q'.now sm (.bl _)
        · rw [e1]; rw [e2] at q'; exact q'.now sm (.bl _)
    | none =>
      rw [ed] at q'
      simp only at q'
      cases eq' : asQ S dy with
      | none => rw [eq'] at q'; exact q'.elim
      | some ds =>
        rw [eq'] at q'
        obtain ⟨hc, q''⟩ := ite_ok q'
        rcases in_two sm hx hy eq' hc with ⟨p, xs, rfl, h1, h2, h3, h4⟩ | ⟨d, es, h1, h2, h3, h4, h5⟩
        · exact c1 pins s σ H _ _ v u Q I rx ry ⟨p, xs, rfl, h1, h2, h3, by
            show Q (.bl (if false = true then _ else L2.inV x xs)) H
            rw [if_neg Bool.false_ne_true, h4]; exact q''.now sm (.bl _)⟩
        · rw [← hK] at h1 h2
          obtain ⟨as, r1⟩ := Dp.reads I d x v h1 rx
          have hq := q''.now (v := V.bl _) sm (.bl _)
          rw [← h5] at hq
          rcases h2 with h2 | h2
          · obtain ⟨bs, r2⟩ := Dp.reads I (.list es) y u h2 ry
            exact SeqAt.in_list_reads r2 r1 h4 (SeqAt.canLay_of_shaped h3) (room_in_shaped h3 hu) ⟨.bl _, H, I, rfl, hq⟩
          · obtain ⟨bs, r2⟩ := Dp.reads I (.tuple es) y u h2 ry
            exact SeqAt.in_tuple_reads r2 r1 h4 (SeqAt.canLay_of_shaped h3) (room_in_shaped h3 hu) ⟨.bl _, H, I, rfl, hq⟩
  cases hx with
  | str a =>
    cases hy with
    | str b => exact op_in_str pins s σ H _ _ v u Q I rx ry ⟨a, b, rfl, rfl, q.now sm (.bl _)⟩
    | _ => exact rest (by intro _ _ h1 h2; first | cases h1; done | cases h2)
  | _ => exact rest (by intro _ _ h1 h2; cases h1)
theorem o_nin (hK : X.K = T.K) (hu : X.A.units + 65 < cLine) : OpR X (compareOp .NotIn) (rTwo T W (cmpop .nin)) := by
  have c1 : OpR X (compareOp .NotIn) (rIn T.K true) := hK ▸ op_notIn_seq
  intro pins s σ H x y v u Q I rx ry h
  obtain ⟨g, S, dx, dy, σ', sm, hx, hy, q⟩ := h
  have rest : (∀ a b, dx = .str a → dy = .str b → False) → wpAny (model X.prog X.w) X.A (compareOp .NotIn v u) (EP X pins σ Q) X.xe s := by
    intro n1
    have q' : GoR T T.RD W g σ' (match asD S dy with
      | some (ks, ds) => match keyOf dx with
        | some k => .ok (.bl (!(dget ks ds k).isSome)) S
        | none => .no
      | none => match asQ S dy with
        | some ds => if inOk dx ds then .ok (.bl (!ds.any fun z => eqv z dx)) S else .no
        | none => .no) fun _ H' v _ _ => Q v H' := by
      revert q
      cases dx <;> cases dy <;> first
        | exact fun q => q
        | exact (n1 _ _ rfl rfl).elim
    cases ed : asD S dy with
    | some p =>
      obtain ⟨ks, ds⟩ := p
      rw [ed] at q'
      simp only at q'
      cases ek : keyOf dx with
      | none => rw [ek] at q'; exact q'.elim
      | some k =>
        rw [ek] at q'
        simp only at q'
        obtain ⟨a, xs, rfl, h1, h2, h3⟩ := asD_ok sm hy ed
        obtain rfl := key_of hx ek
        cases ry
        refine d_notIn (by omega) I (DGet.k (k := k) h1) rx fun s' I' => ⟨.bl _, H, I', rfl, ?_⟩
        rcases val_zip (k := k) h2 h3 with ⟨e1, e2⟩ | ⟨v', d', e1, e2, _⟩
        · rw [e1]; rw [e2] at q'; exact q'.now sm (.bl _)
        · rw [e1]; rw [e2] at q'; exact q'.now sm (.bl _)
    | none =>
      rw [ed] at q'
      simp only at q'
      cases eq' : asQ S dy with
      | none => rw [eq'] at q'; exact q'.elim
      | some ds =>
        rw [eq'] at q'
        obtain ⟨hc, q''⟩ := ite_ok q'
        rcases in_two sm hx hy eq' hc with ⟨p, xs, rfl, h1, h2, h3, h4⟩ | ⟨d, es, h1, h2, h3, h4, h5⟩
        · exact c1 pins s σ H _ _ v u Q I rx ry ⟨p, xs, rfl, h1, h2, h3, by
            show Q (.bl (if true = true then !L2.inV x xs else _)) H
            rw [if_pos rfl, h4]; exact q''.now sm (.bl _)⟩
        · rw [← hK] at h1 h2
          obtain ⟨as, r1⟩ := Dp.reads I d x v h1 rx
          have hq := q''.now (v := V.bl _) sm (.bl _)
          rw [← h5] at hq
          rcases h2 with h2 | h2
          · obtain ⟨bs, r2⟩ := Dp.reads I (.list es) y u h2 ry
            exact SeqAt.notIn_list_reads r2 r1 h4 (SeqAt.canLay_of_shaped h3) (room_in_shaped h3 hu) ⟨.bl _, H, I, rfl, hq⟩
          · obtain ⟨bs, r2⟩ := Dp.reads I (.tuple es) y u h2 ry
            exact SeqAt.notIn_tuple_reads r2 r1 h4 (SeqAt.canLay_of_shaped h3) (room_in_shaped h3 hu) ⟨.bl _, H, I, rfl, hq⟩
  cases hx with
  | str a =>
    cases hy with
    | str b => exact op_notIn_str pins s σ H _ _ v u Q I rx ry ⟨a, b, rfl, rfl, q.now sm (.bl _)⟩
    | _ => exact rest (by intro _ _ h1 h2; first | cases h1; done | cases h2)
  | _ => exact rest (by intro _ _ h1 h2; cases h1)
theorem o_cmp (hK : X.K = T.K) (hu : X.A.units + 65 < cLine) : ∀ {o : COp} {op : CmpOp}, (match o, op with | .eq, .Eq => true | .ne, .NotEq => true | .lt, .Lt => true | .le, .LtE => true | .gt, .Gt => true | .ge, .GtE => true | .is, .Is => true | .isn, .IsNot => true | .isin, .In => true | .nin, .NotIn => true | _, _ => false) = true →
    OpR X (compareOp op) (rTwo T W (cmpop o))
  | .eq, op, h => by cases op <;> first | exact o_eq hK (by omega) | cases h
  | .ne, op, h => by cases op <;> first | exact o_ne hK (by omega) | cases h
  | .lt, op, h => by cases op <;> first | exact o_lt | cases h
  | .le, op, h => by cases op <;> first | exact o_le | cases h
  | .gt, op, h => by cases op <;> first | exact o_gt | cases h
  | .ge, op, h => by cases op <;> first | exact o_ge | cases h
  | .is, op, h => by cases op <;> first | exact o_is | cases h
  | .isn, op, h => by cases op <;> first | exact o_isn | cases h
  | .isin, op, h => by cases op <;> first | exact o_in hK hu | cases h
  | .nin, op, h => by cases op <;> first | exact o_nin hK hu | cases h
end
end CT

end
section
set_option maxHeartbeats 4000000
/-! callturn proofs, part h: chains, subscripts, slices, kinds, displays, tests -/
namespace CT
open PySem PySem.Spec PyProof.Rows L2
theorem CallR.imp {X : Cx} {f : Value} {r r' : List V → Hp → VK → Prop} (h : CallR X f r) (k : ∀ xs H Q, r' xs H Q → r xs H Q) : CallR X f r' :=
  fun pins s σ H xs us Q I rx q => h pins s σ H xs us Q I rx (k xs H Q q)
section
variable {T : Tb} {W : WX} {X : Cx} {C : Cal}
theorem int?_ok {g : Gh} {v : V} {d : D} {i : Int} (r : T.RD g v d) (h : d.int? = some i) : v = .int i ∧ d = .int i := by
  cases r <;> simp [D.int?] at h
  subst h; exact ⟨rfl, rfl⟩
theorem str?_ok {g : Gh} {v : V} {d : D} {i : Str} (r : T.RD g v d) (h : d.str? = some i) : v = .str i ∧ d = .str i := by
  cases r <;> simp [D.str?] at h
  subst h; exact ⟨rfl, rfl⟩
theorem bl?_ok {g : Gh} {v : V} {d : D} {i : Bool} (r : T.RD g v d) (h : d.bl? = some i) : v = .bl i ∧ d = .bl i := by
  cases r <;> simp [D.bl?] at h
  subst h; exact ⟨rfl, rfl⟩
/-- a comparison gives a truth -/
theorem rTwo_bl {o : COp} {g : Gh} {S : Sto} {H : Hp} {σ : LSt} {x y : V} {dx dy : D} {f : D → Sto → R D} {Q : VK} (sm : T.Sim g S H) (hx : T.RD g x dx) (hy : T.RD g y dy)
    (h : GoR T T.RD W g σ ((cmpop o dx dy S).bind f) fun _ H' v _ _ => Q v H') : rTwo T W (cmpop o) x y H fun z H' => ∃ g' S' d, g.le g' ∧ T.Sim g' S' H' ∧ T.RD g' z d ∧ GoR T T.RD W g' σ (f d S') fun _ H' v _ _ => Q v H' :=
  ⟨g, S, dx, dy, σ, sm, hx, hy, (GoR.bind h).imp fun g1 H1 v d S1 l1 s1 rd _ q1 => ⟨g1, S1, d, l1, s1, rd, q1⟩⟩
theorem s_neg {a : E} {x : Expr} {pos : Pos} (ha : PE X x (tI T W (ev C a))) : PE X (.UnaryOp .USub x pos) (tI T W (ev C (.neg a))) := by
  refine PE.imp (pe_un un_neg ha) fun σ H Q ⟨g, S, e, s, r, q⟩ => ?_
  simp only [ev] at q
  refine ⟨g, S, e, s, r, (GoR.bind q).imp fun g1 H1 v d S1 l1 s1 rd _ q1 => ?_⟩
  obtain ⟨i, h1, q2⟩ := orNo_ok q1
  obtain ⟨rfl, _⟩ := int?_ok rd h1
  exact ⟨i, rfl, q2.now s1 (.int _)⟩
theorem s_chain {o o' : COp} {a b c : E} {x y z : Expr} {op op' : CmpOp} {pos : Pos} (ho : OpR X (compareOp op) (rTwo T W (cmpop o))) (ho' : OpR X (compareOp op') (rTwo T W (cmpop o')))
    (ha : PE X x (tI T W (ev C a))) (hb : PE X y (tI T W (ev C b))) (hc : PE X z (tI T W (ev C c))) (h1 : lastMarks [op, op'] [y, z] = false) : PE X (.Compare x [op, op'] [y, z] pos) (tI T W (ev C (.chain o o' a b c))) := by
  refine PE.imp (pe_chain ho ho' ha hb hc h1) fun σ H Q ⟨g, S, e, s, r, q⟩ => ?_
  simp only [ev] at q
  refine ⟨g, S, e, s, r, (GoR.bind q).imp fun g1 H1 v d S1 l1 s1 rd _ q1 => ?_⟩
  refine ⟨g1, S1, e, s1, r.mono l1, (GoR.bind q1).imp fun g2 H2 v2 d2 S2 l2 s2 rd2 _ q2 => ?_⟩
  refine ⟨g2, S2, d, d2, σ, s2, RD.mono T.K l2 rd, rd2, (GoR.bind q2).imp fun g3 H3 v3 d3 S3 l3 s3 rd3 _ q3 => ?_⟩
  obtain ⟨t, e3, q4⟩ := orNo_ok q3
  obtain ⟨rfl, _⟩ := bl?_ok rd3 e3
  refine ⟨t, rfl, ?_⟩
  cases t with
  | true =>
    simp only [if_true] at q4 ⊢
    refine ⟨g3, S3, e, s3, r.mono (l1.trans (l2.trans l3)), (GoR.bind q4).imp fun g4 H4 v4 d4 S4 l4 s4 rd4 _ q5 => ?_⟩
    exact ⟨g4, S4, d2, d4, σ, s4, RD.mono T.K (l3.trans l4) rd2, rd4, q5⟩
  | false => simp only [Bool.false_eq_true, if_false] at q4 ⊢; exact q4.now s3 (.bl _)

/-! ### subscripts -/
theorem ixN_eq (n : Nat) (i : Int) : L2.ixN n i = CT.ixN n i := rfl
theorem at_ok {g : Gh} {xs : List V} {ds : List D} {i : Int} {d : D} (r : T.RDs g xs ds) (h : CT.at_ ds i = some d) : ∃ v, L2.atI xs i = some v ∧ T.RD g v d := by
  unfold CT.at_ at h
  unfold L2.atI
  rw [ixN_eq, r.length]
  cases e : CT.ixN ds.length i with
  | none => rw [e] at h; cases h
  | some j =>
    rw [e] at h
    simp only [Option.bind_some] at h ⊢
    exact r.get h
theorem R.of_ok {α β : Type} {rel : Gh → β → α → Prop} {g : Gh} {σ : LSt} {S : Sto} {o : Option α} {k : Gh → Hp → β → α → Sto → Prop} (h : GoR T rel W g σ (R.of S o) k) : ∃ a, o = some a ∧ GoR T rel W g σ (.ok a S) k := by
  cases o with
  | none => exact h.elim
  | some a => exact ⟨a, rfl, h⟩
theorem ix_dict (hu : X.A.units + 1 < cLine) : IxR X (fun x y H Q => ∃ a v, x = .ref a ∧ DGet H a y (some v) ∧ Q v H) := by
  intro value slice pins s σ H x y v u Q I rx ry h hs
  obtain ⟨a, w, rfl, dg, q⟩ := h
  cases rx
  have hT := dict_typeIs I dg
  have go : wpAny (model X.prog X.w) X.A (subscripted slice false (.ref a) u)
      (fun r s3 => wpAny (model X.prog X.w) X.A (letTemporaryGo value (.ref a) r >>= fun _ => pure r) (EP X pins σ Q) X.xe s3) X.xe s := by
    rw [hs]
    refine wpAny_operating (d_getItem hu I dg ry fun w' s' I' rw' => ?_)
    exact wpAny_bind (wpAny_letTemporaryGo (wpAny_pure ⟨w, H, I', rw', q⟩))
  unfold subscriptTail
  refine wpAny_bind ?_
  rw [getitemInPython_of_ne hT.not_modules]
  refine wpAny_bind (wpAny_specialOf hT PySem.F.slot_dict_getitem.lookup ?_)
  first
    | exact wpAny_pure (wpAny_bind go)
    | exact wpAny_bind (wpAny_pure (wpAny_bind go))
    | exact wpAny_bind go
theorem ix_subs (hK : X.K = T.K) (hu : X.A.units + 1 < cLine) : IxR X (rTwo T W subs) := by
  have c1 : IxR X (rIx T.K) := hK ▸ ix_seq
  have c2 := ix_dict hu
  intro value slice pins s σ H x y v u Q I rx ry h hs
  obtain ⟨g, S, d1, d2, σ', sm, rda, rdb, q⟩ := h
  unfold subs at q
  cases ed : asD S d1 with
  | some p =>
    obtain ⟨ks, ds⟩ := p
    rw [ed] at q
    simp only at q
    cases ek : keyOf d2 with
    | none => rw [ek] at q; exact q.elim
    | some k =>
      rw [ek] at q
      obtain ⟨dv, e1, q3⟩ := R.of_ok q
      obtain ⟨l, xs, rfl, h1, h2, h3⟩ := asD_ok sm rda ed
      obtain rfl := key_of rdb ek
      rcases val_zip (k := k) h2 h3 with ⟨_, z⟩ | ⟨vv, dd, z1, z2, z3⟩
      · rw [e1] at z; cases z
      · rw [e1] at z2; cases z2
        have dg : DGet H l (kV k) (some vv) := by rw [← z1]; exact DGet.k (k := k) h1
        exact c2 value slice pins s σ H _ _ v u Q I rx ry ⟨l, vv, rfl, dg, q3.now sm z3⟩ hs
  | none =>
    rw [ed] at q
    simp only at q
    cases rdb with
    | int i =>
      simp only at q
      have seqs : (∀ z, d1 = .str z → False) → wpAny (model X.prog X.w) X.A (subscriptTail value slice v u) (EP X pins σ Q) X.xe s := by
        intro n1
        have q' : GoR T T.RD W g σ' (match asQ S d1 with
          | some ds => R.of S (CT.at_ ds i)
          | none => .no) fun _ H' v _ _ => Q v H' := by
          revert q
          cases d1 <;> first
            | exact fun q => q
            | exact (n1 _ rfl).elim
        cases eq' : asQ S d1 with
        | none => rw [eq'] at q'; exact q'.elim
        | some ds =>
          rw [eq'] at q'
          obtain ⟨d, e1, q3⟩ := R.of_ok q'
          obtain ⟨p, xs, rfl, hsq, rs⟩ := asQ_ok sm rda eq'
          obtain ⟨w, hw, rw'⟩ := at_ok rs e1
          rcases hsq with hsq | hsq
          · exact c1 value slice pins s σ H _ _ v u Q I rx ry (.inl ⟨p, xs, i, w, rfl, rfl, hsq, hw, q3.now sm rw'⟩) hs
          · exact c1 value slice pins s σ H _ _ v u Q I rx ry (.inr (.inl ⟨p, xs, i, w, rfl, rfl, hsq, hw, q3.now sm rw'⟩)) hs
      cases rda with
      | str z =>
        simp only at q
        obtain ⟨hf, q'⟩ := ite_ok q
        obtain ⟨d, e1, q3⟩ := R.of_ok q'
        cases ec : CT.at_ z.cps.toList i with
        | none => rw [ec] at e1; cases e1
        | some c =>
          rw [ec] at e1
          simp only [Option.map_some, Option.some.injEq] at e1
          subst e1
          exact c1 value slice pins s σ H _ _ v u Q I rx ry (.inr (.inr ⟨z, i, c, rfl, rfl, fits_le hf, ec, q3.now sm (.str _)⟩)) hs
      | _ => exact seqs (by intro _ h1; cases h1)
    | _ => exact q.elim
theorem s_sub (hK : X.K = T.K) (hu : X.A.units + 1 < cLine) {a b : E} {x y : Expr} {pos : Pos} (ha : PE X x (tI T W (ev C a))) (hb : PE X y (tI T W (ev C b))) (hs : PlainIx y) : PE X (.Subscript x y pos) (tI T W (ev C (.sub a b))) :=
  PE.imp (pe_ix (ix_subs hK hu) ha hb hs) fun σ H Q h => two_of (f := subs) (by simpa only [ev] using h)
/-! ### slices -/
theorem cut_ok {g : Gh} {xs : List V} {ds : List D} (r : T.RDs g xs ds) (lo hi : Option Int) : T.RDs g (cutV xs lo hi) (cut ds lo hi) := by
  have h : ∀ n d o, HT.sIx n d o = CT.sIx n d o := fun n d o => by cases o <;> rfl
  unfold cutV cut
  rw [h, h, r.length]
  exact (r.drop _).take _
theorem take_all {α : Type} (xs : List α) (a b : Nat) (h1 : a = 0) (h2 : b = xs.length) : (xs.drop a).take (b - a) = xs := by subst h1 h2; simp
def rSl (T : Tb) (W : WX) : V → Option Int → Option Int → Hp → VK → Prop := fun x lo hi H Q => ∃ g S d σ, T.Sim g S H ∧ T.RD g x d ∧ GoR T T.RD W g σ (slice d lo hi S) fun _ H' v _ _ => Q v H'
theorem sl_ok (hK : X.K = T.K) : SlR X (rSl T W) := by
  have c1 : SlR X (rSlF T.K) := hK ▸ sl_tupF
  have c2 : SlR X (rSlL T.K) := hK ▸ sl_list
  intro pins s σ H x v vl vu lo hi sl Q I rx hs pl pu h
  obtain ⟨g, S, d, σ', sm, rd, q⟩ := h
  have lists : (∀ z, d = .tup z → False) → ∃ T' id, typeLookup (.type T') "__getitem__" = pure (some (.builtin id)) ∧ s.TypeIs v T' ∧ wpAny (model X.prog X.w) X.A (getItem v (.ref sl)) (EP X pins σ Q) X.xe s := by
    intro n1
    have q' : GoR T T.RD W g σ' (match asM S d with
      | some ds => .ok (.lst (cut ds lo hi)) S
      | none => .no) fun _ H' v _ _ => Q v H' := by
      revert q
      cases d <;> first
        | exact fun q => q
        | exact (n1 _ rfl).elim
    cases ea : asM S d with
    | none => rw [ea] at q'; exact q'.elim
    | some ds =>
      rw [ea] at q'
      simp only at q'
      obtain ⟨p, xs, rfl, h1, rs⟩ := asM_ok sm rd ea
      have lx : xs.length ≤ sizeLine := (I.hok p _ h1).1
      have q2 : GoR T T.RD W g σ' (mkL false (cut ds lo hi) S) fun _ H' v _ _ => Q v H' := by simpa only [mkL, Bool.false_eq_true, if_false] using q'
      exact c2 pins s σ H _ v vl vu lo hi sl Q I rx hs pl pu ⟨p, xs, rfl, SqL.of h1, mkL_ok sm (Nat.le_trans (cutV_length xs lo hi) lx) (cut_ok rs lo hi) q2⟩
  cases rd with
  | @tup a xs ds qx lx rs =>
    have e1 : ∀ n d o, HT.sIx n d o = CT.sIx n d o := fun n d o => by cases o <;> rfl
    refine c1 pins s σ H _ v vl vu lo hi sl Q I rx hs pl pu ⟨a, xs, rfl, sqT_mono sm.sub qx.1, fun hh => ?_, fun _ => mkT_ok sm (Nat.le_trans (cutV_length xs lo hi) lx) (cut_ok rs lo hi) q⟩
    have hh' : cut ds lo hi = ds := by
      rw [e1, e1, rs.length] at hh
      exact take_all ds _ _ hh.1 hh.2
    have q2 : GoR T T.RD W g σ' (.ok (.tup (cut ds lo hi)) S) fun _ H' v _ _ => Q v H' := q
    rw [hh'] at q2
    exact q2.now sm (.tup qx lx rs)
  | _ => exact lists (by intro _ h1; cases h1)
def tIP (T : Tb) (W : WX) (f : Ev → Sto → R (Option Int)) : LSt → Hp → (Option Int → Hp → Prop) → Prop := fun σ H Q => ∃ g S e, T.Sim g S H ∧ T.EnvR g σ e ∧ GoR T (fun _ (b : Option Int) d => b = d) W g σ (f e S) fun _ H' v _ _ => Q v H'
theorem PO.imp {e : Option Expr} {t t' : L2.TO} (h : PO X e t) (f : ∀ σ H Q, t' σ H Q → t σ H Q) : PO X e t' := ⟨fun pins s σ H Q I q => h.run pins s σ H Q I (f σ H Q q)⟩
theorem p_none : PO X none (tIP T W fun e S => (evs C [] e S).bind fun l S => orNo (part l) fun i => .ok i S) := by
  refine PO.imp po_none fun σ H Q ⟨g, S, e, s, r, q⟩ => ?_
  simp only [evs, R.bind, part, orNo] at q
  exact q.now s rfl
theorem p_some {a : E} {x : Expr} (ha : PE X x (tI T W (ev C a))) : PO X (some x) (tIP T W fun e S => (evs C [a] e S).bind fun l S => orNo (part l) fun i => .ok i S) := by
  refine PO.imp (po_some ha) fun σ H Q ⟨g, S, e, s, r, q⟩ => ?_
  simp only [evs] at q
  have q' : GoR T (fun _ (b : Option Int) d => b = d) W g σ ((ev C a e S).bind fun x S => orNo (part [x]) fun i => .ok i S) fun _ H' v _ _ => Q v H' := by
    cases h : ev C a e S with
    | ok d S' => rw [h] at q; simpa only [R.bind] using q
    | ex c S' => rw [h] at q; simpa only [R.bind] using q
    | no => rw [h] at q; simpa only [R.bind] using q
  refine ⟨g, S, e, s, r, (GoR.bind q').imp fun g1 H1 v d S1 l1 s1 rd _ q1 => ?_⟩
  obtain ⟨i, hi, q2⟩ := orNo_ok q1
  cases rd <;> simp [part] at hi
  subst hi
  exact ⟨_, rfl, q2.now s1 rfl⟩
theorem s_sl (hK : X.K = T.K) {a : E} {lo hi : List E} {x : Expr} {l h : Option Expr} {p2 pos : Pos} (ha : PE X x (tI T W (ev C a)))
    (hl : PO X l (tIP T W fun e S => (evs C lo e S).bind fun l S => orNo (part l) fun i => .ok i S)) (hh : PO X h (tIP T W fun e S => (evs C hi e S).bind fun l S => orNo (part l) fun i => .ok i S)) :
    PE X (.Subscript x (.Slice l h none p2) pos) (tI T W (ev C (.sl a lo hi))) := by
  refine PE.imp (pe_slice (sl_ok (W := W) hK) ha hl hh) fun σ H Q ⟨g, S, e, s, r, q⟩ => ?_
  simp only [ev] at q
  refine ⟨g, S, e, s, r, (GoR.bind q).imp fun g1 H1 v d S1 l1 s1 rd _ q1 => ?_⟩
  have q1' : GoR T T.RD W g1 σ (((evs C lo e S1).bind fun l S => orNo (part l) fun i => .ok i S).bind fun i S => (((evs C hi e S).bind fun l S => orNo (part l) fun i => .ok i S).bind fun j S => slice d i j S)) fun _ H' v _ _ => Q v H' := by
    cases h1 : evs C lo e S1 with
    | ok ls S2 =>
      rw [h1] at q1
      simp only [R.bind] at q1 ⊢
      obtain ⟨i, hi', q2⟩ := orNo_ok q1
      rw [hi']
      simp only [orNo]
      cases h2 : evs C hi e S2 with
      | ok hs S3 =>
        rw [h2] at q2
        simp only at q2 ⊢
        obtain ⟨j, hj', q3⟩ := orNo_ok q2
        rw [hj']
        exact q3
      | ex c S3 => rw [h2] at q2; exact q2
      | no => rw [h2] at q2; exact q2
    | ex c S2 => rw [h1] at q1; simpa only [R.bind] using q1
    | no => rw [h1] at q1; simpa only [R.bind] using q1
  refine ⟨g1, S1, e, s1, r.mono l1, (GoR.bind q1').imp fun g2 H2 i i' S2 l2 s2 ei _ q2 => ?_⟩
  refine ⟨g2, S2, e, s2, r.mono (l1.trans l2), (GoR.bind q2).imp fun g3 H3 j j' S3 l3 s3 ej _ q3 => ?_⟩
  subst ei ej
  exact ⟨g3, S3, d, σ, s3, RD.mono T.K (l2.trans l3) rd, q3⟩
/-! ### displays -/
theorem s_tup {as : List E} {xs : List Expr} {k : Nat} {pos : Pos} (ha : PA X xs (tIs T W (evs C as))) : PE X (.Tuple xs k pos) (tI T W (ev C (.tup as))) := by
  refine PE.imp (pe_tupF ha) fun σ H Q ⟨g, S, e, s, r, q⟩ => ?_
  simp only [ev] at q
  refine ⟨g, S, e, s, r, (GoR.bind q).imp fun g1 H1 vs ds S1 l1 s1 rd _ q1 => ?_⟩
  obtain ⟨hf, q2⟩ := ite_ok q1
  have hl : vs.length ≤ sizeLine := by rw [rd.length]; exact fits_le hf
  exact ⟨hl, mkT_ok s1 hl rd q2⟩
theorem s_lst {m : Bool} {as : List E} {xs : List Expr} {pos : Pos} (ha : PA X xs (tIs T W (evs C as))) : PE X (.List xs pos) (tI T W (ev C (.lst m as))) := by
  refine PE.imp (pe_lst ha) fun σ H Q ⟨g, S, e, s, r, q⟩ => ?_
  simp only [ev] at q
  refine ⟨g, S, e, s, r, (GoR.bind q).imp fun g1 H1 vs ds S1 l1 s1 rd _ q1 => ?_⟩
  obtain ⟨hf, q2⟩ := ite_ok q1
  have hl : vs.length ≤ sizeLine := by rw [rd.length]; exact fits_le hf
  exact ⟨hl, mkL_ok s1 hl rd q2⟩
end
end CT

end
section
set_option maxHeartbeats 4000000
/-! callturn proofs, part i: kinds, built-ins of one thing -/
namespace CT
open PySem PySem.Spec PyProof.Rows L2
def tyS : Ty → String
  | .int => "int" | .str => "str" | .bool => "bool" | .tuple => "tuple" | .list => "list" | .dict => "dict"
def kitT (k : String) (t : Ty) : Bool := decide (k = tyS t) || (decide (k = "bool") && decide (t = .int))
theorem kit_all : ∀ k t : Ty, kitB (tyS k) (tyS t) = some (decide (k = t) || (decide (k = .bool) && decide (t = .int))) := by
  intro k t
  cases k <;> cases t <;> decide +kernel
theorem kit_non : ∀ t : Ty, kitB "NoneType" (tyS t) = some false := by
  intro t
  cases t <;> decide +kernel
theorem boot_ty : ∀ t : Ty, bootBuiltins (Str.ofString (tyS t)) = some (.type (tyS t)) := by
  intro t
  cases t <;> decide +kernel
section
variable {T : Tb} {W : WX} {X : Cx} {C : Cal}
theorem ty_ok {g : Gh} {S : Sto} {H : Hp} {x : V} {d : D} {k : Ty} (s : T.Sim g S H) (r : T.RD g x d) (h : kind S d = some k) : TyX T.K H x (.type (tyS k)) := by
  cases r with
  | non => simp [kind] at h
  | bl b => simp [kind] at h; subst h; exact .base (.bl b)
  | int b => simp [kind] at h; subst h; exact .base (.int b)
  | str b => simp [kind] at h; subst h; exact .base (.str b)
  | tup q _ rs =>
    simp [kind] at h; subst h
    rcases sqT_mono s.sub q.1 with (q | ⟨o, q⟩) | ⟨o, its, n, h1, h2, _⟩
    · exact .base (.tup q)
    · exact .fTuple q
    · exact .kTuple h1 h2
  | lst q _ rs => simp [kind] at h; subst h; exact .base (.lst (s.sub _ _ q))
  | dct q _ rs => simp [kind] at h; subst h; exact .base (.dK (s.sub _ _ q))
  | scr q => simp [kind] at h
  | @loc a n q =>
    simp only [kind] at h
    cases e : S[n]? with
    | none => rw [e] at h; cases h
    | some o =>
      rw [e] at h
      cases o with
      | lst ds =>
        obtain ⟨_, ho, q2, q3⟩ := s.obj n a _ q e (by simp)
        cases q3
        cases h
        exact .base (.lst q2)
      | dct ks ds =>
        obtain ⟨_, ho, q2, q3⟩ := s.obj n a _ q e (by simp)
        cases q3
        cases h
        exact .base (.dK q2)
      | _ => cases h
theorem isi_ok {g : Gh} {S : Sto} {H : Hp} {x : V} {d : D} {t : Ty} {b : Bool} (s : T.Sim g S H) (r : T.RD g x d) (h : isi S d t = some b) : ∃ u, TyX T.K H x u ∧ PySem.W.kitOne T.K u (.type (tyS t)) = some b := by
  have gen : (∀ k, kind S d = some k → some (decide (k = t) || (decide (k = .bool) && decide (t = .int))) = some b → ∃ u, TyX T.K H x u ∧ PySem.W.kitOne T.K u (.type (tyS t)) = some b) := fun k hk hb =>
    ⟨_, ty_ok s r hk, kit_ty (by rw [kit_all]; exact hb)⟩
  have oth : (d = .non → False) → ∃ u, TyX T.K H x u ∧ PySem.W.kitOne T.K u (.type (tyS t)) = some b := fun n1 => by
    have h' : (match kind S d with | some k => some (decide (k = t) || (decide (k = .bool) && decide (t = .int))) | none => none) = some b := by
      revert h
      cases d <;> first
        | exact fun h => h
        | exact (n1 rfl).elim
    cases hk : kind S d with
    | none => rw [hk] at h'; cases h'
    | some k => rw [hk] at h'; exact gen k hk h'
  cases r with
  | non =>
    simp [isi] at h
    exact ⟨_, .base .non, kit_ty (by rw [kit_non, h])⟩
  | _ => exact oth (by intro z; cases z)
theorem s_isi (hK : X.K = T.K) {a : E} {t : Ty} {x : Expr} {p p2 pos : Pos} {y : Str} (hy : y = Str.ofString (tyS t)) (hg : Gl X "isinstance") (hm : X.mg "isinstance" = none) (hg2 : Gl X y) (hm2 : X.mg y = none) (ha : PE X x (tI T W (ev C a)))
    (hst : starEach [x, .Name y p2] X.env = (false, eval x X.env) :: starEach [.Name y p2] X.env) :
    PE X (.Call (.Name "isinstance" p) [x, .Name y p2] [] pos) (tI T W (ev C (.isi a t))) := by
  have c1 : CallR X (.builtin "isinstance") (rIsi T.K) := hK ▸ call_isi
  have pty : PE X (.Name y p2) (tC (.ty (tyS t))) := pe_bltn hg2 hm2 (by rw [hy]; exact boot_ty t) (v := .ty (tyS t)) rfl (by rw [hy]; cases t <;> decide) (by rw [hy]; cases t <;> decide)
  refine PE.imp (pe_callB c1 hg hm (by decide +kernel) (pa_cons ha (pa_cons pty pa_nil) hst) (he := hst)) fun σ H Q ⟨g, S, e, s, r, q⟩ => ?_
  simp only [ev] at q
  refine ⟨g, S, e, s, r, (GoR.bind q).imp fun g1 H1 v d S1 l1 s1 rd _ q1 => ?_⟩
  obtain ⟨b, hb, q2⟩ := orNo_ok q1
  obtain ⟨u, h1, h2⟩ := isi_ok s1 rd hb
  exact ⟨v, .ty (tyS t), u, .type (tyS t), b, rfl, .ty _, h1, h2, q2.now s1 (.bl _)⟩
/-- one argument -/
def rCall1 (T : Tb) (W : WX) (f : D → Sto → R D) : List V → Hp → VK → Prop := fun xs H Q => ∃ x, xs = [x] ∧ rOne T W f x H Q
theorem s_b1 {b : B1} {m : Bool} {a : E} {x : Expr} {p pos : Pos} {y : Str} {id : String} (hc : CallR X (.builtin id) (rCall1 T W (b1 b m))) (hg : Gl X y) (hm : X.mg y = none) (hv : bootBuiltins y = some (.builtin id)) (ha : PE X x (tI T W (ev C a)))
    (hn : y ≠ "__name__") (hdb : (y == ("__debug__" : Str)) = false) (hst : starEach [x] X.env = (false, eval x X.env) :: starEach [] X.env) : PE X (.Call (.Name y p) [x] [] pos) (tI T W (ev C (.b1 b m a))) := by
  refine PE.imp (pe_callB hc hg hm hv (pa_cons ha pa_nil hst) hn hdb hst) fun σ H Q h => ?_
  obtain ⟨g, S, e, s, r, q⟩ := one_of (f := b1 b m) (by simpa only [ev] using h)
  exact ⟨g, S, e, s, r, q.imp fun g1 H1 v d S1 l1 s1 rd _ q1 => ⟨v, rfl, q1⟩⟩
theorem s_b1T {b : B1} {m : Bool} {a : E} {x : Expr} {p pos : Pos} {y : Str} {id : String} (hc : CallR X (.type id) (rCall1 T W (b1 b m))) (hg : Gl X y) (hm : X.mg y = none) (hv : bootBuiltins y = some (.type id)) (ha : PE X x (tI T W (ev C a)))
    (hn : y ≠ "__name__") (hdb : (y == ("__debug__" : Str)) = false) (hst : starEach [x] X.env = (false, eval x X.env) :: starEach [] X.env) : PE X (.Call (.Name y p) [x] [] pos) (tI T W (ev C (.b1 b m a))) := by
  refine PE.imp (pe_callTy hc hg hm hv (pa_cons ha pa_nil hst) hn hdb hst) fun σ H Q h => ?_
  obtain ⟨g, S, e, s, r, q⟩ := one_of (f := b1 b m) (by simpa only [ev] using h)
  exact ⟨g, S, e, s, r, q.imp fun g1 H1 v d S1 l1 s1 rd _ q1 => ⟨v, rfl, q1⟩⟩
end
end CT

end
section
set_option maxHeartbeats 4000000
/-! callturn proofs, part ib: dicts whose keys are nested tuples -/
namespace CT
open PySem PySem.Spec PyProof.Rows L2
section
variable {prog : Program} {w : World} {A : Around} {E : Value → Shared → Prop} {s : Shared} {d : Addr} {es : Array DictEntry} {ep : Nat}
theorem len_raw {Q : Value → Shared → Prop} (hd : (d == sysModules) = false) (hm : s.heap.DictRaw d es ep) (hfit : (es.size : Int) < 2 ^ 63)
    (h : Q (.int es.size (s.toks + 1)) { s with toks := s.toks + 1 + 1 }) : wpAny (model prog w) A (call (.builtin "len") [.ref d]) Q E s := by
  refine Calls.call_function_entry kind_len plain_len entry_len (args_len1 _) ?_
  unfold Builtin.«len»
  refine wpAny_bind (m := oneArg "len" _) (wpAny_pure ?_)
  refine wpAny_bind (m := callSpecial? (.ref d) (Str.ofString "__len__")) (wpAny_callSpecial?_slot (name := Str.ofString "__len__") hm.typeIs PySem.F.slot_dict_len (call_len_raw hd hm ?_))
  show wpAny _ _ _ _ _ { s with toks := s.toks + 1 }
  refine wpAny_bind (wpAny_holding (wpAny_pure ?_))
  refine wpAny_bind (wpAny_letGo ?_)
  show wpAny _ _ (if ((es.size : Nat) : Int) < 0 then _ else _) _ _ _
  rw [if_neg (by omega)]
  show wpAny _ _ (if ((es.size : Nat) : Int) ≥ 2 ^ 63 then _ else _) _ _ _
  rw [if_neg (by omega)]
  exact wpAny_bind (wpAny_mkInt (wpAny_pure ⟨_, rfl, h⟩))
end
/-- such a dict stands there, or the empty one -/
def NDat (nh : NestedKey → Int) (H : Hp) (a : Addr) (xs : List (NestedKey × Addr × Value)) : Prop := H a = some (NDO nh a xs) ∨ (H a = some (.dK []) ∧ xs = [])
section
variable {T : Tb} {W : WX} {X : Cx} {C : Cal}
theorem asN_ok {g : Gh} {S : Sto} {H : Hp} {x : V} {d : D} (s : T.Sim g S H) (r : T.RD g x d) {ks : List NestedKey} {ds : List D} (h : asN S d = some (ks, ds)) :
    ∃ a n xs vs, d = .loc n ∧ (g.ρ[n]? = some a ∧ ∃ ob, S[n]? = some ob ∧ ob ≠ .ded) ∧ x = .ref a ∧ NDat T.nh H a xs ∧ ks = xs.map (·.1) ∧ xs.length ≤ sizeLine ∧ (∀ y ∈ xs, NKV T.K g.Hf (.ref y.2.1) y.1 ∧ y.1.depth ≤ 8) ∧ Vals vs (xs.map (·.2.2)) ∧ T.RDs g vs ds := by
  cases r with
  | @loc a n q =>
    simp only [asN] at h
    cases e : S[n]? with
    | none => rw [e] at h; cases h
    | some ob =>
      rw [e] at h
      cases ob with
      | dcn ks' ds' =>
        simp only [Option.some.injEq, Prod.mk.injEq] at h
        obtain ⟨rfl, rfl⟩ := h
        obtain ⟨_, ho, y2, y3⟩ := s.obj n _ _ q e (by simp)
        generalize hk : ks' = ks at y3
        cases y3 with
        | dcn z k v r => exact ⟨a, n, _, _, rfl, ⟨q, _, e, by simp⟩, rfl, .inl y2, rfl, z, k, v, r⟩
      | dct ks' ds' =>
        cases ks' with
        | nil =>
          cases ds' with
          | nil =>
            simp only [Option.some.injEq, Prod.mk.injEq] at h
            obtain ⟨rfl, rfl⟩ := h
            obtain ⟨_, ho, y2, y3⟩ := s.obj n _ _ q e (by simp)
            cases y3 with
            | dct l r => exact ⟨a, n, [], [], rfl, ⟨q, _, e, by simp⟩, rfl, .inr ⟨y2, rfl⟩, rfl, Nat.zero_le _, by simp, .nil, .nil⟩
          | cons _ _ => cases h
        | cons _ _ => cases h
      | _ => cases h
  | _ => simp [asN] at h
theorem nd_raw {nh : NestedKey → Int} {pins : List (Addr × Obj)} {s : Shared} {σ : LSt} {H : Hp} {a : Addr} {xs : List (NestedKey × Addr × Value)} (I : Inv X pins σ H s) (h : NDat nh H a xs) :
    (a == sysModules) = false ∧ ∃ o es ep, s.heap.get? a = some o ∧ o.ExactDict ∧ o.data = .dict es ep ∧ es.toList = xs.map (entN nh) ∧ (xs.map (·.1)).Nodup := by
  rcases h with h | ⟨h, rfl⟩
  · obtain ⟨z, _, _⟩ := I.hok a _ h
    exact z
  · obtain ⟨_, hm, vs, kv, o, es, ep, h1, h2, h3, _, h5, _⟩ := I.hok a _ h
    cases kv
    have : es.toList = [] := by cases hh : es.toList with
      | nil => rfl
      | cons _ _ => rw [hh] at h5; cases h5
    exact ⟨hm, o, es, ep, h1, h2, h3, by rw [this]; rfl, by simp⟩
mutual
theorem NKV.is {pins : List (Addr × Obj)} {s : Shared} {σ : LSt} {H : Hp} (I : Inv X pins σ H s) : ∀ {k : NestedKey} {v : V} {u : Value}, NKV X.K H v k → RelV v u → NestedIs s.heap k u
  | .num _, _, _, .num i, r => by obtain ⟨t, rfl⟩ := r; exact .int i t
  | .text _, _, _, .text x, r => by obtain ⟨t, rfl⟩ := r; exact .text x t
  | .tup _, _, _, .tup q _ rs, r => by
    cases r
    obtain ⟨its, rv, ⟨o, ho, hc, n, hd⟩, _⟩ := I.tuple q.1
    exact .tup ho hc hd (by simpa using NKVs.are I rs rv)
theorem NKVs.are {pins : List (Addr × Obj)} {s : Shared} {σ : LSt} {H : Hp} (I : Inv X pins σ H s) : ∀ {ks : List NestedKey} {vs : List V} {us : List Value}, NKVs X.K H vs ks → Vals vs us → NestedAll s.heap ks us
  | [], _, _, .nil, r => by cases r; exact .nil
  | _ :: _, _, _, .cons a b, r => by cases r with | cons p q => exact .cons (NKV.is I a p) (NKVs.are I b q)
end
theorem nd_dict {pins : List (Addr × Obj)} {s : Shared} {σ : LSt} {H : Hp} {a : Addr} {xs : List (NestedKey × Addr × Value)} {nh : NestedKey → Int} (hw : nh = fun k => k.hash X.w) (I : Inv X pins σ H s) (h : NDat nh H a xs) (hk : ∀ y ∈ xs, NKV X.K H (.ref y.2.1) y.1 ∧ y.1.depth ≤ 8) :
    (a == sysModules) = false ∧ s.heap.DictOfH (nestedKind X.prog X.w) a xs := by
  obtain ⟨hm, o, es, ep, h1, h2, h3, h4, h5⟩ := nd_raw I h
  refine ⟨hm, o, es, ep, h1, h2, h3, ?_, fun x hx => ⟨NKV.is I (hk x hx).1 rfl, (hk x hx).2⟩, h5⟩
  rw [h4]
  subst hw
  rfl
end
end CT

end
section
set_option maxHeartbeats 4000000
/-! callturn proofs, part j: len, tuple, list, dict, all, any, int, max, min, sum, str -/
namespace CT
open PySem PySem.Spec PyProof.Rows L2
section
variable {T : Tb} {W : WX} {X : Cx} {C : Cal}
theorem c_len (hK : X.K = T.K) (m : Bool) : CallR X (.builtin "len") (rCall1 T W (b1 .len m)) := by
  have c1 : CallR X (.builtin "len") (fun xs H Q => ∃ p ys, xs = [.ref p] ∧ (SqL T.K H p ys ∨ SqT T.K H p ys) ∧ Q (.int ys.length) H) := hK ▸ call_len_seq
  intro pins s σ H xs us Q I rx ⟨x, ex, g, S, d, σ', sm, rd, q⟩
  subst ex
  have oth : (∀ z, d = .str z → False) → wpAny (model X.prog X.w) X.A (call (.builtin "len") us) (EP X pins σ Q) X.xe s := by
    intro n1
    have q' : GoR T T.RD W g σ' (match asQ S d with
      | some ds => .ok (.int ds.length) S
      | none => match asD S d with
        | some p => .ok (.int p.1.length) S
        | none => orNo (asN S d) fun p => .ok (.int p.1.length) S) fun _ H' v _ _ => Q v H' := by
      revert q
      cases d <;> first
        | exact fun q => q
        | exact (n1 _ rfl).elim
    cases eq' : asQ S d with
    | some ds =>
      rw [eq'] at q'
      obtain ⟨p, ys, rfl, h1, rs⟩ := asQ_ok sm rd eq'
      exact c1 pins s σ H _ us Q I rx ⟨p, ys, rfl, h1, by rw [rs.length]; exact q'.now sm (.int _)⟩
    | none =>
      rw [eq'] at q'
      simp only at q'
      cases ed : asD S d with
      | some p =>
        obtain ⟨ks, ds⟩ := p
        rw [ed] at q'
        simp only at q'
        obtain ⟨a, ys, rfl, h1, h2, rs⟩ := asD_ok sm rd ed
        exact call_lenD pins s σ H _ us Q I rx ⟨a, _, rfl, h1, by
            have e : (ks.zip ys).length = ks.length := by rw [List.length_zip, ← h2, Nat.min_self]
            rw [e]; exact q'.now sm (.int _)⟩
      | none =>
        rw [ed] at q'
        simp only at q'
        obtain ⟨⟨ks, ds⟩, en, q'⟩ := orNo_ok q'
        obtain ⟨a, n, xs, vs, _, _, rfl, h1, rfl, hz, _, _, _⟩ := asN_ok sm rd en
        obtain ⟨u, rfl, ru⟩ := Vals.one rx
        cases ru
        obtain ⟨hm, o, es, ep, e1, e2, e3, e4, _⟩ := nd_raw I h1
        have hsz : es.size = xs.length := by rw [← Array.length_toList, e4, List.length_map]
        have hsl := sizeLine_eq
        refine len_raw hm ⟨o, e1, e2, e3⟩ (by rw [hsz]; omega) ?_
        rw [hsz]
        refine ⟨.int xs.length, H, I.tok _, ⟨_, rfl⟩, ?_⟩
        have := q'.now sm (.int _)
        simpa using this
  cases rd with
  | str z =>
    simp only [b1] at q
    obtain ⟨hf, q'⟩ := ite_ok q
    exact call_len_str pins s σ H _ us Q I rx ⟨z, rfl, fits_le hf, q'.now sm (.int _)⟩
  | _ => exact oth (by intro _ z; cases z)
theorem CallR.impI {f : Value} {r r' : List V → Hp → VK → Prop} (h : CallR X f r) (k : ∀ pins s σ xs H Q, Inv X pins σ H s → r' xs H Q → r xs H Q) : CallR X f r' :=
  fun pins s σ H xs us Q I rx q => h pins s σ H xs us Q I rx (k pins s σ xs H Q I q)
theorem len_ok (hK : X.K = T.K) {pins : List (Addr × Obj)} {s : Shared} {σ : LSt} {H : Hp} {p : Addr} {ys : List V} (I : Inv X pins σ H s) (h : SqL T.K H p ys ∨ SqT T.K H p ys) : ys.length ≤ sizeLine := by
  rw [← hK] at h
  rcases h with h | h
  · obtain ⟨_, _, _, hz⟩ := I.list h
    exact hz
  · obtain ⟨_, _, _, hz⟩ := I.tuple h
    exact hz
theorem c_tuple (hK : X.K = T.K) (m : Bool) : CallR X (.type "tuple") (rCall1 T W (b1 .tuple m)) := by
  have c1 : CallR X (.type "tuple") (rTupF T.K) := hK ▸ call_tupleF
  refine CallR.impI c1 fun pins s σ xs H Q I ⟨x, ex, g, S, d, σ', sm, rd, q⟩ => ?_
  subst ex
  simp only [b1] at q
  have lists : ∀ ds, asL S d = some ds → GoR T T.RD W g σ' (.ok (.tup ds) S) (fun _ H' v _ _ => Q v H') → ∃ p ys, [x] = [V.ref p] ∧ ((SqL T.K H p ys ∧ NewT Q H ys) ∨ (SqT T.K H p ys ∧ Q (.ref p) H)) := fun ds e q => by
    obtain ⟨p, ys, rfl, h1, rs⟩ := asL_ok sm rd e
    exact ⟨p, ys, rfl, .inl ⟨h1, mkT_ok sm (len_ok hK I (.inl h1)) rs q⟩⟩
  obtain ⟨ds, eq', q2⟩ := orNo_ok q
  clear q
  cases rd with
  | tup qx lx rx =>
    simp only [asQ, Option.some.injEq] at eq'
    subst eq'
    exact ⟨_, _, rfl, .inr ⟨sqT_mono sm.sub qx.1, q2.now sm (.tup qx lx rx)⟩⟩
  | _ => exact lists ds eq' q2
theorem c_list (hK : X.K = T.K) (m : Bool) : CallR X (.type "list") (rCall1 T W (b1 .list m)) := by
  have c1 : CallR X (.type "list") (fun xs H Q => ∃ p ys, xs = [.ref p] ∧ (SqL T.K H p ys ∨ SqT T.K H p ys) ∧ ∀ l, H l = none → Q (.ref l) (upd H l (.lst ys))) := hK ▸ call_list_of
  refine CallR.impI c1 fun pins s σ xs H Q I ⟨x, ex, g, S, d, σ', sm, rd, q⟩ => ?_
  subst ex
  simp only [b1] at q
  obtain ⟨ds, eq', q⟩ := orNo_ok q
  obtain ⟨p, ys, rfl, h1, rs⟩ := asQ_ok sm rd eq'
  exact ⟨p, ys, rfl, h1, mkL_ok sm (len_ok hK I h1) rs q⟩
/-- the items of a made list, told further -/
theorem asM_via {α : Type} {g : Gh} {S : Sto} {H : Hp} {σ : LSt} {x : V} {d : D} {f : List D → Option α} {k : α → R D} {Q : VK} (sm : T.Sim g S H) (rd : T.RD g x d)
    (q : GoR T T.RD W g σ (orNo ((asM S d).bind f) k) fun _ H' v _ _ => Q v H') :
    ∃ p ys ds a, x = .ref p ∧ H p = some (.lst ys) ∧ T.RDs g ys ds ∧ f ds = some a ∧ GoR T T.RD W g σ (k a) fun _ H' v _ _ => Q v H' := by
  obtain ⟨a, e, q⟩ := orNo_ok q
  cases ea : asM S d with
  | none => rw [ea] at e; cases e
  | some ds =>
    rw [ea] at e
    obtain ⟨p, ys, h0, h1, rs⟩ := asM_ok sm rd ea
    exact ⟨p, ys, ds, a, h0, h1, rs, e, q⟩
theorem prs_ok {g : Gh} : ∀ {ys : List V} {ds : List D} {ks : List Key} {es : List D}, T.RDs g ys ds → prs ds = some (ks, es) →
    ∃ (ps : List Addr) (ws : List V), ys = ps.map V.ref ∧ ks.length = ws.length ∧ T.RDs g ws es ∧ Paired (fun p (kv : Key × V) => SqT T.K g.Hf p [kV kv.1, kv.2]) ps (ks.zip ws)
  | _, _, ks, es, .nil, h => by
    simp only [prs, Option.some.injEq, Prod.mk.injEq] at h
    obtain ⟨rfl, rfl⟩ := h
    exact ⟨[], [], rfl, rfl, .nil, .nil⟩
  | _, _, ks, es, .cons (ds := drest) r rs, h => by
    cases r with
    | tup q _ rt =>
      cases rt with
      | nil => simp [prs] at h
      | @cons v1 d1 _ _ r1 rt =>
        cases rt with
        | nil => simp [prs] at h
        | @cons v2 d2 _ _ r2 rt =>
          cases rt with
          | cons _ _ => simp [prs] at h
          | nil =>
            simp only [prs] at h
            cases ek : keyOf d1 with
            | none => rw [ek] at h; cases h
            | some k =>
              rw [ek] at h
              cases ep : prs drest with
              | none => rw [ep] at h; cases h
              | some p =>
                obtain ⟨ks', es'⟩ := p
                rw [ep] at h
                simp only [Option.some.injEq, Prod.mk.injEq] at h
                obtain ⟨rfl, rfl⟩ := h
                obtain ⟨ps, ws, e1, e2, e3, e4⟩ := prs_ok rs ep
                obtain rfl := key_of r1 ek
                exact ⟨_ :: ps, _ :: ws, by rw [e1]; rfl, by simp [e2], .cons r2 e3, .cons q.1 e4⟩
    | _ => simp [prs] at h
theorem c_dict (hK : X.K = T.K) (hc : X.calm = true) (m : Bool) : CallR X (.type "dict") (rCall1 T W (b1 .dict m)) := by
  have c1 := call_dictP hc
  rw [hK] at c1
  refine CallR.imp c1 fun xs H Q ⟨x, ex, g, S, d, σ', sm, rd, q⟩ => ?_
  subst ex
  simp only [b1] at q
  obtain ⟨p, ys, ds, ⟨ks, es⟩, rfl, h1, rs, hf, q'⟩ := asM_via (f := prs) (k := fun p : List Key × List D => mkD m (dmerge [] [] p.1 p.2).1 (dmerge [] [] p.1 p.2).2 S) sm rd q
  obtain ⟨ps, ws, e1, e2, e3, e4⟩ := prs_ok rs hf
  subst e1
  refine ⟨p, ps, ks.zip ws, rfl, SqL.of h1, Paired.mapP e4 (fun a b z => sqT_mono sm.sub z), ?_⟩
  obtain ⟨zs, f1, f2, f3⟩ := merge_zip (ks := []) (xs := []) (ds := []) (g := g) (K := T.K) rfl .nil e2 e3
  have e0 : mergeK [] (ks.zip ws) = (dmerge [] [] ks es).1.zip zs := f1
  rw [e0]
  exact mkD_ok sm f2 f3 q'
theorem c_all (hK : X.K = T.K) (hc : X.calm = true) (m : Bool) : CallR X (.builtin "all") (rCall1 T W (b1 .all m)) := by
  have c1 : CallR X (.builtin "all") (rAll T.K) := hK ▸ cr_all hc
  refine CallR.imp c1 fun xs H Q ⟨x, ex, g, S, d, σ', sm, rd, q⟩ => ?_
  subst ex
  simp only [b1] at q
  obtain ⟨p, ys, ds, bs, rfl, h1, rs, hf, q'⟩ := asM_via (f := boolsOf) (k := fun bs => R.ok (.bl (bs.all id)) S) sm rd q
  obtain rfl := rs.bools hf
  exact ⟨p, bs, rfl, SqL.of h1, q'.now sm (.bl _)⟩
theorem c_any (hK : X.K = T.K) (hc : X.calm = true) (m : Bool) : CallR X (.builtin "any") (rCall1 T W (b1 .any m)) := by
  have c1 : CallR X (.builtin "any") (rAny T.K) := hK ▸ cr_any hc
  refine CallR.imp c1 fun xs H Q ⟨x, ex, g, S, d, σ', sm, rd, q⟩ => ?_
  subst ex
  simp only [b1] at q
  obtain ⟨p, ys, ds, bs, rfl, h1, rs, hf, q'⟩ := asM_via (f := boolsOf) (k := fun bs => R.ok (.bl (bs.any id)) S) sm rd q
  obtain rfl := rs.bools hf
  exact ⟨p, bs, rfl, SqL.of h1, q'.now sm (.bl _)⟩
def rSum2 (K : PySem.W.Frag) : List V → Hp → VK → Prop := fun vs H Q => ∃ (a : Addr) (ns : List Int), vs = [V.ref a] ∧ (SqL K H a (ns.map V.int) ∨ SqT K H a (ns.map V.int)) ∧ Q (.int ns.sum) H
theorem cr_sum2 (hc : X.calm = true) : CallR X (.builtin "sum") (rSum2 X.K) := by
  intro pins s σ H vs us Q I r h
  obtain ⟨a, ns, e, hs, q⟩ := h
  rcases hs with hs | hs
  · exact cr_sum hc pins s σ H vs us Q I r ⟨a, ns, e, hs, q⟩
  subst e
  obtain ⟨its, rv, hl, _⟩ := I.tuple hs
  rw [Vals.ref1 r]
  obtain ⟨xs, hx⟩ := rv.ints.allInts.items
  have hn : numsOf (intItems xs).toList = ns := by rw [← hx]; exact rv.ints.numsOf
  rw [nums_intItems] at hn
  rw [hx] at hl
  refine PySem.W.ktm_sumG (I.ok.hd hc) hl fun h' tk t' hk => ?_
  rw [preSum_eq, List.take_of_length_le (by simp), hn]
  exact ⟨.int _, H, I.kept hk, ⟨_, rfl⟩, q⟩
theorem asMT_ok {g : Gh} {S : Sto} {H : Hp} {x : V} {d : D} {ds : List D} (sm : T.Sim g S H) (rd : T.RD g x d) (h : asMT S d = some ds) : ∃ a xs, x = .ref a ∧ (H a = some (.lst xs) ∨ SqT T.K H a xs) ∧ T.RDs g xs ds := by
  have gen : asM S d = some ds → ∃ a xs, x = .ref a ∧ (H a = some (.lst xs) ∨ SqT T.K H a xs) ∧ T.RDs g xs ds := fun h => by
    obtain ⟨a, xs, e1, e2, e3⟩ := asM_ok sm rd h
    exact ⟨a, xs, e1, .inl e2, e3⟩
  cases d with
  | tup es =>
    have hq : asQ S (.tup es) = some ds := h
    cases rd with
    | tup q _ r => simp only [asQ, Option.some.injEq] at hq; subst hq; exact ⟨_, _, rfl, .inr (sqT_mono sm.sub q.1), r⟩
  | _ => exact gen h
theorem c_sum (hK : X.K = T.K) (hc : X.calm = true) (m : Bool) : CallR X (.builtin "sum") (rCall1 T W (b1 .sum m)) := by
  have c1 : CallR X (.builtin "sum") (rSum2 T.K) := hK ▸ cr_sum2 hc
  refine CallR.imp c1 fun xs H Q ⟨x, ex, g, S, d, σ', sm, rd, q⟩ => ?_
  subst ex
  simp only [b1] at q
  obtain ⟨ns, e, q'⟩ := orNo_ok q
  cases ea : asMT S d with
  | none => rw [ea] at e; cases e
  | some ds =>
    rw [ea] at e
    obtain ⟨p, ys, rfl, h1, rs⟩ := asMT_ok sm rd ea
    obtain rfl := rs.ints e
    exact ⟨p, ns, rfl, h1.imp (fun h => SqL.of h) id, q'.now sm (.int _)⟩
theorem maxL_eq : ∀ {ns : List Int} {m : Int}, m ∈ ns → (∀ y, y ∈ ns → y ≤ m) → maxL ns = m
  | [], _, h, _ => by simp at h
  | [a], m, h, _ => by simp at h; simp [maxL, h]
  | a :: b :: r, m, h, hle => by
    have ha := hle a (by simp)
    by_cases hm : m ∈ b :: r
    · have e := maxL_eq hm (fun y hy => hle y (by simp only [List.mem_cons] at hy ⊢; exact .inr hy))
      unfold maxL
      rw [e]
      split <;> omega
    · have e : m = a := by
        rcases List.mem_cons.mp h with h | h
        · exact h
        · exact absurd h hm
      subst e
      have hb : maxL (b :: r) ≤ m := by
        have key : ∀ l : List Int, l ≠ [] → maxL l ∈ l := by
          intro l
          induction l with
          | nil => intro h; exact absurd rfl h
          | cons x t ih =>
            intro _
            cases t with
            | nil => simp [maxL]
            | cons y t => unfold maxL; split <;> simp_all
        exact hle _ (by have := key (b :: r) (by simp); simp only [List.mem_cons] at this ⊢; exact .inr this)
      unfold maxL
      split <;> omega
theorem c_max (hK : X.K = T.K) (hc : X.calm = true) (m : Bool) : CallR X (.builtin "max") (rCall1 T W (b1 .max m)) := by
  have c1 : CallR X (.builtin "max") (rMax T.K) := hK ▸ cr_max hc
  refine CallR.imp c1 fun xs H Q ⟨x, ex, g, S, d, σ', sm, rd, q⟩ => ?_
  subst ex
  simp only [b1] at q
  obtain ⟨p, ys, ds, ns, rfl, h1, rs, hf, q'⟩ := asM_via (f := intsOf) (k := fun ns => if decide (0 < ns.length) = true then R.ok (.int (maxL ns)) S else .no) sm rd q
  obtain ⟨hl, q2⟩ := ite_ok q'
  obtain rfl := rs.ints hf
  exact ⟨p, ns, rfl, SqL.of h1, of_decide_eq_true hl, fun n h2 h3 => by rw [← maxL_eq h2 h3]; exact q2.now sm (.int _)⟩
theorem c_int (m : Bool) : CallR X (.type "int") (rCall1 T W (b1 .int m)) := by
  intro pins s σ H xs us Q I rx ⟨x, ex, g, S, d, σ', sm, rd, q⟩
  subst ex
  cases rd with
  | int i => exact call_int1 pins s σ H _ us Q I rx (.inl ⟨i, rfl, q.now sm (.int _)⟩)
  | bl b => exact call_int1 pins s σ H _ us Q I rx (.inr ⟨b, rfl, q.now sm (.int _)⟩)
  | str z =>
    simp only [b1] at q
    obtain ⟨hl, q'⟩ := ite_ok q
    obtain ⟨a, e, q2⟩ := R.of_ok q'
    cases en : intText? z with
    | none => rw [en] at e; cases e
    | some n =>
      rw [en] at e
      simp only [Option.map_some, Option.some.injEq] at e
      subst e
      exact call_int_str pins s σ H _ us Q I rx ⟨z, n, rfl, en, of_decide_eq_true hl, q2.now sm (.int _)⟩
  | _ => exact q.elim
theorem log_small {n : Nat} (h : n < 1000000000000) : n.log2 < 1920 := by
  by_cases h0 : n = 0
  · subst h0; decide
  · rw [Nat.log2_lt h0]
    exact Nat.lt_of_lt_of_le h (by
      calc 1000000000000 ≤ 2 ^ 40 := by decide
        _ ≤ 2 ^ 1920 := Nat.pow_le_pow_right (by decide) (by decide))
theorem c_str (m : Bool) : CallR X (.type "str") (rCall1 T W (b1 .str m)) := by
  intro pins s σ H xs us Q I rx ⟨x, ex, g, S, d, σ', sm, rd, q⟩
  subst ex
  cases rd with
  | int i =>
    simp only [b1] at q
    obtain ⟨hl, q'⟩ := ite_ok q
    exact call_str_int pins s σ H _ us Q I rx ⟨i, rfl, log_small (of_decide_eq_true hl), q'.now sm (.str _)⟩
  | str z => exact SkE.call_str_str pins s σ H _ us Q I rx ⟨z, rfl, q.now sm (.str _)⟩
  | _ => exact q.elim
end
end CT

end
section
set_option maxHeartbeats 4000000
/-! callturn proofs, part k: list comprehensions out of which an exception may fly -/
namespace CT
open PySem PySem.Spec PyProof.Rows L2

/-! ### the model's comprehension, the frame of its block told -/
section
variable {M : Model} {A : Around} {E : Value → Shared → Prop} {z : Shared} {nv : Env}
def cEnd (M : Model) (A : Around) (E : Value → Shared → Prop) (use : Option (Value → Sem Unit)) (Q : Value → Shared → Prop) (acc : Value) (C : Addr) (fr : Option Addr) (r : Result) (z' : Shared) : Prop :=
  match r, use with
  | .ok _, none => ∃ m, z'.heap.Ns C m ∧ ∀ h', Heap.SameBut C z'.heap h' → Q acc { z' with heap := h' }
  | .ok _, some u => wpAny M A (u acc) (fun _ z'' => ∃ m, z''.heap.Ns C m ∧ ∀ h', Heap.SameBut C z''.heap h' → Q .none { z'' with heap := h' }) E z'
  | .error x, _ => ∃ m, z'.heap.Ns C m ∧ ∀ h', Heap.SameBut C z'.heap h' → ∀ k : Env, k.locals = C → k.frame = fr → wpAny M A (passOn "comprehension.variables-let-go" x k : Sem Value) (fun _ _ => False) E { z' with heap := h' }

theorem comp_walk {e : Expr} {sc : Scope} {pos : Pos} {nA fst : Sem Value} {g : Comprehension} {gs : List Comprehension} {cl : List (Str × Addr)} {use : Option (Value → Sem Unit)} {Q : Value → Shared → Prop}
    (h1 : clausesOf e = g :: gs) (h2 : ∀ x, foldedSetIterable g.iter nv x = pure x) (h3 : closureFor sc nv = pure cl) (h4 : sc.kind = .function) (h5 : ∀ x ∈ sc.names, x.2 = .local → sc.names.lookup x.1 = some .local)
    (h : wpAny M A fst (fun x z1 => wpAny M A (pyIter x) (fun it z2 => wpAny M A nA (fun acc z3 =>
      wpAny M A (newFunctionEnv sc nv.globals cl [] nv.qual none .none (some nv)) (fun k z4 =>
        codeAny M A (.compStart e 0 it acc { k with scope := relabel sc nv }) (cEnd M A E use Q acc k.locals k.frame) z4) E z3) E z2) E z1) E z) :
    wpAny M A (comprehension e sc nv pos nA false fst use) Q E z := by
  unfold comprehension
  rw [h3, h1]
  have same : ∀ (v : Value) (y : Shared), E v y → E v y := fun _ _ q => q
  refine wpAny_bind (wpAny_mono h (fun x z1 k1 => ?_) same)
  refine wpAny_bind (wpAny_standAt (wpAny_bind (wpAny_of_eq (h2 x) ?_)))
  refine wpAny_bind (wpAny_holding (wpAny_mono k1 (fun it z2 k2 => ?_) same))
  refine wpAny_standIf (wpAny_bind (wpAny_mono k2 (fun acc z3 k3 => ?_) same))
  refine wpAny_bind (wpAny_pure (wpAny_bind (wpAny_mono k3 (fun k z4 k4 => ?_) same)))
  dsimp only
  have loc : ∀ x ∈ (sc.names.filter fun x => (x.2 == .local || x.2 == .cell) && x.1 != (".0" : Str)).reverse, x.2 = .local → Env.kindOf { k with scope := relabel sc nv } x.1 = some .local :=
    fun x hx hl => lookup_relabel_local (h5 x (List.mem_filter.mp (List.mem_reverse.mp hx)).1 hl)
  have loc' : ∀ x ∈ (sc.names.filter fun x => (x.2 == .local || x.2 == .cell) && x.1 != (".0" : Str)).reverse.drop 1 ++ (sc.names.filter fun x => (x.2 == .local || x.2 == .cell) && x.1 != (".0" : Str)).reverse.take 1,
      x.2 = .local → Env.kindOf { k with scope := relabel sc nv } x.1 = some .local := fun x hx hl => by
    rcases List.mem_append.mp hx with q | q
    · exact loc x (List.mem_of_mem_drop q) hl
    · exact loc x (List.mem_of_mem_take q) hl
  refine wpAny_holding (wpAny_bind (wpAny_attempt (wpAny_holding (wpAny_run (codeAny_mono k4 fun r z' kr => ?_)))))
  cases r with
  | ok f =>
    cases use with
    | none =>
      obtain ⟨m, hn, kq⟩ := kr
      exact wpAny_bind (wpAny_holding (wpAny_comp_letGo (cenv := { k with scope := relabel sc nv }) h4 _ z' m loc hn fun h' m' _ sb => wpAny_pure (kq h' sb)))
    | some u =>
      refine wpAny_bind (wpAny_rule (wpAny_bind (wpAny_holding (wpAny_mono kr (fun _ z'' kq => ?_) same))))
      obtain ⟨m, hn, kq⟩ := kq
      exact wpAny_bind (wpAny_comp_letGo (cenv := { k with scope := relabel sc nv }) h4 _ z'' m loc' hn fun h' m' _ sb => wpAny_pure (kq h' sb))
  | error x =>
    have kr' : ∃ m, z'.heap.Ns k.locals m ∧ ∀ h', Heap.SameBut k.locals z'.heap h' → ∀ k' : Env, k'.locals = k.locals → k'.frame = k.frame → wpAny M A (passOn "comprehension.variables-let-go" x k' : Sem Value) (fun _ _ => False) E { z' with heap := h' } := by
      cases use <;> exact kr
    obtain ⟨m, hn, kq⟩ := kr'
    refine wpAny_bind (wpAny_holding (wpAny_comp_letGo (cenv := { k with scope := relabel sc nv }) h4 _ z' m loc hn fun h' m' _ sb => ?_))
    exact wpAny_mono (kq h' sb { k with scope := relabel sc nv } rfl rfl) (fun _ _ q => q.elim) fun _ _ q => q
end

/-! ### an exception in the air, told by the frame of the def -/
def XF (X : Cx) (F : Addr) (W : WX) (u : Value) (z : Shared) : Prop :=
  ∃ (a : Addr) (B : Heap) (sI : Shared) (pins : List (Addr × Obj)) (σ : LSt) (H : Hp) (cls : Value) (d : Option Addr),
    u = .ref a ∧ Inv X pins σ H sI ∧ (∀ b o, sI.heap.get? b = some o → b ∉ frs X.stack → B.get? b = some o) ∧ sI.heap.UpToSlots z.heap ∧
      Sky B X.stack a (Zc cls d) F z.heap ∧ H a = none ∧ z.os = sI.os ∧ AllBare z.gens ∧ W cls d σ H
def TakF (X : Cx) (F : Addr) (W : WX) : Prop := ∀ u z, XF X F W u z → X.xe u z
theorem takF_of {X : Cx} {W : WX} (t : Takes X W) : TakF X X.env.locals W := fun u z q => t u z q
theorem noteFrame_same {a b : Env} (h : a.frame = b.frame) (x : Value) : noteFrame x a = noteFrame x b := by
  unfold noteFrame PySem.frameOf
  rw [h]
section
variable {X : Cx} {pins : List (Addr × Obj)} {σ : LSt} {H : Hp} {z z' : Shared} {W : WX} {E : XK} {F : Addr}
/-- what a callee let out is in our air -/
theorem XF.call (I : Inv X pins σ H z) (hW : ∀ cls d H', E cls d H' → W cls d σ H') {u : Value} (c : CX X.prog X.w X.stack H z E u z') : XF X F W u z' := by
  obtain ⟨a, B, H', cls, d, rfl, fl, hok, ub, na, os, ag, hE⟩ := c
  obtain ⟨G, in1, out⟩ := restrict z'.heap fun b => (B.get? b).isSome || decide (b ∈ frs X.stack)
  have stays : B.StaysIn z'.heap := fl.1
  have fromB : ∀ b o, B.get? b = some o → G.get? b = some o := fun b o q => (in1 b (by simp [q])).trans (stays b o q)
  have fromF : ∀ b, b ∈ frs X.stack → G.get? b = z'.heap.get? b := fun b hb => in1 b (by simp [hb])
  have back : ∀ b o, G.get? b = some o → z'.heap.get? b = some o ∧ ((B.get? b).isSome = true ∨ b ∈ frs X.stack) := fun b o q => by
    cases k : ((B.get? b).isSome || decide (b ∈ frs X.stack)) with
    | false => rw [out b k] at q; cases q
    | true =>
      rw [in1 b k] at q
      refine ⟨q, ?_⟩
      rcases Bool.or_eq_true_iff.mp k with k | k
      · exact .inl k
      · exact .inr (of_decide_eq_true k)
  have J : Inv X pins σ H' { z with heap := G, gens := z'.gens, drawn := z'.drawn, toks := z'.toks } := by
    refine I.call (ch := []) ⟨fun b o q n hb _ => fromB b o (ub.keep b o q n hb), fun b o q n hb _ => ?_, fun b o q n _ => ub.free b o q n, fun b o q _ => ?_, ub.tups, ub.frzs, ub.tbls⟩ (hok.kept fromB) ag (fun _ y => nomatch y)
    · obtain ⟨sl, y⟩ := ub.slot b o q hb
      exact ⟨sl, (fromF b hb).trans y⟩
    · by_cases hb : b ∈ frs X.stack
      · obtain ⟨sl, y⟩ := ub.slot b o q hb
        exact ⟨_, (fromF b hb).trans y⟩
      · obtain ⟨o', y⟩ := ub.there b o q hb
        exact ⟨o', fromB b o' y⟩
  refine ⟨a, B, _, pins, σ, H', cls, d, rfl, J, fun b o q hb => ?_, Heap.UpToSlots.of_keeps fun b o q => (back b o q).1, .inr (.inl fl), na, os, ag, hW _ _ _ hE⟩
  obtain ⟨q', k⟩ := back b o q
  rcases k with k | k
  · obtain ⟨o', y⟩ := Option.isSome_iff_exists.mp k
    have w := stays b o' y
    rw [q'] at w; cases w
    exact y
  · exact absurd k hb
/-- a new one is in our air -/
theorem XF.made {sI : Shared} {a : Addr} {oe : Obj} {vs : Array Value} {cls : Value} {d : Option Addr} (I : Inv X pins σ H sI) (k : ∀ b o, sI.heap.get? b = some o → z'.heap.get? b = some o) (hne : sI.heap.get? a = none) (he : z'.heap.get? a = some oe)
    (hz : Zc cls d oe) (hd : oe.data = .fields vs) (h1 : vs[1]? = some .none) (na : H a = none) (os : z'.os = sI.os) (ag : AllBare z'.gens) (w : W cls d σ H) : XF X F W (.ref a) z' := by
  have hidden : (PySem.W.hideAll sI.heap (frs X.stack)).get? a = none := by
    cases q : (PySem.W.hideAll sI.heap (frs X.stack)).get? a with
    | none => rfl
    | some o =>
      have y := PySem.W.of_hideAll _ q
      rw [hne] at y; cases y
  have frames : z'.heap.FunFrames (PySem.W.hideAll sI.heap (frs X.stack)) X.stack :=
    Heap.FunFrames.of_keeps (fun b o q _ => ⟨o, k b o q, rfl⟩) (funFrames_none I.stack fun b hb => PySem.W.hideAll_none _ hb)
  exact ⟨a, PySem.W.hideAll sI.heap (frs X.stack), sI, pins, σ, H, cls, d, rfl, I, fun b o q hb => PySem.W.hideAll_get _ q hb, Heap.UpToSlots.of_keeps k,
    .inl ⟨fun b o q => k b o (PySem.W.of_hideAll _ q), hidden, frames, oe, vs, he, hz, hd, h1⟩, na, os, ag, w⟩
/-- a callee's wish -/
theorem TakF.passes (tk : TakF X F W) (σ : LSt) (E : XK) (hW : ∀ cls d H', E cls d H' → W cls d σ H') : PassesAt (L2.CX X.prog X.w) X σ E :=
  fun pins H s e s' I c => tk e s' (XF.call I hW c)
end
end CT

end
section
set_option maxHeartbeats 4000000
/-! callturn proofs, part l: the block of a comprehension, with what may fly out of it -/
namespace CT
open PySem PySem.Spec PyProof.Rows L2
open PySem.HandSPX (HeldZ FlyingZ TracedZ Steady)

/-- noted by the frame, however it came -/
theorem note_any {M : Model} {A : Around} {E₁ : Value → Shared → Prop} {z : Shared} {B : Heap} {e0 : Env} {out : List Env} {a F : Addr} {Z : Obj → Prop} {Q : Unit → Shared → Prop} (hZ : Steady Z) (hfr : A.frames = some (e0 :: out)) (hf : e0.frame = some F)
    (x : Sky B (e0 :: out) a Z F z.heap) (hQ : ∀ h1, HeldZ B (e0 :: out) a Z F h1 → z.heap.UpToSlots h1 → Q () { z with heap := h1 }) : wpAny M A (noteFrame (.ref a) e0) Q E₁ z := by
  rcases x with ⟨hB, hn, hl, oe, vs, he, hz, hd, h1⟩ | fl | hh
  · exact PySem.HandSPX.look_newZ hZ hfr hl hf he hB hn hd h1 hz hQ
  · exact PySem.HandSPX.looks_onZ hZ hfr hf fl hQ
  · exact PySem.HandSPX.againZ hf hh.2.2.2 (hQ z.heap hh (Heap.UpToSlots.of_keeps fun _ _ q => q))

theorem frames_but {B h h' : Heap} {C : Addr} (sb : Heap.SameBut C h h') : ∀ {l : List Env}, h.FunFrames B l → (∀ L ∈ frs l, L ≠ C) → h'.FunFrames B l
  | [], _, _ => trivial
  | env :: l, q, hn => by
    obtain ⟨hk, ⟨L, o, hf, hb, ho, hd⟩, hr⟩ := q
    have hL : L ≠ C := hn L (List.mem_filterMap.mpr ⟨env, List.mem_cons_self, hf⟩)
    refine ⟨hk, ⟨L, o, hf, hb, (sb.2 L hL).trans ho, hd⟩, frames_but sb hr fun b hb => ?_⟩
    obtain ⟨e, he, q⟩ := List.mem_filterMap.mp hb
    exact hn b (List.mem_filterMap.mpr ⟨e, List.mem_cons_of_mem _ he, q⟩)
section
variable {X : Cx} {pins : List (Addr × Obj)} {σ : LSt} {H3 : Hp} {s3 : Shared} {W : WX} {F C D : Addr} {fp : List Addr} {sc : Scope} {ce : Env} {use : Option (Value → Sem Unit)} {Qf : Value → Shared → Prop}
/-- what flies in the block flies in the def -/
theorem blk_takes (I3 : Inv X pins σ H3 s3) (tk : TakF X F W) {e0 : Env} {out : List Env} (hst : X.stack = e0 :: out) (hf0 : e0.frame = some F) (hcl : ce.locals = s3.heap.objs.size) (hcf : ce.frame = some F)
    (hfp : ∀ b ∈ fp, FpOk X pins H3 b ∧ b < s3.heap.objs.size) {EB : Value → Shared → Prop}
    (hEB : EB = notedBy (model X.prog X.w) X.A ce fun e z => cEnd (model X.prog X.w) X.A X.xe use Qf (.ref D) s3.heap.objs.size (some F) (.error e) z) :
    TakF ((X.blk s3 H3 sc ce fp).wish EB) F (fun cls d _ H => W cls d σ H) := by
  intro u z x
  obtain ⟨a, B, sI, pins', σ', H', cls, d, rfl, J, nb, up, sky, na, os, ag, w⟩ := x
  show EB (.ref a) z
  rw [hEB]
  show wpAny _ _ (noteFrame (.ref a) ce) _ _ _
  rw [noteFrame_same (b := e0) (hcf.trans hf0.symm)]
  have J' : Inv (X.blk s3 H3 sc ce fp) pins' σ' H' sI := J.unwish
  have stk : (X.blk s3 H3 sc ce fp).stack = X.stack := rfl
  have sky' : Sky B (e0 :: out) a (Zc cls d) F z.heap := by rw [← hst]; exact sky
  have hfr : X.A.frames = some (e0 :: out) := by rw [I3.ok.frames, hst]
  refine note_any Zc.steady hfr hf0 sky' fun h1 held up1 => ?_
  -- the block's names
  obtain ⟨m, ⟨oC, es, ep, hoC, hdC, hrC⟩, _⟩ := id J'.loc
  have hoC : sI.heap.get? ce.locals = some oC := hoC
  rw [hcl] at hoC
  have nofC : ∀ vs, oC.data ≠ .fields vs := fun vs q => by rw [hdC] at q; cases q
  obtain ⟨sl1, c1⟩ := up _ _ hoC nofC
  obtain ⟨sl2, c2⟩ := up1 _ _ c1 nofC
  refine ⟨m, ⟨_, es, ep, c2, hdC, hrC⟩, fun h' sb k hk1 hk2 => ?_⟩
  -- the def's own state, the block's names gone
  have nC : H' s3.heap.objs.size = none := by
    have q : H' ce.locals = none := J'.free
    rwa [hcl] at q
  have I6 : Inv X pins σ H' sI := I3.call' (ch := fp) J'.os J'.base J'.hok J'.bare fun b hb =>
    ⟨(hfp b hb).1.2.2.2.1, (hfp b hb).1.2.1, (hfp b hb).1.2.2.2.2.1, (hfp b hb).1.2.2.2.2.2⟩
  obtain ⟨f0, f1, f2, f3, f4, f5⟩ := I3.fpOk (H' := H') (Nat.le_refl s3.heap.objs.size) nC
  obtain ⟨G, gin, gout⟩ := restrict sI.heap fun b => decide (b ≠ s3.heap.objs.size)
  obtain ⟨B', bin, bout⟩ := restrict B fun b => decide (b ≠ s3.heap.objs.size)
  have gk : ∀ b, b ≠ s3.heap.objs.size → G.get? b = sI.heap.get? b := fun b hb => gin b (decide_eq_true hb)
  have bk : ∀ b, b ≠ s3.heap.objs.size → B'.get? b = B.get? b := fun b hb => bin b (decide_eq_true hb)
  have gne : ∀ b o, G.get? b = some o → b ≠ s3.heap.objs.size := fun b o q e => by rw [gout b (by simp [e])] at q; cases q
  have bne : ∀ b o, B'.get? b = some o → b ≠ s3.heap.objs.size := fun b o q e => by rw [bout b (by simp [e])] at q; cases q
  have I7 : Inv X pins σ H' { sI with heap := G } := I6.turned (t' := sI.toks) (fun b o hb q => (gk b hb).trans q) f0 f1 f3 f4 f5
  obtain ⟨k1, k2, k3, oe, vs, Tb', oT, ts, q1, q2, q3, q4, q5, q6, q7, q8, q9⟩ := held
  have aC : a ≠ s3.heap.objs.size := fun e => by
    rw [e, c2] at q1
    injection q1 with q1
    rw [← q1] at q3
    exact nofC vs q3
  have tC : Tb' ≠ s3.heap.objs.size := fun e => by
    rw [e, c2] at q7
    injection q7 with q7
    rw [← q7] at q8
    exact nofC ts q8
  have held' : HeldZ B' (e0 :: out) a (Zc cls d) F h' := by
    refine ⟨fun b o q => ?_, ?_, ?_, oe, vs, Tb', oT, ts, (sb.2 a aC).trans q1, q2, q3, q4, ?_, q6, (sb.2 Tb' tC).trans q7, q8, q9⟩
    · have hb := bne b o q
      exact (sb.2 b hb).trans (k1 b o ((bk b hb).symm.trans q))
    · rw [bk a aC]; exact k2
    · have k3' : h1.FunFrames B' (e0 :: out) := funFrames_none k3 fun L hL => by
        have y := (k3.mem hL).1
        by_cases hLC : L = s3.heap.objs.size
        · rw [hLC]; exact bout _ (by simp)
        · rw [bk L hLC]; exact y
      refine frames_but sb k3' fun L hL e => ?_
      have y : s3.heap.FunFrames X.base (e0 :: out) := by rw [← hst]; exact I3.stack
      obtain ⟨_, o, ho, _⟩ := y.mem hL
      have lt := Heap.lt_size ho
      rw [e] at lt
      exact Nat.lt_irrefl _ lt
    · rw [bk Tb' tC]; exact q5
  have hz : ({ z with heap := h1 } : Shared).os = sI.os := os
  unfold PySem.passOn
  refine wpAny_bind (wpAny_field ((sb.2 a aC).trans q1) q3 q4 ?_)
  rw [if_neg (show ¬ ((Value.ref Tb' == Value.none) = true) from by simp)]
  rw [hk2]
  refine wpAny_bind (PySem.HandSPX.setFlight_onZ held' fun h2 held2 up2 => ?_)
  refine wpAny_throw (tk _ _ ⟨a, B', { sI with heap := G }, pins, σ, H', cls, d, rfl, I7, fun b o q hb => ?_, fun b o q hnf => ?_, ?_, na, os, ag, w⟩)
  · have hbC := gne b o q
    rw [bk b hbC]
    exact nb b o ((gk b hbC).symm.trans q) hb
  · have hbC := gne b o q
    obtain ⟨s1, y1⟩ := up b o ((gk b hbC).symm.trans q) hnf
    obtain ⟨s2, y2⟩ := up1 b _ y1 hnf
    obtain ⟨s3', y3⟩ := up2 b _ ((sb.2 b hbC).trans y2) hnf
    exact ⟨s3', y3⟩
  · rw [hst]
    exact .inr (.inr held2)
end

section
variable {X : Cx}
/-- [elt for tg in iter if ..] whatever flies -/
theorem comp_core {pins : List (Addr × Obj)} {s : Shared} {σ : LSt} {H : Hp} {Q : VK} {elt tg iter : Expr} {ifs : List Expr} {sc : Scope} {own : List (Str × Nat)} {pos pos' : Pos} {wi : TI} {g : TG} {tt : TT} {te : TE} {use : Option (Value → Sem Unit)} {Qf : Value → Shared → Prop} {W : WX} {F : Addr}
    (hc : X.calm = true) (hN : X.N.Nodup) (I : Inv X pins σ H s) (hi : PI X tg iter wi) (ok : BlkOk X.N X.env.scope sc own) (tk : TakF X F W) {e0 : Env} {out : List Env} (hst : X.stack = e0 :: out) (hf0 : e0.frame = some F) (hfr : X.env.frame = some F)
    (parts : ∀ (s : Shared) (H : Hp) (C : Addr) (cl : List (Str × Addr)) (fp : List Addr) (EB : Value → Shared → Prop), TakF ((X.blk s H sc (compEnvC sc cl C X.env) fp).wish EB) F (fun c d _ H => W c d σ H) →
      PG ((X.blk s H sc (compEnvC sc cl C X.env) fp).wish EB) tg g ∧ PTs ((X.blk s H sc (compEnvC sc cl C X.env) fp).wish EB) ifs tt ∧ PE ((X.blk s H sc (compEnvC sc cl C X.env) fp).wish EB) elt te)
    (hs : ∀ x, foldedSetIterable iter X.env x = pure x) (h : tLc wi g tt te (own.map (·.2)) σ H Q)
    (fin : ∀ D C s' m H', Inv X pins σ H' s' → Q (.ref D) H' → s'.heap.Ns C m → FpOk X pins H' C → cEnd (model X.prog X.w) X.A X.xe use Qf (.ref D) C (some F) (.ok .next) s') :
    wpAny (model X.prog X.w) X.A (comprehension (.ListComp elt [⟨tg, iter, ifs, 0⟩] sc pos) sc X.env pos' (newList []) false (eval iter X.env) use) Qf X.xe s := by
  have cells : ∀ y ∈ sc.names, y.2 = .free → ∃ c, X.env.cells.lookup y.1 = some c := fun y hy e => by
    rcases ok.free y hy e with k | k
    · exact I.ok.has _ (.inl k)
    · exact I.ok.has _ (.inr k)
  refine comp_walk (use := use) rfl hs (closure_ok cells) ok.kind (fun y hy e => by rw [ok.uniq y hy, e]) (thn (hi.run pins s σ H _ I h) fun xv s1 hx => thn hx fun itv s2 h2 => ?_)
  obtain ⟨it, fp, tn, J, H2, e, I2, T, st2, f2, q⟩ := h2
  subst e
  refine wpAny_newObj_type (newEnv_comp ?_) (by show 0 ≤ sizeLine; decide)
  generalize hD : s2.heap.objs.size = D
  have hDn : H2 D = none := I2.hok.fresh (Nat.le_of_eq hD)
  obtain ⟨Wn, ⟨m0, w0⟩, turn⟩ := q D hDn
  generalize hs3 : ({ s2 with heap := s2.heap.push { cls := .type "list", data := .seq ([] : List Value).toArray } } : Shared) = s3
  have heap3 : s3.heap = s2.heap.push { cls := .type "list", data := .seq ([] : List Value).toArray } := by rw [← hs3]
  have keep3 : ∀ b o, s2.heap.get? b = some o → s3.heap.get? b = some o := fun b o e => by rw [heap3]; exact Heap.get?_push_of_some _ e
  have I3 : Inv X pins σ (upd H2 D (.lst [])) s3 := by
    rw [← hs3]
    refine I2.laid (t' := s2.toks) (fun b o e => Heap.get?_push_of_some _ e) (Nat.le_of_eq hD) ⟨Nat.zero_le _, [], 0, .nil, ?_⟩
    rw [← hD]
    exact Heap.get?_push_size _ rfl
  have f3 : ∀ b ∈ fp, FpOk X pins (upd H2 D (.lst [])) b ∧ b < s3.heap.objs.size := fun b hb => by
    obtain ⟨o, e, _⟩ := T.obj _ _ st2 b hb
    have hlt := Heap.lt_size e
    refine ⟨⟨?_, (f2 b hb).2⟩, by rw [heap3, Heap.size_push]; exact Nat.lt_succ_of_lt hlt⟩
    rw [upd_ne (by rw [← hD]; exact Nat.ne_of_lt hlt)]
    exact (f2 b hb).1
  have st3 : tn 0 s3.heap := T.keep _ _ _ st2 fun b _ o e => keep3 b o e
  have I4 := block_start I3 ok hN f3
  generalize hcl : cellsFrom (s3.heap.objs.size + 1) sc.names (cloFrom X.env.cells sc.names []) = cl at I4
  show codeAny _ _ (.compStart (.ListComp elt [⟨tg, iter, ifs, 0⟩] sc pos) 0 (.ref it) (.ref D) (compEnvC sc cl s3.heap.objs.size X.env))
    (cEnd (model X.prog X.w) X.A X.xe use Qf (.ref D) s3.heap.objs.size X.env.frame) { s3 with heap := pushCells (s3.heap.push { cls := .type "dict", data := .dict #[] }) sc.names }
  rw [hfr]
  generalize hH3 : upd H2 D (.lst []) = H3 at I3 I4 w0 f3
  have nfp : ∀ b ∈ fp, H3 b = none := fun b hb => (f3 b hb).1.1
  generalize hs4 : ({ s3 with heap := pushCells (s3.heap.push { cls := .type "dict", data := .dict #[] }) sc.names } : Shared) = s4 at I4 ⊢
  have st4 : tn 0 s4.heap := T.keep _ _ _ st3 fun b _ o e => by rw [← hs4]; exact pushCells_keeps _ _ _ _ (Heap.get?_push_of_some _ e)
  have P := parts s3 H3 s3.heap.objs.size cl fp
  have cloc : (compEnvC sc cl s3.heap.objs.size X.env).locals = s3.heap.objs.size := rfl
  have cfr : (compEnvC sc cl s3.heap.objs.size X.env).frame = some F := hfr
  generalize hce : compEnvC sc cl s3.heap.objs.size X.env = ce at I4 P cloc cfr ⊢
  obtain ⟨EB, hEB⟩ : ∃ EB, EB = notedBy (model X.prog X.w) X.A ce fun e z => cEnd (model X.prog X.w) X.A X.xe use Qf (.ref D) s3.heap.objs.size (some F) (.error e) z := ⟨_, rfl⟩
  obtain ⟨pg, pt, pe⟩ := P EB (blk_takes (D := D) I3 tk hst hf0 cloc cfr f3 hEB)
  generalize hY : (X.blk s3 H3 sc ce fp).wish EB = Y at pg pt pe
  have yx : Y.xe = EB := by rw [← hY]
  have I4' : Inv Y [] (L2.wipe σ (own.map (·.2))) H3 s4 := by rw [← hY]; exact I4.wish EB
  have ycalm : Y.calm = true := by rw [← hY]; exact hc
  have stat : ∀ {σ' : LSt} {H' : Hp} {s' : Shared}, Inv Y [] σ' H' s' → (∀ b ∈ fp, H' b = none) → ∀ b ∈ fp, FpOk Y [] H' b := fun {σ' H' s'} I' hn b hb => by
    have e1 : Y.ex = fp := by rw [← hY]
    have hb' : b ∈ Y.ex := by rw [e1]; exact hb
    refine ⟨hn b hb, (I'.ok.exf b hb').1, I'.ok.exfs b hb', .inl hb', fun x c e => (I'.ok.exf b hb').2 x c e, fun p hp => ?_⟩
    have e2 : Y.pn = [] := by rw [← hY]
    rw [e2] at hp
    simp at hp
  have m1 : Y.prog = X.prog := by rw [← hY]
  have m2 : Y.w = X.w := by rw [← hY]
  have m3 : Y.K = X.K := by rw [← hY]
  have m4 : Y.A = X.A := by rw [← hY]
  have m5 : Y.env = ce := by rw [← hY]
  have loop : codeAny (model X.prog X.w) X.A (.compLoop (.ListComp elt [⟨tg, iter, ifs, 0⟩] sc pos) 0 (.ref it) (.ref D) ce) (cEnd (model X.prog X.w) X.A X.xe use Qf (.ref D) s3.heap.objs.size (some F)) s4 := by
    refine compLoop_any (fun n s' => ∃ i H', Inv Y [] (L2.wipe σ (own.map (·.2))) H' s' ∧ tn i s'.heap ∧ (∀ b ∈ fp, H' b = none) ∧ Wn i n H') ?_ m0 ⟨0, H3, I4', st4, nfp, w0⟩
    rintro n s5 ⟨i, H5, I5, st5, n5, w5⟩
    rw [← hEB]
    rcases turn i n H5 w5 with ⟨stop, qq⟩ | ⟨go, Nx, hNx, step⟩
    · have td := T.done Y m1 m2 m3 ycalm i [] s5 _ H5 EB I5 (stat I5 n5) st5 stop
      rw [m4] at td
      refine thn td fun r s6 ⟨hr, I6⟩ => ?_
      subst hr
      rw [← hY] at I6
      have I6' : Inv (X.blk s3 H3 sc ce fp) [] (L2.wipe σ (own.map (·.2))) H5 s6 := I6.unwish
      have I7 : Inv X pins σ H5 s6 := I3.call' (ch := fp) I6'.os I6'.base I6'.hok I6'.bare fun b hb => ⟨(f3 b hb).1.2.2.2.1, (f3 b hb).1.2.1, (f3 b hb).1.2.2.2.2.1, (f3 b hb).1.2.2.2.2.2⟩
      have nC : H5 s3.heap.objs.size = none := by
        have y : H5 ce.locals = none := I6'.free
        rwa [cloc] at y
      obtain ⟨m, hn, _⟩ := I6'.loc
      have hn : s6.heap.Ns ce.locals m := hn
      rw [cloc] at hn
      exact fin D s3.heap.objs.size s6 m H5 I7 qq hn (I3.fpOk (Nat.le_refl _) nC)
    · have ti := T.item Y m1 m2 m3 ycalm i [] s5 _ H5 EB I5 (stat I5 n5) st5 go
      rw [m4] at ti
      refine thn ti fun r s6 ⟨u, hr, h6⟩ => ?_
      subst hr
      refine thn h6 fun _ s7 ⟨x, H7, I7, r7, y7, st7, n7⟩ => ?_
      have I7' := I7.pinned (stat I7 n7) (T.obj _ _ st7)
      have r1 := pg.run _ s7 _ H7 x u _ I7' r7 (step x H7 y7)
      rw [m1, m2, m4, m5, yx] at r1
      refine thn r1 fun _ s8 ⟨σ8, H8, I8, hw8, q8⟩ => ?_
      have r2 := pt.run _ s8 σ8 H8 _ I8 q8
      rw [m1, m2, m4, m5, yx] at r2
      refine thn r2 fun b s9 ⟨H9, I9, q9⟩ => ?_
      have done : ∀ {s' : Shared} {H' : Hp}, Inv Y ([] ++ pinsAt fp s7.heap) σ8 H' s' → Nx H' → ∃ m, m < n ∧ ∃ i H', Inv Y [] (L2.wipe σ (own.map (·.2))) H' s' ∧ tn i s'.heap ∧ (∀ b ∈ fp, H' b = none) ∧ Wn i m H' := fun {s' H'} I' nx => by
        obtain ⟨m', hm, w'⟩ := hNx H' nx
        have pin' : ∀ b ∈ fp, ∀ o, s7.heap.get? b = some o → s'.heap.get? b = some o ∧ H' b = none := fun b hb o e =>
          let y := I'.pin (b, o) (List.mem_append_right _ (List.mem_append_right _ (mem_pinsAt hb e)))
          ⟨y.1, y.2.1⟩
        have hl : (L2.wipe σ (own.map (·.2))).length = σ8.length := by rw [← hw8, wipe_length]
        refine ⟨m', hm, i + 1, H', (I'.unpinned (pins := [])).weak hl (fun j v e => ?_), T.keep _ _ _ st7 fun b hb o e => (pin' b hb o e).1, fun b hb => ?_, w'⟩
        · rw [← hw8] at e
          exact (wipe_some e).1
        · obtain ⟨o, e, _⟩ := T.obj _ _ st7 b hb
          exact (pin' b hb o e).2
      cases b with
      | false =>
        simp only [Bool.false_eq_true, if_false] at q9 ⊢
        exact done I9 q9
      | true =>
        simp only [if_true] at q9 ⊢
        have r3 := pe.run _ s9 σ8 H9 _ I9 q9
        rw [m1, m2, m4, m5, yx] at r3
        refine thn r3 fun z s10 ⟨yv, H10, I10, r10, acc, hD10, hz10, nx⟩ => ?_
        have r4 := app_ok (E := EB) (Q := fun _ s11 => ∃ m, m < n ∧ ∃ i H', Inv Y [] (L2.wipe σ (own.map (·.2))) H' s11 ∧ tn i s11.heap ∧ (∀ b ∈ fp, H' b = none) ∧ Wn i m H') I10 hD10 hz10 r10 fun s11 I11 => done I11 nx
        rw [m1, m2, m4] at r4
        exact r4
  exact codeAny_compStart_list loop (T.self X.A 0 _ _ _ st4 loop)
end
end CT

end
section
set_option maxHeartbeats 4000000
/-! callturn proofs, part m: what loops walk -/
namespace PySem
open Sem (wp)
open AutoSeq1 (wpAny_loadPart')
theorem meets_enumerate_newT (l : Addr) (items : Array Value) (n : Nat) (dct : Option Addr) (sl : Array (Option Value)) :
    Meets (Builtin.«enumerate.__new__» ⟨[.type "enumerate", .ref l], []⟩) (fun _ R s => s.heap.get? l = some { cls := .type "tuple", dict := dct, data := .seq items n, slots := sl } ∧
      R (.ok (.ret (.ref (s.heap.push { cls := .type "tuple_iterator", data := .fields #[.ref l, .int 0 0] }).objs.size)))
        { s with heap := (s.heap.push { cls := .type "tuple_iterator", data := .fields #[.ref l, .int 0 0] }).push { cls := .type "enumerate", data := .fields #[.none, .bool false, .ref s.heap.objs.size, rawInt 0, .none, .none] } }) :=
  .of_wp fun prog w A R s h => by
    obtain ⟨hp, g, d, tk, os⟩ := s; obtain ⟨hl, h⟩ := h
    have hsub := sub_enumerate
    have hL : Heap.IsTuple (Shared.heap ⟨hp, g, d, tk, os⟩) l items := ⟨_, hl, rfl, n, rfl⟩
    wp_walk using wpAny_loadPart' hl
    refine wpAny_stack_any fun st => wpAny_pure ?_
    split
    · rename_i c _ _ _ _ _
      cases (c == Value.type "enumerate")
      · wp_walk using wpAny_loadPart' hl, wpAny_pyIter_tuple hL
        exact ⟨_, rfl, h⟩
      · wp_walk using wpAny_loadPart' hl, wpAny_pyIter_tuple hL
        exact ⟨_, rfl, h⟩
    · wp_walk using wpAny_loadPart' hl, wpAny_pyIter_tuple hL
      exact ⟨_, rfl, h⟩
theorem call_enumerate_tuple {prog : Program} {w : World} {A : Around} {E : Value → Shared → Prop} {s : Shared} {l : Addr} {items : Array Value} {Q : Value → Shared → Prop} (hL : s.heap.IsTuple l items)
    (h : ∀ h', IsEnum h' (s.heap.objs.size + 1) s.heap.objs.size 0 .none → h'.IsTupleIter s.heap.objs.size l 0 → h'.objs.size = s.heap.objs.size + 2 →
      (∀ b o, s.heap.get? b = some o → h'.get? b = some o) → Q (.ref (s.heap.objs.size + 1)) { s with heap := h' }) :
    wpAny (model prog w) A (call (.type "enumerate") [.ref l]) Q E s := by
  obtain ⟨⟨c, dct, dt, sl⟩, hl, hc, n, hd⟩ := hL
  replace hc : c = .type "tuple" := hc
  replace hd : dt = .seq items n := hd
  subst hc hd
  refine callType_new F.called_enumerate (by decide) (F.typeCall_enumerate_1 _) (F.newCall_enumerate_1 _) (fun obj => F.args_object_init_2 obj _) F.entry_enumerate_new
    (meets_enumerate_newT l items n dct sl) ⟨hl, ?_⟩
  have hz : (s.heap.push { cls := .type "tuple_iterator", data := .fields #[.ref l, .int 0 0] }).objs.size = s.heap.objs.size + 1 := Heap.size_push ..
  show _ ∧ _
  rw [hz]
  have he : IsEnum ((s.heap.push { cls := .type "tuple_iterator", data := .fields #[.ref l, .int 0 0] }).push
      { cls := .type "enumerate", data := .fields #[.none, .bool false, .ref s.heap.objs.size, rawInt 0, .none, .none] }) (s.heap.objs.size + 1) s.heap.objs.size 0 .none := by
    have := Heap.get?_push_size (s.heap.push { cls := .type "tuple_iterator", data := .fields #[.ref l, .int 0 0] })
      (o := { cls := .type "enumerate", data := .fields #[.none, .bool false, .ref s.heap.objs.size, rawInt 0, .none, .none] }) rfl
    rw [hz] at this; exact this
  refine ⟨⟨_, he, rfl⟩, h _ he ⟨_, Heap.get?_push_of_some _ (Heap.get?_push_size _ rfl), rfl, rfl⟩ (by rw [Heap.size_push, hz]) fun b o x => Heap.get?_push_of_some _ (Heap.get?_push_of_some _ x)⟩
end PySem
namespace L2
open PySem PySem.Spec PyProof.Rows
/-- the tuple at a, each item in a new pair -/
def IteT (K : PySem.W.Frag) (a : Addr) : It :=
  ⟨fun i H => ∃ (xs : List V) (x : V), SqT K H a xs ∧ xs[i]? = some x, fun i H v H' => ∃ T x, v = .ref T ∧ H T = none ∧ H' = upd H T (.tup [.int (i : Nat), x]) ∧ ∀ xs, SqT K H a xs → xs[i]? = some x, fun i H => ∃ xs : List V, SqT K H a xs ∧ xs.length ≤ i⟩
theorem turn_enumT {P : Program} {w : World} {K : PySem.W.Frag} {elts : List Expr} {kk : Nat} {tpos : Pos} (a e it : Addr) :
    Turn P w K (.Tuple elts kk tpos) (IteT K a) [e, it] e (fun i h => (∃ old, IsEnum h e it ((i : Nat) : Int) old) ∧ h.IsTupleIter it a i ∧ e ≠ it ∧ a ≠ it ∧ a ≠ e) where
  mem := by simp
  obj := fun i h st b hb => by
    obtain ⟨⟨old, he⟩, ⟨o, ho, hc, hd⟩, _⟩ := st
    have e' : b = e ∨ b = it := by simpa using hb
    rcases e' with z | z
    · rw [z]; exact ⟨_, he, fun v q => nomatch q⟩
    · rw [z]; exact ⟨o, ho, fun v q => by rw [hd] at q; cases q⟩
  keep := fun i h h' st k => let ⟨⟨old, he⟩, hi, hne⟩ := st; ⟨⟨old, k e (by simp) _ he⟩, hi.at fun o q => k it (by simp) o q, hne⟩
  item := by
    intro X hP hw hK hc i pins s σ H E I hf st hg
    subst hP hw hK
    obtain ⟨⟨old, he⟩, hit, hne, hai, hae⟩ := st
    obtain ⟨xs, x, hq, hx⟩ := hg
    obtain ⟨its, rv, p, hz⟩ := I.tuple hq
    obtain ⟨u, hu, ru⟩ := rv.get hx
    have hel : e < s.heap.objs.size := Heap.lt_size he
    have hil : it < s.heap.objs.size := by obtain ⟨_, q, _⟩ := hit; exact Heap.lt_size q
    have hi : i < its.toArray.size := by
      obtain ⟨h1, _⟩ := List.getElem?_eq_some_iff.mp hu
      simpa using h1
    have D := Draws.tuple (prog := X.prog) (w := X.w) (A := X.A.in1) (I.ok.hd hc) it a hai its.toArray
    refine wpAny_pyNext_enum_itemD D he ⟨hit, p⟩ hi hne (by simp only [List.mem_cons, List.not_mem_nil, or_false, not_or]; exact ⟨hne, fun z => hae z.symm⟩) fun x' h' tk hx' ho hit' hT hsz hk => ?_
    have ex : x' = u := by
      have hx' : its.toArray[i]? = some x' := hx'
      have hu' : its.toArray[i]? = some u := by simpa using hu
      rw [hu'] at hx'; exact (Option.some.inj hx').symm
    subst ex
    refine ⟨_, rfl, wpAny_letOwnedTupleGo_enum (s := { s with heap := h', toks := tk + 1 }) ho fun h'' he' sb => ?_⟩
    have hT2 : h''.get? s.heap.objs.size = some { cls := .type "tuple", data := .seq #[.int i tk, x'] } := (sb.2 _ (Nat.ne_of_gt hel)).trans hT
    have new : ObjOk X.prog X.w (upd H s.heap.objs.size (.tup [.int (i : Nat), x])) h'' s.heap.objs.size (.tup [.int (i : Nat), x]) :=
      ⟨by show 2 ≤ sizeLine; decide, [.int i tk, x'], .cons ⟨_, rfl⟩ (.cons ru .nil), ⟨_, hT2, rfl, _, rfl⟩⟩
    have I1 : Inv X pins σ (upd H s.heap.objs.size (.tup [.int (i : Nat), x])) { s with heap := h'', toks := tk + 1 } :=
      I.turnedNew (ch := [e, it]) (fun b ob hb q => (sb.2 b (fun z => hb (by simp [z]))).trans (hk b ob (fun z => hb (by simp [z])) (fun z => hb (by simp [z])) q)) hf (Nat.le_refl _) new
    refine ⟨.ref s.heap.objs.size, _, I1, rfl, ⟨_, x, rfl, I.hok.fresh (Nat.le_refl _), rfl, fun ys hy => by rw [I.tuple_inj hy hq]; exact hx⟩, ⟨⟨x', ?_⟩, hit'.1.at fun o q => (sb.2 it (Ne.symm hne)).trans q, hne, hai, hae⟩, fun b hb => ?_⟩
    · have e1 : ((i + 1 : Nat) : Int) = (i : Int) + 1 := by omega
      rw [e1]; exact he'
    · have hb' : b < s.heap.objs.size := by
        have e' : b = e ∨ b = it := by simpa using hb
        rcases e' with z | z
        · rw [z]; exact hel
        · rw [z]; exact hil
      rw [upd_ne (Nat.ne_of_lt hb')]
      exact (hf b hb).1
  done := by
    intro X hP hw hK hc i pins s σ H E I hf st hg
    subst hP hw hK
    obtain ⟨⟨old, he⟩, hit, hne, hai, hae⟩ := st
    obtain ⟨xs, hq, hx⟩ := hg
    obtain ⟨its, rv, p, hz⟩ := I.tuple hq
    obtain ⟨f0, f1, f2, f3, f4, f5⟩ := hf it (by simp)
    have hl := rv.length
    have hT : s.TypeIs (.ref e) "enumerate" := ⟨_, he, rfl⟩
    unfold pyNext
    refine wpAny_bind (wpAny_attempt (wpAny_callSpecial?_slot (name := Str.ofString "__next__") hT F.slot_enumerate_next
      (wpAny_call_entry F.slot_enumerate_next hT F.entry_enumerate_next ?_ (F.args_enumerate_next_1 _))))
    show wpAny _ _ (field (.ref e) 2 >>= _) _ _ _
    refine wpAny_bind (wpAny_field he rfl (x := .ref it) rfl ?_)
    refine wpAny_bind (wpAny_nextOf_tuple_end (I.ok.hd hc) hit p (by simp; omega) fun h' x he' hx' => ?_)
    obtain ⟨o, ho, hc⟩ := hx'
    refine wpAny_bind (wpAny_isInstance (T := "StopIteration") (b := true) ⟨o, ho, hc⟩ isSubtype_stop ?_)
    exact wpAny_pure ⟨rfl, I.turned (t' := s.toks) (fun b o hb q => he' b o hb q) f0 f1 f3 f4 f5⟩
  self := fun A i s Q E st h => let ⟨⟨_, he⟩, _⟩ := st; wpAny_pyIter_enum he h
def iEnumA (K : PySem.W.Frag) (ta : TA) : TI := fun σ H R => ta σ H fun vs H1 => ∃ a xs, vs = [.ref a] ∧ ((SqL K H1 a xs ∧ R (Ite K a) H1) ∨ (SqT K H1 a xs ∧ R (IteT K a) H1))
theorem pi_enumA {X : Cx} {e : Expr} {ta : TA} {p pos tpos : Pos} {elts : List Expr} {kk : Nat} (hg : Gl X "enumerate") (hm : X.mg "enumerate" = none) (ha : PA X [e] ta) (hs : starEach [e] X.env = [(false, eval e X.env)] := by rfl) :
    PI X (.Tuple elts kk tpos) (.Call (.Name "enumerate" p) [e] [] pos) (iEnumA X.K ta) := by
  refine ⟨fun pins s σ H R I h => ?_⟩
  refine Call_ (ld_blt I hg hm boot_enumerate (PyProof.Rows.callWith_type1 (thn (ha.run pos pins s σ H _ I h) fun us s1 ⟨vs, H1, I1, r1, q1⟩ => ?_) hs rfl))
  obtain ⟨a, xs, ex, q1⟩ := q1
  subst ex
  cases r1 with
  | cons r rr =>
    cases rr
    cases r
    have hle : ∀ b ∈ [s1.heap.objs.size + 1, s1.heap.objs.size], s1.heap.objs.size ≤ b := fun b hb => by
      have e' : b = s1.heap.objs.size + 1 ∨ b = s1.heap.objs.size := by simpa using hb
      rcases e' with z | z
      · rw [z]; exact Nat.le_add_right _ _
      · rw [z]; exact Nat.le_refl _
    rcases q1 with ⟨hq, q⟩ | ⟨hq, q⟩
    · obtain ⟨its, rv, p', hz⟩ := I1.list hq
      refine call_enumerate_list p'.isList fun h' he hit hsz hk => wpAny_pyIter_enum he ?_
      have I2 : Inv X pins σ H1 { s1 with heap := h' } := I1.kept (t' := s1.toks) hk
      exact ⟨s1.heap.objs.size + 1, [s1.heap.objs.size + 1, s1.heap.objs.size], _, _, H1, rfl, I2, turn_enum a (s1.heap.objs.size + 1) s1.heap.objs.size, ⟨⟨.none, he⟩, hit, Nat.succ_ne_self _⟩, fun b hb => I1.fpOk (hle b hb) (I1.hok.fresh (hle b hb)), q⟩
    · obtain ⟨its, rv, p', hz⟩ := I1.tuple hq
      have hal : a < s1.heap.objs.size := by obtain ⟨_, q, _⟩ := p'; exact Heap.lt_size q
      refine call_enumerate_tuple p' fun h' he hit hsz hk => wpAny_pyIter_enum he ?_
      have I2 : Inv X pins σ H1 { s1 with heap := h' } := I1.kept (t' := s1.toks) hk
      exact ⟨s1.heap.objs.size + 1, [s1.heap.objs.size + 1, s1.heap.objs.size], _, _, H1, rfl, I2, turn_enumT a (s1.heap.objs.size + 1) s1.heap.objs.size, ⟨⟨.none, he⟩, hit, Nat.succ_ne_self _, Nat.ne_of_lt hal, Nat.ne_of_lt (Nat.lt_succ_of_lt hal)⟩, fun b hb => I1.fpOk (hle b hb) (I1.hok.fresh (hle b hb)), q⟩
end L2
namespace CT
open PySem PySem.Spec PyProof.Rows L2
/-- an item that a loop draws; wk: it may be a pair that was made for it -/
def RDk (T : Tb) (wk : Bool) (g : Gh) (x : V) (d : D) : Prop := T.RD g x d ∨ (wk = true ∧ ∃ a xs ds, x = .ref a ∧ d = .tup ds ∧ SqT T.K g.Hf a xs ∧ T.RDs g xs ds)
/-- an iterator of the layer walks this -/
def WkOk (T : Tb) (wk : Bool) (g : Gh) (w : CT.W) (J : It) : Prop :=
  match w with
  | .row ds => ds.length ≤ sizeLine ∧ ∀ g2 S2 H2, g.sub g2 → T.Sim g2 S2 H2 → (∀ i, i < ds.length → J.go i H2) ∧ J.stop ds.length H2 ∧ ∀ i x H3 d, ds[i]? = some d → J.yld i H2 x H3 → ∃ g3, g2.le g3 ∧ T.Sim g3 S2 H3 ∧ RDk T wk g3 x d
  | .loc n => ∀ g2 S2 H2 ds, g.sub g2 → T.Sim g2 S2 H2 → S2[n]? = some (.lst ds) → ds.length ≤ sizeLine ∧ (∀ i, i < ds.length → J.go i H2) ∧ (∀ i, ds.length ≤ i → J.stop i H2) ∧ ∀ i x H3 d, ds[i]? = some d → J.yld i H2 x H3 → H3 = H2 ∧ T.RD g2 x d
def tW (T : Tb) (W : WX) (wk : Bool) (f : Ev → Sto → R CT.W) : TI := fun σ H R => ∃ g S e, T.Sim g S H ∧ T.EnvR g σ e ∧ GoR T (fun g J w => WkOk T wk g w J) W g σ (f e S) fun _ H' J _ _ => R J H'
section
variable {T : Tb} {W : WX} {X : Cx} {C : Cal}
theorem PI.imp {tg iter : Expr} {t t' : TI} (h : PI X tg iter t) (f : ∀ σ H R, t' σ H R → t σ H R) : PI X tg iter t' := ⟨fun pins s σ H R I q => h.run pins s σ H R I (f σ H R q)⟩
theorem wk_tup {wk : Bool} {g : Gh} {a : Addr} {xs : List V} {ds : List D} (q : SqT T.K g.Hf a xs) (lx : xs.length ≤ sizeLine) (r : T.RDs g xs ds) : WkOk T wk g (.row ds) (Itt T.K a) := by
  refine ⟨by rw [← r.length]; exact lx, fun g2 S2 H2 l s => ?_⟩
  have q2 : SqT T.K H2 a xs := sqT_mono (fun a o z => s.sub a o (l.Hf a o z)) q
  refine ⟨fun i hi => ?_, ⟨xs, q2, by rw [r.length]; exact Nat.le_refl _⟩, fun i x H3 d hd y => ?_⟩
  · obtain ⟨u, hu, _⟩ := r.get (i := i) (x := ds[i]) (by simp [hi])
    exact ⟨xs, u, q2, hu⟩
  · obtain ⟨e, y⟩ := y
    subst e
    obtain ⟨u, hu, ru⟩ := r.get hd
    have := y xs q2
    rw [hu] at this; cases this
    exact ⟨g2, .refl _, s, .inl (RD.monoS T.K l ru)⟩
theorem wk_lst {wk : Bool} {g : Gh} {a : Addr} {xs : List V} {ds : List D} (q : SqL T.K g.Hf a xs) (lx : xs.length ≤ sizeLine) (r : T.RDs g xs ds) : WkOk T wk g (.row ds) (Itl T.K a) := by
  refine ⟨by rw [← r.length]; exact lx, fun g2 S2 H2 l s => ?_⟩
  have q2 : SqL T.K H2 a xs := sqL_mono (fun a o z => s.sub a o (l.Hf a o z)) q
  refine ⟨fun i hi => ?_, ⟨xs, q2, by rw [r.length]; exact Nat.le_refl _⟩, fun i x H3 d hd y => ?_⟩
  · obtain ⟨u, hu, _⟩ := r.get (i := i) (x := ds[i]) (by simp [hi])
    exact ⟨xs, u, q2, hu⟩
  · obtain ⟨e, y⟩ := y
    subst e
    obtain ⟨u, hu, ru⟩ := r.get hd
    have := y xs q2
    rw [hu] at this; cases this
    exact ⟨g2, .refl _, s, .inl (RD.monoS T.K l ru)⟩
theorem wk_loc {wk : Bool} {g : Gh} {a : Addr} {n : Nat} (q : g.ρ[n]? = some a) : WkOk T wk g (.loc n) (Itl T.K a) := by
  intro g2 S2 H2 ds l s e
  obtain ⟨_, ho, q2, q3⟩ := s.obj n a _ (l.at q) e (by simp)
  cases q3 with
  | @lst xs _ lx r =>
    have q2' : SqL T.K H2 a xs := SqL.of q2
    refine ⟨by rw [← r.length]; exact lx, fun i hi => ?_, fun i hi => ⟨xs, q2', by rw [r.length]; exact hi⟩, fun i x H3 d hd y => ?_⟩
    · obtain ⟨u, hu, _⟩ := r.get (i := i) (x := ds[i]) (by simp [hi])
      exact ⟨xs, u, q2', hu⟩
    · obtain ⟨e, y⟩ := y
      subst e
      obtain ⟨u, hu, ru⟩ := r.get hd
      have := y xs q2'
      rw [hu] at this; cases this
      exact ⟨rfl, ru⟩
theorem wk_str {wk : Bool} {g : Gh} {z : Str} (hz : z.length ≤ sizeLine) : WkOk T wk g (.row (z.cps.toList.map fun c => D.str ⟨#[c]⟩)) (Its z) := by
  refine ⟨by rw [List.length_map]; exact hz, fun g2 S2 H2 l s => ?_⟩
  refine ⟨fun i hi => by show i < z.cps.size; simpa using hi, by show z.cps.size ≤ _; simp, fun i x H3 d hd y => ?_⟩
  obtain ⟨e, c, hc, ex⟩ := y
  subst e ex
  rw [List.getElem?_map, Array.getElem?_toList, hc] at hd
  simp only [Option.map_some, Option.some.injEq] at hd
  subst hd
  exact ⟨g2, .refl _, s, .inl (.str _)⟩
theorem wk_range {wk : Bool} {g : Gh} {lo : Int} {n : Nat} (hn : n ≤ sizeLine) : WkOk T wk g (.row ((List.range n).map fun (i : Nat) => D.int (lo + i))) (Itr lo n) := by
  refine ⟨by simpa using hn, fun g2 S2 H2 l s => ?_⟩
  refine ⟨fun i hi => by show i < n; simpa using hi, by show n ≤ _; simp, fun i x H3 d hd y => ?_⟩
  obtain ⟨e, ex⟩ := y
  subst e ex
  rw [List.getElem?_map] at hd
  have hi : i < n := by
    cases h : (List.range n)[i]? with
    | none => rw [h] at hd; cases hd
    | some j => have := (List.getElem?_eq_some_iff.mp h).1; simpa using this
  rw [List.getElem?_range hi] at hd
  simp only [Option.map_some, Option.some.injEq] at hd
  subst hd
  exact ⟨g2, .refl _, s, .inl (.int _)⟩
theorem wk_pair {g : Gh} {J : It} {n : Nat} {xs ys : Nat → Option V} {ds : List D} (hl : ds.length = n) (hn : n ≤ sizeLine)
    (go : ∀ g2 S2 H2, g.sub g2 → T.Sim g2 S2 H2 → (∀ i, i < n → J.go i H2) ∧ J.stop n H2)
    (yl : ∀ g2 S2 H2, g.sub g2 → T.Sim g2 S2 H2 → ∀ i x H3, i < n → J.yld i H2 x H3 → ∃ A u v, x = .ref A ∧ H2 A = none ∧ H3 = upd H2 A (.tup [u, v]) ∧ xs i = some u ∧ ys i = some v)
    (it : ∀ i d, ds[i]? = some d → ∃ a b u v, d = .tup [a, b] ∧ xs i = some u ∧ ys i = some v ∧ T.RD g u a ∧ T.RD g v b) : WkOk T true g (.row ds) J := by
  refine ⟨by rw [hl]; exact hn, fun g2 S2 H2 l s => ?_⟩
  obtain ⟨h1, h2⟩ := go g2 S2 H2 l s
  refine ⟨fun i hi => h1 i (by omega), by rw [hl]; exact h2, fun i x H3 d hd y => ?_⟩
  have hi : i < n := by have := (List.getElem?_eq_some_iff.mp hd).1; omega
  obtain ⟨A, u, v, rfl, hA, rfl, e1, e2⟩ := yl g2 S2 H2 l s i x H3 hi y
  obtain ⟨a, b, u', v', rfl, f1, f2, r1, r2⟩ := it i d hd
  rw [e1] at f1; cases f1
  rw [e2] at f2; cases f2
  obtain ⟨s3, l3⟩ := s.frz (.tup [u, v]) hA
  exact ⟨_, l3, s3, .inr ⟨rfl, _, _, _, rfl, rfl, SqT.of upd_same, (.cons (RD.monoS T.K (l.trans l3.to) r1) (.cons (RD.monoS T.K (l.trans l3.to) r2) .nil))⟩⟩
theorem wk_zipT {g : Gh} {a b : Addr} {xs ys : List V} {ds es : List D} (q : SqT T.K g.Hf a xs) (lx : xs.length ≤ sizeLine) (r : T.RDs g xs ds) (q' : SqT T.K g.Hf b ys) (r' : T.RDs g ys es) : WkOk T true g (.row ((ds.zip es).map fun p => D.tup [p.1, p.2])) (RZ.ItzT T.K a b) := by
  have up : ∀ {g2 S2 H2}, g.sub g2 → T.Sim g2 S2 H2 → SqT T.K H2 a xs ∧ SqT T.K H2 b ys := fun l s => ⟨sqT_mono (fun a o z => s.sub a o (l.Hf a o z)) q, sqT_mono (fun a o z => s.sub a o (l.Hf a o z)) q'⟩
  refine wk_pair (n := min xs.length ys.length) (xs := fun i => xs[i]?) (ys := fun i => ys[i]?) (by simp [r.length, r'.length]) (by omega) (fun g2 S2 H2 l s => ?_) (fun g2 S2 H2 l s i x H3 hi y => ?_) (fun i d hd => ?_)
  · obtain ⟨u1, u2⟩ := up l s
    refine ⟨fun i hi => ?_, ⟨xs, ys, u1, u2, by omega⟩⟩
    have h1 : i < xs.length := by omega
    have h2 : i < ys.length := by omega
    exact ⟨xs, ys, xs[i], ys[i], u1, u2, by simp [h1], by simp [h2]⟩
  · obtain ⟨u1, u2⟩ := up l s
    obtain ⟨A, u, v, h1, h2, h3, h4, h5⟩ := y
    exact ⟨A, u, v, h1, h2, h3, h4 xs u1, h5 ys u2⟩
  · rw [List.getElem?_map] at hd
    cases hz : (ds.zip es)[i]? with
    | none => rw [hz] at hd; cases hd
    | some p =>
      rw [hz] at hd
      simp only [Option.map_some, Option.some.injEq] at hd
      subst hd
      obtain ⟨z1, z2⟩ := List.getElem?_zip_eq_some.mp hz
      obtain ⟨u, hu, ru⟩ := r.get z1
      obtain ⟨v, hv, rv⟩ := r'.get z2
      exact ⟨p.1, p.2, u, v, rfl, hu, hv, ru, rv⟩
theorem wk_zipL {g : Gh} {a b : Addr} {xs ys : List V} {ds es : List D} (q : g.Hf a = some (.lst xs)) (lx : xs.length ≤ sizeLine) (r : T.RDs g xs ds) (q' : g.Hf b = some (.lst ys)) (r' : T.RDs g ys es) : WkOk T true g (.row ((ds.zip es).map fun p => D.tup [p.1, p.2])) (Itz T.K a b) := by
  have up : ∀ {g2 S2 H2}, g.sub g2 → T.Sim g2 S2 H2 → SqL T.K H2 a xs ∧ SqL T.K H2 b ys := fun l s => ⟨SqL.of (s.sub _ _ (l.Hf _ _ q)), SqL.of (s.sub _ _ (l.Hf _ _ q'))⟩
  refine wk_pair (n := min xs.length ys.length) (xs := fun i => xs[i]?) (ys := fun i => ys[i]?) (by simp [r.length, r'.length]) (by omega) (fun g2 S2 H2 l s => ?_) (fun g2 S2 H2 l s i x H3 hi y => ?_) (fun i d hd => ?_)
  · obtain ⟨u1, u2⟩ := up l s
    refine ⟨fun i hi => ?_, ⟨xs, ys, u1, u2, by omega⟩⟩
    have h1 : i < xs.length := by omega
    have h2 : i < ys.length := by omega
    exact ⟨xs, ys, xs[i], ys[i], u1, u2, by simp [h1], by simp [h2]⟩
  · obtain ⟨u1, u2⟩ := up l s
    obtain ⟨A, u, v, h1, h2, h3, h4, h5⟩ := y
    exact ⟨A, u, v, h1, h2, h3, h4 xs u1, h5 ys u2⟩
  · rw [List.getElem?_map] at hd
    cases hz : (ds.zip es)[i]? with
    | none => rw [hz] at hd; cases hd
    | some p =>
      rw [hz] at hd
      simp only [Option.map_some, Option.some.injEq] at hd
      subst hd
      obtain ⟨z1, z2⟩ := List.getElem?_zip_eq_some.mp hz
      obtain ⟨u, hu, ru⟩ := r.get z1
      obtain ⟨v, hv, rv⟩ := r'.get z2
      exact ⟨p.1, p.2, u, v, rfl, hu, hv, ru, rv⟩
theorem wk_enum {g : Gh} {a : Addr} {xs : List V} {ds : List D} (q : g.Hf a = some (.lst xs)) (lx : xs.length ≤ sizeLine) (r : T.RDs g xs ds) : WkOk T true g (.row (ds.zipIdx.map fun p => D.tup [.int (p.2 : Nat), p.1])) (Ite T.K a) := by
  have up : ∀ {g2 S2 H2}, g.sub g2 → T.Sim g2 S2 H2 → SqL T.K H2 a xs := fun l s => SqL.of (s.sub _ _ (l.Hf _ _ q))
  refine wk_pair (n := xs.length) (xs := fun i => some (.int (i : Nat))) (ys := fun i => xs[i]?) (by simp [r.length]) lx (fun g2 S2 H2 l s => ?_) (fun g2 S2 H2 l s i x H3 hi y => ?_) (fun i d hd => ?_)
  · refine ⟨fun i hi => ⟨xs, xs[i], up l s, by simp [hi]⟩, ⟨xs, up l s, Nat.le_refl _⟩⟩
  · obtain ⟨A, u, h1, h2, h3, h4⟩ := y
    exact ⟨A, .int (i : Nat), u, h1, h2, h3, rfl, h4 xs (up l s)⟩
  · rw [List.getElem?_map, List.getElem?_zipIdx] at hd
    cases hz : ds[i]? with
    | none => rw [hz] at hd; cases hd
    | some p =>
      rw [hz] at hd
      simp only [Option.map_some, Option.some.injEq] at hd
      subst hd
      obtain ⟨v, hv, rv⟩ := r.get hz
      refine ⟨_, p, _, v, rfl, rfl, hv, ?_, rv⟩
      simpa using RD.int (K := T.K) (g := g) (i : Int)
theorem wk_enumT {g : Gh} {a : Addr} {xs : List V} {ds : List D} (q : ∀ H : Hp, (∀ b o, g.Hf b = some o → H b = some o) → SqT T.K H a xs) (lx : xs.length ≤ sizeLine) (r : T.RDs g xs ds) : WkOk T true g (.row (ds.zipIdx.map fun p => D.tup [.int (p.2 : Nat), p.1])) (IteT T.K a) := by
  have up : ∀ {g2 S2 H2}, g.sub g2 → T.Sim g2 S2 H2 → SqT T.K H2 a xs := fun l s => q _ fun b o z => s.sub _ _ (l.Hf _ _ z)
  refine wk_pair (n := xs.length) (xs := fun i => some (.int (i : Nat))) (ys := fun i => xs[i]?) (by simp [r.length]) lx (fun g2 S2 H2 l s => ?_) (fun g2 S2 H2 l s i x H3 hi y => ?_) (fun i d hd => ?_)
  · refine ⟨fun i hi => ⟨xs, xs[i], up l s, by simp [hi]⟩, ⟨xs, up l s, Nat.le_refl _⟩⟩
  · obtain ⟨A, u, h1, h2, h3, h4⟩ := y
    exact ⟨A, .int (i : Nat), u, h1, h2, h3, rfl, h4 xs (up l s)⟩
  · rw [List.getElem?_map, List.getElem?_zipIdx] at hd
    cases hz : ds[i]? with
    | none => rw [hz] at hd; cases hd
    | some p =>
      rw [hz] at hd
      simp only [Option.map_some, Option.some.injEq] at hd
      subst hd
      obtain ⟨v, hv, rv⟩ := r.get hz
      refine ⟨_, p, _, v, rfl, rfl, hv, ?_, rv⟩
      simpa using RD.int (K := T.K) (g := g) (i : Int)
end
end CT

end
section
set_option maxHeartbeats 4000000
/-! callturn proofs, part n: iterators by kind; comprehensions -/
namespace CT
open PySem PySem.Spec PyProof.Rows L2
section
variable {T : Tb} {W : WX} {X : Cx} {C : Cal}
abbrev wkf (C : Cal) (ik : IK) (as : List E) : Ev → Sto → R CT.W := fun e S => (evs C as e S).bind fun ds S => walk ik ds S
theorem R.bind_assoc {α β γ : Type} (r : R α) (f : α → Sto → R β) (h : β → Sto → R γ) : (r.bind f).bind h = r.bind fun a S => (f a S).bind h := by cases r <;> rfl
theorem evs_one (C : Cal) (a : E) (e : Ev) (S : Sto) {β : Type} (k : List D → Sto → R β) : (evs C [a] e S).bind k = (ev C a e S).bind fun d S => k [d] S := by
  simp only [evs]; rw [R.bind_assoc]; congr
theorem p_seq (hK : X.K = T.K) {wk : Bool} {a : E} {tg x : Expr} (ha : PE X x (tI T W (ev C a))) : PI X tg x (tW T W wk (wkf C .seq [a])) := by
  refine ⟨fun pins s σ H R I ⟨g, S, e, sm, r, q⟩ => ?_⟩
  simp only [wkf, evs_one] at q
  cases hv : ev C a e S with
  | no => rw [hv] at q; exact q.elim
  | ex c S1 =>
    rw [hv] at q
    exact (pi_tup ha).run pins s σ H R I ⟨g, S, e, sm, r, by rw [hv]; exact q⟩
  | ok d S1 =>
    rw [hv] at q
    simp only [CT.R.bind] at q
    cases d with
    | str z =>
      refine (pi_str ha).run pins s σ H R I ⟨g, S, e, sm, r, ?_⟩
      rw [hv]
      intro g' H' v l s' rd
      cases rd
      obtain ⟨hf, q2⟩ := ite_ok q
      exact ⟨z, rfl, (q2.mono l).now s' (wk_str (fits_le hf))⟩
    | loc n =>
      refine (pi_list ha).run pins s σ H R I ⟨g, S, e, sm, r, ?_⟩
      rw [hv]
      intro g' H' v l s' rd
      cases rd with
      | @loc a' n' qx =>
        obtain ⟨p, hp, q2⟩ := orNo_ok q
        have he : ∃ ds, S1[n]? = some (.lst ds) := by
          simp only [lstAt] at hp
          cases h1 : S1[n]? with
          | none => rw [h1] at hp; cases hp
          | some o =>
            rw [h1] at hp
            cases o with
            | lst ds => exact ⟨ds, rfl⟩
            | _ => cases hp
        obtain ⟨ds, he⟩ := he
        obtain ⟨_, ho, y2, y3⟩ := s'.obj n a' _ qx he (by simp)
        rw [hK]
        cases y3 with
        | lst _ rr => exact ⟨_, rfl, ⟨_, SqL.of y2⟩, (q2.mono l).now s' (wk_loc qx)⟩
    | tup ds =>
      refine (pi_tup ha).run pins s σ H R I ⟨g, S, e, sm, r, ?_⟩
      rw [hv]
      intro g' H' v l s' rd
      cases rd with
      | tup qx lx rx =>
        rw [hK]
        exact ⟨_, rfl, ⟨_, sqT_mono s'.sub qx.1⟩, (q.mono l).now s' (wk_tup qx.1 lx rx)⟩
    | lst ds =>
      refine (pi_list ha).run pins s σ H R I ⟨g, S, e, sm, r, ?_⟩
      rw [hv]
      intro g' H' v l s' rd
      cases rd with
      | lst qx lx rx =>
        rw [hK]
        exact ⟨_, rfl, ⟨_, SqL.of (s'.sub _ _ qx)⟩, (q.mono l).now s' (wk_lst (SqL.of qx) lx rx)⟩
    | _ => exact q.elim
theorem p_range1 {wk : Bool} {a : E} {tg x : Expr} {p pos : Pos} (hg : Gl X "range") (hm : X.mg "range" = none) (ha : PE X x (tI T W (ev C a))) (hs : starEach [x] X.env = [(false, eval x X.env)]) : PI X tg (.Call (.Name "range" p) [x] [] pos) (tW T W wk (wkf C .range1 [a])) := by
  refine PI.imp (pi_range1 hg hm (pa_cons ha pa_nil hs) hs) fun σ H Rr ⟨g, S, e, sm, r, q⟩ => ?_
  simp only [wkf, evs_one] at q
  refine ⟨g, S, e, sm, r, (GoR.bind q).imp fun g1 H1 v d S1 l1 s1 rd _ q1 => ?_⟩
  cases rd with
  | int n =>
    obtain ⟨hc, q2⟩ := ite_ok q1
    obtain ⟨c1, c2⟩ := bnd hc
    have hf := fits_le c1
    rw [sizeLine_eq] at hf
    have h2 : ((n.toNat : Nat) : Int) ≤ ((16777216 : Nat) : Int) := Int.ofNat_le.mpr hf
    exact ⟨n, rfl, of_decide_eq_true c2, by omega, q2.now s1 (wk_range (fits_le c1))⟩
  | _ => exact q1.elim
theorem p_range2 {wk : Bool} {a b : E} {tg x y : Expr} {p pos : Pos} (hg : Gl X "range") (hm : X.mg "range" = none) (ha : PE X x (tI T W (ev C a))) (hb : PE X y (tI T W (ev C b)))
    (hs : starEach [x, y] X.env = [(false, eval x X.env), (false, eval y X.env)]) (hs2 : starEach [y] X.env = [(false, eval y X.env)]) : PI X tg (.Call (.Name "range" p) [x, y] [] pos) (tW T W wk (wkf C .range2 [a, b])) := by
  refine PI.imp (pi_range2 hg hm (pa_cons ha (pa_cons hb pa_nil hs2) (by rw [hs, hs2])) hs hs2) fun σ H Rr ⟨g, S, e, sm, r, q⟩ => ?_
  simp only [wkf, evs, R.bind_assoc] at q
  refine ⟨g, S, e, sm, r, (GoR.bind q).imp fun g1 H1 v d S1 l1 s1 rd _ q1 => ?_⟩
  refine ⟨g1, S1, e, s1, r.mono l1, (GoR.bind q1).imp fun g2 H2 v2 d2 S2 l2 s2 rd2 _ q2 => ?_⟩
  simp only [CT.R.bind] at q2
  cases rd with
  | int n =>
    cases rd2 with
    | int m =>
      obtain ⟨hc, q3⟩ := ite_ok q2
      obtain ⟨c1, c2⟩ := bnd hc
      obtain ⟨c1, c3⟩ := bnd c1
      obtain ⟨c3, c4⟩ := bnd c3
      obtain ⟨c5, c6⟩ := bnd c2
      exact ⟨n, m, rfl, ⟨of_decide_eq_true c3, of_decide_eq_true c4, of_decide_eq_true c5, of_decide_eq_true c6⟩, q3.now s2 (wk_range (fits_le c1))⟩
    | _ => exact q2.elim
  | _ => exact q2.elim
theorem p_zip (hK : X.K = T.K) {a b : E} {x y : Expr} {p pos tpos : Pos} {elts : List Expr} {kk : Nat} (hg : Gl X "zip") (hm : X.mg "zip" = none) (ha : PE X x (tI T W (ev C a))) (hb : PE X y (tI T W (ev C b)))
    (hs : starEach [x, y] X.env = (false, eval x X.env) :: starEach [y] X.env) (hs2 : starEach [y] X.env = (false, eval y X.env) :: starEach [] X.env) : PI X (.Tuple elts kk tpos) (.Call (.Name "zip" p) [x, y] [] pos) (tW T W true (wkf C .zip [a, b])) := by
  have pz := RZ.pi_zipA (elts := elts) (kk := kk) (tpos := tpos) (p := p) (pos := pos) hg hm (pa_cons ha (pa_cons hb pa_nil hs2) hs) hs (by rw [hs2]; rfl)
  rw [hK] at pz
  refine PI.imp pz fun σ H Rr ⟨g, S, e, sm, r, q⟩ => ?_
  simp only [wkf, evs, R.bind_assoc] at q
  refine ⟨g, S, e, sm, r, (GoR.bind q).imp fun g1 H1 v d S1 l1 s1 rd _ q1 => ?_⟩
  refine ⟨g1, S1, e, s1, r.mono l1, (GoR.bind q1).imp fun g2 H2 v2 d2 S2 l2 s2 rd2 _ q2 => ?_⟩
  simp only [CT.R.bind] at q2
  have rd := RD.mono T.K l2 rd
  cases rd with
  | @tup a1 xs ds qx lx rx =>
    cases rd2 with
    | @tup a2 ys es qy _ ry => exact ⟨a1, a2, xs, ys, rfl, .inr ⟨sqT_mono s2.sub qx.1, sqT_mono s2.sub qy.1, q2.now s2 (wk_zipT qx.1 lx rx qy.1 ry)⟩⟩
    | _ => exact q2.elim
  | @lst a1 xs ds qx lx rx =>
    cases rd2 with
    | @lst a2 ys es qy _ ry => exact ⟨a1, a2, xs, ys, rfl, .inl ⟨SqL.of (s2.sub _ _ qx), SqL.of (s2.sub _ _ qy), q2.now s2 (wk_zipL qx lx rx qy ry)⟩⟩
    | _ => exact q2.elim
  | _ => cases rd2 <;> exact q2.elim
theorem p_enum (hK : X.K = T.K) {a : E} {x : Expr} {p pos tpos : Pos} {elts : List Expr} {kk : Nat} (hg : Gl X "enumerate") (hm : X.mg "enumerate" = none) (ha : PE X x (tI T W (ev C a)))
    (hs : starEach [x] X.env = [(false, eval x X.env)]) : PI X (.Tuple elts kk tpos) (.Call (.Name "enumerate" p) [x] [] pos) (tW T W true (wkf C .enum [a])) := by
  have pz := pi_enumA (elts := elts) (kk := kk) (tpos := tpos) (p := p) (pos := pos) hg hm (pa_cons ha pa_nil hs) hs
  rw [hK] at pz
  refine PI.imp pz fun σ H Rr ⟨g, S, e, sm, r, q⟩ => ?_
  simp only [wkf, evs_one] at q
  refine ⟨g, S, e, sm, r, (GoR.bind q).imp fun g1 H1 v d S1 l1 s1 rd _ q1 => ?_⟩
  cases rd with
  | @lst a1 xs ds qx lx rx => exact ⟨a1, xs, rfl, .inl ⟨SqL.of (s1.sub _ _ qx), q1.now s1 (wk_enum qx lx rx)⟩⟩
  | @tup a1 xs ds qx lx rx => exact ⟨a1, xs, rfl, .inr ⟨sqT_mono (fun _ _ z => s1.sub _ _ z) qx.1, q1.now s1 (wk_enumT (fun H z => sqT_mono z qx.1) lx rx)⟩⟩
  | _ => exact q1.elim
/-! ### targets -/
theorem RDk.plain {g : Gh} {x : V} {d : D} (h : RDk T false g x d) : T.RD g x d := by
  rcases h with h | ⟨h, _⟩
  · exact h
  · cases h
theorem RDk.parts {wk : Bool} {g : Gh} {x : V} {ds : List D} (h : RDk T wk g x (.tup ds)) : ∃ a xs, x = .ref a ∧ SqT T.K g.Hf a xs ∧ T.RDs g xs ds := by
  rcases h with h | ⟨_, a, xs, ds', rfl, e, q, r⟩
  · cases h with
    | tup q _ r => exact ⟨_, _, rfl, q.1, r⟩
  · cases e; exact ⟨a, xs, rfl, q, r⟩
/-- a target's reading -/
def tTg (T : Tb) (wk : Bool) (tg : Tg) : TG := fun v σ H Q => ∃ g S e d, T.Sim g S H ∧ T.EnvR g σ e ∧ RDk T wk g v d ∧ GoR T (fun g σ' e' => T.EnvR g σ' e') (fun _ _ _ _ => True) g σ (evset e tg d S) fun _ H' σ' _ _ => Q σ' H'
theorem env_set {g : Gh} {σ : LSt} {e : Ev} {v : V} {d : D} (i : Nat) (h : T.EnvR g σ e) (r : T.RD g v d) : T.EnvR g (σ.set i (some v)) (e.set i (some d)) := by
  refine ⟨by simp [h.len], fun j d' hj => ?_⟩
  by_cases hij : i = j
  · subst hij
    by_cases hl : i < e.length
    · rw [List.getElem?_set_self hl] at hj
      simp only [Option.some.injEq] at hj
      subst hj
      exact ⟨v, by rw [List.getElem?_set_self (by rw [h.len]; exact hl)], r⟩
    · rw [List.getElem?_eq_none (by simpa using hl)] at hj; cases hj
  · rw [List.getElem?_set_ne hij] at hj ⊢
    exact h.at_ j d' hj
theorem g_one {i : Nat} {x : Str} {pos : Pos} (hN : X.N.Nodup) (hi : X.N[i]? = some x) (hx : Loc X.env.scope x) (hf : X.fn x = true ∨ X.env.scope.names.lookup x = some .local) : PG X (.Name x pos) (tTg T false (.one i)) := by
  refine ⟨fun pins s σ H v u Q I r h => (pg_name hN hi hx hf).run pins s σ H v u Q I r ?_⟩
  obtain ⟨g, S, e, d, sm, en, rd, q⟩ := h
  have rd := RDk.plain rd
  exact GoR.now (d := e.set i (some d)) q sm (env_set i en rd)
def slots : List Nat → List V → LSt → LSt
  | i :: is, v :: vs, σ => slots is vs (σ.set i (some v))
  | _, _, σ => σ
inductive Nms (X : Cx) : List Expr → List Nat → Prop
  | nil : Nms X [] []
  | cons {x : Str} {i : Nat} {pos : Pos} {es : List Expr} {is : List Nat} : X.N[i]? = some x → Loc X.env.scope x → (X.fn x = true ∨ X.env.scope.names.lookup x = some .local) → Nms X es is → Nms X (.Name x pos :: es) (i :: is)
theorem nms_each {es : List Expr} {is : List Nat} (h : Nms X es is) : (assignEach es X.env).length = is.length ∧ (assignEach es X.env).findIdx? (·.1) = none := by
  induction h with
  | nil => exact ⟨rfl, rfl⟩
  | cons _ _ _ _ ih =>
    refine ⟨by simp [assignEach, ih.1], ?_⟩
    simp only [assignEach]
    rw [List.findIdx?_cons]
    simp [ih.2]
theorem pgs_nms (hN : X.N.Nodup) {es : List Expr} {is : List Nat} (h : Nms X es is) : PGs X es (fun vs σ H Q => vs.length = is.length ∧ Q (slots is vs σ) H) := by
  induction h with
  | nil =>
    refine ⟨fun pins s σ H vs us Q I r hq => pgs_nil.run pins s σ H vs us Q I r ?_⟩
    obtain ⟨e, q⟩ := hq
    have e' : vs = [] := List.eq_nil_of_length_eq_zero e
    subst e'
    exact ⟨rfl, q⟩
  | @cons x i pos es is h1 h2 h3 hr ih =>
    refine ⟨fun pins s σ H vs us Q I r hq => (pgs_cons (pg_name hN h1 h2 h3) ih (by simp [assignEach])).run pins s σ H vs us Q I r ?_⟩
    obtain ⟨e, q⟩ := hq
    cases vs with
    | nil => simp at e
    | cons v vs => exact ⟨v, vs, rfl, by simpa using e, q⟩
theorem env_many {g : Gh} : ∀ {is : List Nat} {vs : List V} {ds : List D} {σ : LSt} {e : Ev}, is.length = vs.length → T.RDs g vs ds → T.EnvR g σ e → T.EnvR g (slots is vs σ) ((is.zip ds).foldl (fun e p => e.set p.1 (some p.2)) e)
  | [], [], _, _, _, _, .nil, h => h
  | [], _ :: _, _, _, _, hl, _, _ => by simp at hl
  | _ :: _, [], _, _, _, hl, _, _ => by simp at hl
  | i :: is, v :: vs, _, _, _, hl, .cons r rs, h => by
    simp only [slots, List.zip_cons_cons, List.foldl_cons]
    exact env_many (by simpa using hl) rs (env_set i h r)
theorem g_many {wk : Bool} (hK : X.K = T.K) (hc : X.calm = true) (hN : X.N.Nodup) {es : List Expr} {is : List Nat} {k : Nat} {pos : Pos} (h : Nms X es is) : PG X (.Tuple es k pos) (tTg T wk (.many is)) := by
  obtain ⟨n1, n2⟩ := nms_each h
  have pg := pg_tup (k := k) (pos := pos) hc (pgs_nms hN h) n1 n2
  rw [hK] at pg
  refine ⟨fun pins s σ H v u Q I r hq => pg.run pins s σ H v u Q I r ?_⟩
  obtain ⟨g, S, e, d, sm, en, rd, q⟩ := hq
  cases d with
  | tup ds =>
    obtain ⟨a, xs, rfl, qx, rx⟩ := rd.parts
    simp only [evset] at q
    obtain ⟨hl, q2⟩ := ite_ok q
    have hl' : ds.length = is.length := by simpa using hl
    have hx : xs.length = is.length := by rw [rx.length]; exact hl'
    exact ⟨a, xs, rfl, sqT_mono sm.sub qx, hx, hx, q2.now sm (env_many hx.symm rx en)⟩
  | _ => exact q.elim
end
end CT

end
section
set_option maxHeartbeats 4000000
/-! callturn proofs, part o: comprehensions -/
namespace CT
open PySem PySem.Spec PyProof.Rows L2
section
variable {T : Tb} {W : WX} {X : Cx} {C : Cal}
/-- a thing held aside the while -/
theorem GoR.pin {α β : Type} {rel : Gh → β → α → Prop} {g : Gh} {σ : LSt} {r : R α} {k : Gh → Hp → β → α → Sto → Prop} {f : Hp} {p : Addr} {o : HO} (hn : f p = none) (hf : g.fr = upd f p o)
    (st : ∀ g' v d, rel g' v d → rel { g' with fr := f } v d) (h : GoR T rel W { g with fr := f } σ r k) : GoR T rel W g σ r (fun g' H' v d S => k { g' with fr := f } H' v d S) := by
  cases r with
  | ok d S => exact fun g' H' v l s q => h { g' with fr := f } H' v ⟨l.ρ, l.Hf, rfl⟩ (s.unpin (l.fr.trans hf) hn) (st _ _ _ q)
  | ex c S => exact fun g' H' l s => h { g' with fr := f } H' ⟨l.ρ, l.Hf, rfl⟩ (s.unpin (l.fr.trans hf) hn)
  | no => exact h
theorem R.bind_ok {α β : Type} (a : α) (S : Sto) (f : α → Sto → R β) : (R.ok a S).bind f = f a S := rfl
theorem orNo_bind {α β γ : Type} (o : Option γ) (f : γ → R α) (k : α → Sto → R β) : (orNo o f).bind k = orNo o fun a => (f a).bind k := by cases o <;> rfl
theorem ite_bind {α β : Type} (t : Prop) [Decidable t] (a b : R α) (k : α → Sto → R β) : (if t then a else b).bind k = if t then a.bind k else b.bind k := by split <;> rfl
/-- a target told by its slots -/
def tTgO (T : Tb) (wk : Bool) (tg : Tg) (own : List Nat) : TG := fun v σ H Q => ∃ g S e d, T.Sim g S H ∧ T.EnvR g σ e ∧ RDk T wk g v d ∧ GoR T (fun g σ' e' => T.EnvR g σ' e' ∧ L2.wipe σ' own = L2.wipe σ own) (fun _ _ _ _ => True) g σ (evset e tg d S) fun _ H' σ' _ _ => Q σ' H'
def Tg.slots : Tg → List Nat
  | .one i => [i]
  | .many is => is
theorem wipe_get {σ : LSt} : ∀ {vs : List Nat} {i : Nat}, (L2.wipe σ vs)[i]? = if i < σ.length then (if i ∈ vs then some none else σ[i]?) else none
  | [], i => by
    simp only [L2.wipe, List.not_mem_nil, if_false]
    split
    · rfl
    · rename_i h; exact List.getElem?_eq_none (by omega)
  | v :: vs, i => by
    simp only [L2.wipe]
    by_cases hv : v = i
    · subst hv
      by_cases hl : v < σ.length
      · rw [List.getElem?_set_self (by rw [wipe_length]; exact hl), if_pos hl, if_pos (by simp)]
      · rw [List.getElem?_eq_none (by rw [List.length_set, wipe_length]; omega), if_neg hl]
    · rw [List.getElem?_set_ne hv, wipe_get]
      have hm : (i ∈ v :: vs) = (i ∈ vs) := by simp [Ne.symm hv]
      simp only [hm]
theorem wipe_set {σ : LSt} {own : List Nat} {i : Nat} (h : i ∈ own) (v : Option V) : L2.wipe (σ.set i v) own = L2.wipe σ own := by
  apply List.ext_getElem?
  intro j
  rw [wipe_get, wipe_get, List.length_set]
  by_cases hj : i = j
  · subst hj; simp [h]
  · rw [List.getElem?_set_ne hj]
theorem wipe_slots : ∀ {is : List Nat} {vs : List V} {σ : LSt} {own : List Nat}, (∀ i ∈ is, i ∈ own) → L2.wipe (slots is vs σ) own = L2.wipe σ own
  | [], _, _, _, _ => rfl
  | _ :: _, [], _, _, _ => rfl
  | i :: is, v :: vs, σ, own, h => by
    simp only [slots]
    rw [wipe_slots fun j hj => h j (List.mem_cons_of_mem _ hj), wipe_set (h i (by simp))]
theorem go_one {i : Nat} {x : Str} {pos : Pos} {own : List Nat} (hN : X.N.Nodup) (hi : X.N[i]? = some x) (hx : Loc X.env.scope x) (hf : X.fn x = true ∨ X.env.scope.names.lookup x = some .local) (ho : i ∈ own) : PG X (.Name x pos) (tTgO T false (.one i) own) := by
  refine ⟨fun pins s σ H v u Q I r h => (pg_name hN hi hx hf).run pins s σ H v u Q I r ?_⟩
  obtain ⟨g, S, e, d, sm, en, rd, q⟩ := h
  have rd := RDk.plain rd
  exact GoR.now (d := e.set i (some d)) q sm ⟨env_set i en rd, wipe_set ho _⟩
theorem go_many {wk : Bool} (hK : X.K = T.K) (hc : X.calm = true) (hN : X.N.Nodup) {es : List Expr} {is : List Nat} {k : Nat} {pos : Pos} {own : List Nat} (h : Nms X es is) (ho : ∀ i ∈ is, i ∈ own) : PG X (.Tuple es k pos) (tTgO T wk (.many is) own) := by
  obtain ⟨n1, n2⟩ := nms_each h
  have pg := pg_tup (k := k) (pos := pos) hc (pgs_nms hN h) n1 n2
  rw [hK] at pg
  refine ⟨fun pins s σ H v u Q I r hq => pg.run pins s σ H v u Q I r ?_⟩
  obtain ⟨g, S, e, d, sm, en, rd, q⟩ := hq
  cases d with
  | tup ds =>
    obtain ⟨a, xs, rfl, qx, rx⟩ := rd.parts
    simp only [evset] at q
    obtain ⟨hl, q2⟩ := ite_ok q
    have hl' : ds.length = is.length := by simpa using hl
    have hx : xs.length = is.length := by rw [rx.length]; exact hl'
    exact ⟨a, xs, rfl, sqT_mono sm.sub qx, hx, hx, q2.now sm ⟨env_many hx.symm rx en, wipe_slots ho⟩⟩
  | _ => exact q.elim
theorem evset_or (e : Ev) (tg : Tg) (d : D) (S : Sto) : (∃ e', evset e tg d S = .ok e' S) ∨ evset e tg d S = .no := by
  cases tg with
  | one i => exact .inl ⟨_, rfl⟩
  | many is =>
    simp only [evset]
    split
    · split
      · exact .inl ⟨_, rfl⟩
      · exact .inr rfl
    · exact .inr rfl
theorem env_unset {g : Gh} {σ : LSt} {e : Ev} (i : Nat) (h : T.EnvR g σ e) : T.EnvR g (σ.set i none) (e.set i none) := by
  refine ⟨by simp [h.len], fun j d' hj => ?_⟩
  by_cases hij : i = j
  · subst hij
    by_cases hl : i < e.length
    · rw [List.getElem?_set_self hl] at hj; cases hj
    · rw [List.getElem?_eq_none (by simpa using hl)] at hj; cases hj
  · rw [List.getElem?_set_ne hij] at hj ⊢
    exact h.at_ j d' hj
theorem env_wipe {g : Gh} {σ : LSt} {e : Ev} (h : T.EnvR g σ e) : ∀ own : List Nat, T.EnvR g (L2.wipe σ own) (wipe e own)
  | [] => h
  | v :: vs => by simp only [L2.wipe, wipe]; exact env_unset v (env_wipe h vs)
theorem Tb.EnvR.monoS {g g' : Gh} {σ : LSt} {e : Ev} (h : T.EnvR g σ e) (l : g.sub g') : T.EnvR g' σ e :=
  ⟨h.len, fun i d z => let ⟨v, a, b⟩ := h.at_ i d z; ⟨v, a, RD.monoS T.K l b⟩⟩

/-- a test's run -/
def tstf (C : Cal) (cs : List E) (e : Ev) (S : Sto) : R Bool := (evAnd C cs e S).bind fun b S => orNo (truth S b) fun t => .ok t S
/-- one turn of a comprehension -/
def turnf (C : Cal) (elt : E) (tg : Tg) (cs : List E) (e : Ev) (d : D) (S : Sto) : R (List D) := (evset e tg d S).bind fun e S => (tstf C cs e S).bind fun t S => if t = true then (ev C elt e S).bind fun x S => .ok [x] S else .ok [] S
theorem turn_eq (C : Cal) (elt : E) (tg : Tg) (cs : List E) (e : Ev) : (fun (d : D) (S : Sto) => (evset e tg d S).bind fun e S => (evAnd C cs e S).bind fun b S => orNo (truth S b) fun t => if t = true then (ev C elt e S).bind fun x S => R.ok [x] S else .ok [] S) = turnf C elt tg cs e := by
  funext d S
  simp only [turnf, tstf, R.bind_assoc, orNo_bind]
  rfl
def finf (m : Bool) (dacc b : List D) (S : Sto) : R D := if fits (dacc ++ b).length = true then mkL m (dacc ++ b) S else .no
/-- how far it is -/
structure CI (T : Tb) (W : WX) (g1 : Gh) (A : Addr) (m : Bool) (σ : LSt) (Q : VK) (gi : Gh) (Si : Sto) (acc : List V) (dacc : List D) (H : Hp) (r : R (List D)) : Prop where
  sub : Gh.sub g1 gi
  fr : gi.fr = upd g1.fr A (.lst acc)
  sim : T.Sim gi Si H
  rds : T.RDs gi acc dacc
  go : GoR T T.RD W { gi with fr := g1.fr } σ (r.bind fun b S => finf m dacc b S) fun _ H' v _ _ => Q v H'
theorem comp_step {g1 : Gh} {A : Addr} {m : Bool} {σ : LSt} {Q : VK} {gi : Gh} {Si : Sto} {acc : List V} {dacc : List D} {H : Hp} {elt : E} {tg : Tg} {cs : List E} {e : Ev} {own : List Nat} {d : D} {rest : Sto → R (List D)} (hn : g1.fr A = none) (en : T.EnvR g1 σ e)
    (ci : CI T W g1 A m σ Q gi Si acc dacc H ((turnf C elt tg cs (wipe e own) d Si).bind fun a S => (rest S).bind fun b S => .ok (a ++ b) S)) (hz : acc.length < sizeLine) {g3 : Gh} {H' : Hp} {x : V} (l3 : gi.le g3) (s3 : T.Sim g3 Si H') {wk : Bool} (r3 : RDk T wk g3 x d) {Nx : Hp → Prop}
    (hNx : ∀ gi Si acc' dacc' H, acc'.length ≤ acc.length + 1 → CI T W g1 A m σ Q gi Si acc' dacc' H (rest Si) → Nx H) :
    tTgO T wk tg own x (L2.wipe σ own) H' fun σ2 H2 => L2.wipe σ2 own = L2.wipe σ own ∧ tIT T (fun c d _ H => W c d σ H) (tstf C cs) σ2 H2 fun b H3 =>
      if b = true then tI T (fun c d _ H => W c d σ H) (ev C elt) σ2 H3 fun y H4 => ∃ acc, H4 A = some (.lst acc) ∧ acc.length < sizeLine ∧ Nx (upd H4 A (.lst (acc ++ [y]))) else Nx H3 := by
  have q := ci.go
  rcases evset_or (wipe e own) tg d Si with ⟨e', he⟩ | he
  · rw [R.bind_assoc] at q
    simp only [turnf, he, R.bind_ok] at q
    refine ⟨g3, Si, wipe e own, d, s3, env_wipe ((en.monoS ci.sub).mono l3) own, r3, ?_⟩
    rw [he]
    intro g4 H4 σ4 l4 s4 en4
    have ww : L2.wipe (L2.wipe σ own) own = L2.wipe σ own := by
      apply List.ext_getElem?
      intro j
      rw [wipe_get, wipe_get, wipe_length]
      by_cases hj : j ∈ own
      · simp [hj]
      · simp only [hj, if_false]
        split
        · rfl
        · rfl
    refine ⟨en4.2.trans ww, g4, Si, e', s4, en4.1, ?_⟩
    have l14 : gi.le g4 := l3.trans l4
    have f4 : g4.fr = upd g1.fr A (.lst acc) := l14.fr.trans ci.fr
    have q4 : GoR T T.RD (fun c d _ H => W c d σ H) { g4 with fr := g1.fr } σ4 (((tstf C cs e' Si).bind fun t S => if t = true then (ev C elt e' S).bind fun x S => R.ok [x] S else .ok [] S).bind fun a S => ((rest S).bind fun b S => R.ok (a ++ b) S).bind fun b S => finf m dacc b S) fun _ H' v _ _ => Q v H' := by
      have q' := GoR.mono q (g1 := { g4 with fr := g1.fr }) ⟨l14.ρ, l14.Hf, rfl⟩
      revert q'
      generalize (((tstf C cs e' Si).bind fun t S => if t = true then (ev C elt e' S).bind fun x S => R.ok [x] S else .ok [] S).bind fun a S => ((rest S).bind fun b S => R.ok (a ++ b) S).bind fun b S => finf m dacc b S) = rr
      intro q'
      cases rr <;> exact q'
    rw [R.bind_assoc] at q4
    have q5 := GoR.pin hn f4 (rel := fun _ (b : Bool) d => b = d) (fun _ _ _ h => h) (GoR.bind q4)
    refine q5.imp fun g5 H5 b b' S5 l5 s5 eb _ q6 => ?_
    have eb : b = b' := eb
    subst eb
    have f5 : g5.fr = upd g1.fr A (.lst acc) := l5.fr.trans f4
    have l15 : gi.le g5 := l14.trans l5
    have back : ∀ {g : Gh} {r : R D}, GoR T T.RD (fun c d _ H => W c d σ H) g σ4 r (fun _ H' v _ _ => Q v H') → GoR T T.RD W g σ r (fun _ H' v _ _ => Q v H') := fun {g r} h => by cases r <;> exact h
    cases b with
    | false =>
      simp only [Bool.false_eq_true, if_false, R.bind_ok] at q6 ⊢
      refine hNx g5 S5 acc dacc H5 (Nat.le_succ _) ⟨ci.sub.trans l15.to, f5, s5, RDs.mono T.K l15 ci.rds, ?_⟩
      rw [R.bind_assoc] at q6
      exact back q6
    | true =>
      simp only [if_true, R.bind_assoc] at q6 ⊢
      refine ⟨g5, S5, e', s5, en4.1.mono l5, ?_⟩
      have q7 := GoR.pin hn f5 (rel := T.RD) (fun g' _ _ h => RD.monoS T.K (sub_fr g' _) h) (GoR.bind q6)
      refine q7.imp fun g6 H6 y dy S6 l6 s6 ry _ q8 => ?_
      have f6 : g6.fr = upd g1.fr A (.lst acc) := l6.fr.trans f5
      have l16 : gi.le g6 := l15.trans l6
      refine ⟨acc, (s6.frs A _ (by rw [f6]; exact upd_same)).1, hz, ?_⟩
      have sb : Gh.sub g6 { g6 with fr := upd g1.fr A (.lst (acc ++ [y])) } := sub_fr g6 _
      refine hNx { g6 with fr := upd g1.fr A (.lst (acc ++ [y])) } S6 (acc ++ [y]) (dacc ++ [dy]) _ (by simp) ⟨(ci.sub.trans l16.to).trans sb, rfl, s6.repin f6, ?_, ?_⟩
      · exact RDs.append (RDs.monoS T.K sb (RDs.mono T.K l16 ci.rds)) (.cons (RD.monoS T.K sb ry) .nil)
      · have q9 := back q8
        simp only [R.bind_ok, R.bind_assoc] at q9
        have e9 : (rest S6).bind (fun b S => finf m (dacc ++ [dy]) b S) = (rest S6).bind fun b S => finf m dacc ([dy] ++ b) S := by
          simp only [finf, List.append_assoc]
        rw [e9]
        exact q9
  · simp only [turnf, he, CT.R.bind] at q
    exact q.elim
theorem comp_end {g1 : Gh} {A : Addr} {m : Bool} {σ : LSt} {Q : VK} {gi : Gh} {Si : Sto} {acc : List V} {dacc : List D} {H : Hp} (hn : g1.fr A = none) (ci : CI T W g1 A m σ Q gi Si acc dacc H (.ok [] Si)) : Q (.ref A) H := by
  have q := ci.go
  simp only [R.bind_ok, finf, List.append_nil] at q
  obtain ⟨hf, q2⟩ := ite_ok q
  have hl : acc.length ≤ sizeLine := by rw [ci.rds.length]; exact fits_le hf
  cases m with
  | false =>
    simp only [mkL, Bool.false_eq_true, if_false] at q2
    have s := ci.sim.unpinF ci.fr hn
    obtain ⟨_, p1, _⟩ := ci.sim.frs A _ (by rw [ci.fr]; exact upd_same)
    have sb : Gh.sub gi { gi with fr := g1.fr, Hf := upd gi.Hf A (.lst acc) } := ⟨⟨[], by simp⟩, fun a u e => by show upd gi.Hf A _ a = some u; rw [upd_ne (ne_of_none e p1)]; exact e⟩
    exact q2.to (g' := { gi with fr := g1.fr, Hf := upd gi.Hf A (.lst acc) }) ⟨⟨[], by simp⟩, sb.Hf, rfl⟩ s (RD.lst upd_same hl (RDs.monoS T.K sb ci.rds))
  | true =>
    simp only [mkL, if_true] at q2
    obtain ⟨s, e⟩ := ci.sim.unpinL ci.fr hn (ObR.lst (K := T.K) (cA := T.cA) (nh := T.nh) hl ci.rds)
    exact q2.to (g' := { gi with fr := g1.fr, ρ := gi.ρ ++ [A] }) ⟨⟨[A], rfl⟩, fun _ _ e => e, rfl⟩ s (RD.loc e)
theorem comp_ok {wk : Bool} {m : Bool} {elt : E} {tg : Tg} {ik : IK} {its cs : List E} {own : List Nat} {σ : LSt} {H : Hp} {Q : VK} (h : tI T W (ev C (.comp m elt tg ik its cs own)) σ H Q) :
    tLc (tW T W wk (wkf C ik its)) (tTgO T wk tg own) (tIT T (fun c d _ H => W c d σ H) (tstf C cs)) (tI T (fun c d _ H => W c d σ H) (ev C elt)) own σ H Q := by
  obtain ⟨g, S, e, sm, en, q⟩ := h
  simp only [ev, turn_eq] at q
  rw [← R.bind_assoc] at q
  refine ⟨g, S, e, sm, en, (GoR.bind q).imp fun g1 H1 J w S1 l1 s1 wk _ q1 => ?_⟩
  intro A hA
  have hn : g1.fr A = none := (s1.nowhere hA).2.1
  have en1 := en.mono l1
  have st : ∀ r, GoR T T.RD W g1 σ (r.bind fun b S => finf m [] b S) (fun _ H' v _ _ => Q v H') → CI T W g1 A m σ Q { g1 with fr := upd g1.fr A (.lst []) } S1 [] [] (upd H1 A (.lst [])) r :=
    fun r q => ⟨sub_fr g1 _, rfl, s1.pin hA, .nil, q⟩
  cases w with
  | row ds =>
    obtain ⟨hl, wk⟩ := wk
    refine ⟨fun i k H => k = ds.length - i ∧ i ≤ ds.length ∧ ∃ gi Si acc dacc, acc.length ≤ i ∧ CI T W g1 A m σ Q gi Si acc dacc H (compRow (turnf C elt tg cs (wipe e own)) (ds.drop i) Si), ⟨ds.length, rfl, Nat.zero_le _, _, S1, [], [], Nat.le_refl _, st _ q1⟩, ?_⟩
    rintro i k H ⟨rfl, hi, gi, Si, acc, dacc, ha, ci⟩
    obtain ⟨w1, w2, w3⟩ := wk gi Si H ci.sub ci.sim
    by_cases hlt : i < ds.length
    · refine .inr ⟨w1 i hlt, fun H => ∃ gi Si acc dacc, acc.length ≤ i + 1 ∧ CI T W g1 A m σ Q gi Si acc dacc H (compRow (turnf C elt tg cs (wipe e own)) (ds.drop (i + 1)) Si), fun H' p => ⟨ds.length - (i + 1), by omega, rfl, hlt, p⟩, fun x H' y => ?_⟩
      rw [List.drop_eq_getElem_cons hlt] at ci
      simp only [compRow] at ci
      obtain ⟨g3, l3, s3, r3⟩ := w3 i x H' ds[i] (by simp [hlt]) y
      exact comp_step (rest := fun S => compRow (turnf C elt tg cs (wipe e own)) (ds.drop (i + 1)) S) hn en1 ci (by omega) l3 s3 r3 fun gi Si acc' dacc' H h1 h2 => ⟨gi, Si, acc', dacc', by omega, h2⟩
    · have ei : i = ds.length := by omega
      subst ei
      refine .inl ⟨w2, ?_⟩
      rw [List.drop_length] at ci
      exact comp_end hn ci
  | loc n =>
    refine ⟨fun i k H => ∃ gi Si acc dacc, acc.length ≤ i ∧ CI T W g1 A m σ Q gi Si acc dacc H (compLoc (turnf C elt tg cs (wipe e own)) n k i Si), ⟨C.wf, _, S1, [], [], Nat.le_refl _, st _ q1⟩, ?_⟩
    rintro i k H ⟨gi, Si, acc, dacc, ha, ci⟩
    cases k with
    | zero => exact (ci.go).elim
    | succ k =>
      simp only [compLoc] at ci
      cases hS : Si[n]? with
      | none => rw [hS] at ci; exact (ci.go).elim
      | some o =>
        rw [hS] at ci
        cases o with
        | lst ds =>
          obtain ⟨w0, w1, w2, w3⟩ := wk gi Si H ds ci.sub ci.sim hS
          cases hd : ds[i]? with
          | none =>
            simp only [hd] at ci
            refine .inl ⟨w2 i ?_, comp_end hn ci⟩
            exact List.getElem?_eq_none_iff.mp hd
          | some d =>
            simp only [hd] at ci
            have hlt : i < ds.length := (List.getElem?_eq_some_iff.mp hd).1
            refine .inr ⟨w1 i hlt, fun H => ∃ gi Si acc dacc, acc.length ≤ i + 1 ∧ CI T W g1 A m σ Q gi Si acc dacc H (compLoc (turnf C elt tg cs (wipe e own)) n k (i + 1) Si), fun H' p => ⟨k, Nat.lt_succ_self _, p⟩, fun x H' y => ?_⟩
            obtain ⟨e3, r3⟩ := w3 i x H' d hd y
            subst e3
            exact comp_step (rest := fun S => compLoc (turnf C elt tg cs (wipe e own)) n k (i + 1) S) hn en1 ci (by omega) (.refl _) ci.sim (.inl r3) fun gi Si acc' dacc' H h1 h2 => ⟨gi, Si, acc', dacc', by omega, h2⟩
        | _ => exact (ci.go).elim
end
end CT

end
section
set_option maxHeartbeats 4000000
/-! callturn proofs, part p: tests; the value of a comprehension -/
namespace CT
open PySem PySem.Spec PyProof.Rows L2
/-- a test -/
def tst (C : Cal) (a : E) (e : Ev) (S : Sto) : R Bool := (ev C a e S).bind fun b S => orNo (truth S b) fun t => .ok t S
/-- any of some -/
def tsto (C : Cal) (cs : List E) (e : Ev) (S : Sto) : R Bool := (evOr C cs e S).bind fun b S => orNo (truth S b) fun t => .ok t S
section
variable {T : Tb} {W : WX} {X : Cx} {C : Cal}
theorem t_truth (hK : X.K = T.K) {a : E} {x : Expr} (ha : PE X x (tI T W (ev C a))) (he : ∀ whole, isTrue x X.env whole = (do let v ← whole; standAt x.pos; holding [v] (truthy v))) : PT X x (tIT T W (tst C a)) := by
  refine PT.imp (pt_truth ha he) fun σ H Q ⟨g, S, e, s, r, q⟩ => ?_
  simp only [tst] at q
  refine ⟨g, S, e, s, r, (GoR.bind q).imp fun g1 H1 v d S1 l1 s1 rd _ q1 => ?_⟩
  obtain ⟨b, h1, h3⟩ := orNo_ok q1
  exact ⟨b, by rw [hK]; exact truth_ok s1 rd h1, h3.now s1 rfl⟩
theorem t_not {a : E} {x : Expr} {pos : Pos} (ha : PT X x (tIT T W (tst C a))) : PT X (.UnaryOp .Not x pos) (tIT T W (tst C (.not a))) := by
  refine PT.imp (pt_not ha) fun σ H Q ⟨g, S, e, s, r, q⟩ => ?_
  have e1 : tst C (.not a) e S = (tst C a e S).bind fun t S => .ok (!t) S := by
    simp only [tst, ev, R.bind_assoc, orNo_bind]
    rfl
  rw [e1] at q
  refine ⟨g, S, e, s, r, (GoR.bind q).imp fun g1 H1 v d S1 l1 s1 rd _ q1 => ?_⟩
  have rd : v = d := rd
  subst rd
  exact GoR.now q1 s1 rfl
theorem cmpop_bl {o : COp} {x y : D} {S S' : Sto} {d : D} (h : cmpop o x y S = .ok d S') : ∃ b, d = .bl b := by
  have key : ∀ {c : Bool} {b : Bool}, (if c = true then R.ok (D.bl b) S else .no) = .ok d S' → ∃ b, d = .bl b := fun {c b} h => by
    cases c with
    | true => simp only [if_true, R.ok.injEq] at h; exact ⟨_, h.1.symm⟩
    | false => simp at h
  cases o with
  | eq => simp only [cmpop] at h; exact key h
  | ne => simp only [cmpop] at h; exact key h
  | isin =>
    simp only [cmpop] at h
    split at h
    · cases h; exact ⟨_, rfl⟩
    · split at h
      · split at h
        · cases h; exact ⟨_, rfl⟩
        · cases h
      · split at h
        · exact key h
        · cases h
  | nin =>
    simp only [cmpop] at h
    split at h
    · cases h; exact ⟨_, rfl⟩
    · split at h
      · split at h
        · cases h; exact ⟨_, rfl⟩
        · cases h
      · split at h
        · exact key h
        · cases h
  | _ =>
    simp only [cmpop] at h
    split at h
    all_goals first
      | cases h; exact ⟨_, rfl⟩
      | cases h
theorem t_cmp {o : COp} {a b : E} {x y : Expr} {op : CmpOp} {pos : Pos} (ho : OpR X (compareOp op) (rTwo T W (cmpop o))) (ha : PE X x (tI T W (ev C a))) (hb : PE X y (tI T W (ev C b))) (hm : behindInMarks op y = false) : PT X (.Compare x [op] [y] pos) (tIT T W (tst C (.cmp o a b))) := by
  refine PT.imp (pt_cmpR ho ha hb hm) fun σ H Q ⟨g, S, e, s, r, q⟩ => ?_
  simp only [tst, ev, R.bind_assoc] at q
  refine ⟨g, S, e, s, r, (GoR.bind q).imp fun g1 H1 v d S1 l1 s1 rd1 _ q1 => ?_⟩
  refine ⟨g1, S1, e, s1, r.mono l1, (GoR.bind q1).imp fun g2 H2 u d2 S2 l2 s2 rd2 _ q2 => ?_⟩
  refine ⟨g2, S2, d, d2, σ, s2, RD.mono T.K l2 rd1, rd2, (GoR.bind q2).imp fun g3 H3 v3 d3 S3 l3 s3 rd3 e3 q3 => ?_⟩
  obtain ⟨t, rfl⟩ := cmpop_bl e3
  cases rd3
  exact ⟨t, rfl, GoR.now q3 s3 rfl⟩
theorem t_chain {o o' : COp} {a b c : E} {x y z : Expr} {op op' : CmpOp} {pos : Pos} (ho : OpR X (compareOp op) (rTwo T W (cmpop o))) (ho' : OpR X (compareOp op') (rTwo T W (cmpop o')))
    (ha : PE X x (tI T W (ev C a))) (hb : PE X y (tI T W (ev C b))) (hc : PE X z (tI T W (ev C c))) (h1 : lastMarks [op, op'] [y, z] = false) : PT X (.Compare x [op, op'] [y, z] pos) (tIT T W (tst C (.chain o o' a b c))) := by
  refine PT.imp (pt_chain ho ho' ha hb hc h1) fun σ H Q ⟨g, S, e, s, r, q⟩ => ?_
  simp only [tst, ev, R.bind_assoc] at q
  refine ⟨g, S, e, s, r, (GoR.bind q).imp fun g1 H1 v d S1 l1 s1 rd _ q1 => ?_⟩
  refine ⟨g1, S1, e, s1, r.mono l1, (GoR.bind q1).imp fun g2 H2 v2 d2 S2 l2 s2 rd2 _ q2 => ?_⟩
  refine ⟨g2, S2, d, d2, σ, s2, RD.mono T.K l2 rd, rd2, (GoR.bind q2).imp fun g3 H3 v3 d3 S3 l3 s3 rd3 e3 q3 => ?_⟩
  obtain ⟨t, rfl⟩ := cmpop_bl e3
  cases rd3
  refine ⟨t, rfl, ?_⟩
  rw [orNo_bind] at q3
  obtain ⟨t', et, q3⟩ := orNo_ok q3
  simp only [D.bl?, Option.some.injEq] at et
  subst et
  rw [ite_bind] at q3
  cases t with
  | false =>
    simp only [Bool.false_eq_true, if_false] at q3 ⊢
    exact ⟨false, rfl, GoR.now q3 s3 rfl⟩
  | true =>
    simp only [if_true, R.bind_assoc] at q3 ⊢
    refine ⟨g3, S3, e, s3, (r.mono l1).mono (l2.trans l3), (GoR.bind q3).imp fun g4 H4 v4 d4 S4 l4 s4 rd4 _ q4 => ?_⟩
    refine ⟨g4, S4, d2, d4, σ, s4, RD.mono T.K (l3.trans l4) rd2, rd4, (GoR.bind q4).imp fun g5 H5 v5 d5 S5 l5 s5 rd5 e5 q5 => ?_⟩
    obtain ⟨t2, rfl⟩ := cmpop_bl e5
    cases rd5
    exact ⟨t2, rfl, GoR.now q5 s5 rfl⟩
theorem tstf_one (a : E) : tstf C [a] = tst C a := by funext e S; simp only [tstf, tst, evAnd]
theorem tsto_one (a : E) : tsto C [a] = tst C a := by funext e S; simp only [tsto, tst, evOr]
theorem tst_ands (es : List E) : tst C (.and es) = tstf C es := by funext e S; simp only [tstf, tst, ev]
theorem tst_ors (es : List E) : tst C (.or es) = tsto C es := by funext e S; simp only [tsto, tst, ev]
theorem t_and1 {a : E} {x : Expr} {pos : Pos} (ha : PT X x (tIT T W (tst C a))) : PW X (.BoolOp .And [x] pos) (tIT T W (tstf C [a])) := by
  refine ⟨fun wh pins s σ H Q I h => (pw_and1 ha).run wh pins s σ H Q I ?_⟩
  rw [← tstf_one]; exact h
theorem t_or1 {a : E} {x : Expr} {pos : Pos} (ha : PT X x (tIT T W (tst C a))) : PW X (.BoolOp .Or [x] pos) (tIT T W (tsto C [a])) := by
  refine ⟨fun wh pins s σ H Q I h => (pw_or1 ha).run wh pins s σ H Q I ?_⟩
  rw [← tsto_one]; exact h
theorem t_and {a b : E} {rs : List E} {x y : Expr} {xs : List Expr} {pos : Pos} (ha : PT X x (tIT T W (tst C a))) (hb : PW X (.BoolOp .And (y :: xs) pos) (tIT T W (tstf C (b :: rs)))) : PW X (.BoolOp .And (x :: y :: xs) pos) (tIT T W (tstf C (a :: b :: rs))) := by
  refine ⟨fun wh pins s σ H Q I h => (pw_and ha hb).run wh pins s σ H Q I ?_⟩
  obtain ⟨g, S, e, sm, r, q⟩ := h
  have e1 : tstf C (a :: b :: rs) e S = (tst C a e S).bind fun t S => if t = true then tstf C (b :: rs) e S else .ok false S := by
    simp only [tstf, tst, evAnd, R.bind_assoc, orNo_bind, ite_bind, R.bind_ok]
    congr 1
    funext v S'
    cases hv : truth S' v with
    | none => rfl
    | some t => cases t <;> simp [orNo, hv]
  rw [e1] at q
  refine ⟨g, S, e, sm, r, (GoR.bind q).imp fun g1 H1 v d S1 l1 s1 rd _ q1 => ?_⟩
  have rd : v = d := rd
  subst rd
  cases v with
  | true => simp only [if_true] at q1 ⊢; exact ⟨g1, S1, e, s1, r.mono l1, q1⟩
  | false => simp only [Bool.false_eq_true, if_false] at q1 ⊢; exact GoR.now q1 s1 rfl
theorem t_or {a b : E} {rs : List E} {x y : Expr} {xs : List Expr} {pos : Pos} (ha : PT X x (tIT T W (tst C a))) (hb : PW X (.BoolOp .Or (y :: xs) pos) (tIT T W (tsto C (b :: rs)))) : PW X (.BoolOp .Or (x :: y :: xs) pos) (tIT T W (tsto C (a :: b :: rs))) := by
  refine ⟨fun wh pins s σ H Q I h => (pw_or ha hb).run wh pins s σ H Q I ?_⟩
  obtain ⟨g, S, e, sm, r, q⟩ := h
  have e1 : tsto C (a :: b :: rs) e S = (tst C a e S).bind fun t S => if t = true then .ok true S else tsto C (b :: rs) e S := by
    simp only [tsto, tst, evOr, R.bind_assoc, orNo_bind, ite_bind, R.bind_ok]
    congr 1
    funext v S'
    cases hv : truth S' v with
    | none => rfl
    | some t => cases t <;> simp [orNo, hv]
  rw [e1] at q
  refine ⟨g, S, e, sm, r, (GoR.bind q).imp fun g1 H1 v d S1 l1 s1 rd _ q1 => ?_⟩
  have rd : v = d := rd
  subst rd
  cases v with
  | false => simp only [Bool.false_eq_true, if_false] at q1 ⊢; exact ⟨g1, S1, e, s1, r.mono l1, q1⟩
  | true => simp only [if_true] at q1 ⊢; exact GoR.now q1 s1 rfl
theorem t_ands {es : List E} {x : Expr} (h : PW X x (tIT T W (tstf C es))) : PT X x (tIT T W (tst C (.and es))) := by
  refine PT.imp h.pt fun σ H Q h => ?_
  rw [← tst_ands]; exact h
theorem t_ors {es : List E} {x : Expr} (h : PW X x (tIT T W (tsto C es))) : PT X x (tIT T W (tst C (.or es))) := by
  refine PT.imp h.pt fun σ H Q h => ?_
  rw [← tst_ors]; exact h
/-- the tests of a clause -/
theorem q_nil : PTs X [] (tIT T W (tstf C [])) := by
  refine ⟨fun pins s σ H Q I ⟨g, S, e, sm, r, q⟩ => pts_nil.run pins s σ H Q I ?_⟩
  simp only [tstf, evAnd, R.bind_ok, truth, orNo] at q
  exact GoR.now q sm rfl
theorem q_one {a : E} {x : Expr} (ha : PT X x (tIT T W (tst C a))) : PTs X [x] (tIT T W (tstf C [a])) := by
  refine ⟨fun pins s σ H Q I h => (pts_one ha).run pins s σ H Q I ?_⟩
  rw [← tstf_one]; exact h
/-- a if c else b -/
theorem s_ite {c a b : E} {x y z : Expr} {pos : Pos} (hc : PT X x (tIT T W (tst C c))) (ha : PE X y (tI T W (ev C a))) (hb : PE X z (tI T W (ev C b))) : PE X (.IfExp x y z pos) (tI T W (ev C (.ite c a b))) := by
  refine PE.imp (pe_ifExp hc ha hb) fun σ H Q ⟨g, S, e, s, r, q⟩ => ?_
  have e1 : ev C (.ite c a b) e S = (tst C c e S).bind fun t S => if t = true then ev C a e S else ev C b e S := by
    simp only [tst, ev, R.bind_assoc, orNo_bind, R.bind_ok]
  rw [e1] at q
  refine ⟨g, S, e, s, r, (GoR.bind q).imp fun g1 H1 v d S1 l1 s1 rd _ q1 => ?_⟩
  have rd : v = d := rd
  subst rd
  cases v with
  | true => simp only [if_true] at q1 ⊢; exact ⟨g1, S1, e, s1, r.mono l1, q1⟩
  | false => simp only [Bool.false_eq_true, if_false] at q1 ⊢; exact ⟨g1, S1, e, s1, r.mono l1, q1⟩
/-- a comprehension's value -/
theorem s_comp {wk : Bool} {m : Bool} {el : E} {t : Tg} {ik : IK} {its cs : List E} {elt tg iter : Expr} {ifs : List Expr} {sc : Scope} {own : List (Str × Nat)} {pos : Pos} {F : Addr} {e0 : Env} {out : List Env}
    (hc : X.calm = true) (hN : X.N.Nodup) (hi : PI X tg iter (tW T W wk (wkf C ik its))) (ok : BlkOk X.N X.env.scope sc own) (tk : TakF X F W) (hst : X.stack = e0 :: out) (hf0 : e0.frame = some F) (hfr : X.env.frame = some F)
    (parts : ∀ (σ : LSt) (s : Shared) (H : Hp) (A : Addr) (cl : List (Str × Addr)) (fp : List Addr) (EB : Value → Shared → Prop), TakF ((X.blk s H sc (compEnvC sc cl A X.env) fp).wish EB) F (fun c d _ H => W c d σ H) →
      PG ((X.blk s H sc (compEnvC sc cl A X.env) fp).wish EB) tg (tTgO T wk t (own.map (·.2))) ∧ PTs ((X.blk s H sc (compEnvC sc cl A X.env) fp).wish EB) ifs (tIT T (fun c d _ H => W c d σ H) (tstf C cs)) ∧ PE ((X.blk s H sc (compEnvC sc cl A X.env) fp).wish EB) elt (tI T (fun c d _ H => W c d σ H) (ev C el)))
    (hs : ∀ x, foldedSetIterable iter X.env x = pure x) : PE X (.ListComp elt [⟨tg, iter, ifs, 0⟩] sc pos) (tI T W (ev C (.comp m el t ik its cs (own.map (·.2))))) := by
  refine ⟨fun pins s σ H Q I h => ?_⟩
  rw [eval_ListComp]
  refine comp_core hc hN I hi ok tk hst hf0 hfr (parts σ) hs (comp_ok h) fun D A s' m H' I' q hn f => ⟨m, hn, fun h'' sb => ?_⟩
  obtain ⟨f0, f1, f2, f3, f4, f5⟩ := f
  exact ⟨.ref D, H', I'.turned (t' := s'.toks) (fun b o hb e => (sb.2 b hb).trans e) f0 f1 f3 f4 f5, rfl, q⟩
end
end CT

end
section
set_option maxHeartbeats 4000000
/-! callturn proofs, part q: methods of lists and dicts, dict displays, what changes no more, rows turned round -/
namespace CT
open PySem PySem.Spec PyProof.Rows L2
section
variable {prog : Program} {w : World} {A : Around} {E₁ : Value → Shared → Prop} {s : Shared}
theorem slice_back (n : Nat) : Builtin.Slice.sliceAdjust none none (-1) (n : Int) = ((n : Int) - 1, -1) := by
  unfold Builtin.Slice.sliceAdjust
  simp
theorem places_back (n : Nat) : Builtin.Slice.slicePlaces ((n : Int) - 1) (-1) (-1) = n := by
  unfold Builtin.Slice.slicePlaces
  simp
  omega
theorem pick_back (xs : Array Value) : ((List.range xs.size).filterMap fun (m : Nat) => xs[(((xs.size : Int) - 1) + (m : Int) * (-1)).toNat]?).toArray = xs.toList.reverse.toArray := by
  congr 1
  apply List.ext_getElem?
  intro i
  have key : (List.range xs.size).filterMap (fun (m : Nat) => xs[(((xs.size : Int) - 1) + (m : Int) * (-1)).toNat]?) = (List.range xs.size).map fun m => xs.toList.reverse.getD m .none := by
    rw [← List.filterMap_eq_map]
    have cg : ∀ (l : List Nat) (f h : Nat → Option Value), (∀ m ∈ l, f m = h m) → l.filterMap f = l.filterMap h := fun l f h k => by
      induction l with
      | nil => rfl
      | cons a l ih => rw [List.filterMap_cons, List.filterMap_cons, k a (by simp), ih fun m hm => k m (by simp [hm])]
    refine cg _ _ _ fun m hm => ?_
    show _ = some (xs.toList.reverse.getD m .none)
    have hm' : m < xs.size := List.mem_range.mp hm
    have e : (((xs.size : Int) - 1) + (m : Int) * (-1)).toNat = xs.size - 1 - m := by omega
    rw [e, List.getD_eq_getElem?_getD, List.getElem?_reverse (by simpa using hm')]
    simp only [Array.length_toList, Array.getElem?_toList]
    have h2 : xs.size - 1 - m < xs.size := by omega
    rw [Array.getElem?_eq_getElem h2]; rfl
  rw [key, List.getElem?_map]
  by_cases hi : i < xs.size
  · rw [List.getElem?_range hi]
    have hl : i < xs.toList.reverse.length := by simpa using hi
    rw [List.getElem?_eq_getElem hl, Option.map_some, List.getD_eq_getElem?_getD, List.getElem?_eq_getElem hl]; rfl
  · rw [List.getElem?_eq_none (by simpa using hi), List.getElem?_eq_none (by simpa using hi)]; rfl
theorem getItem_back {t sl : Addr} {items : Array Value} {vl vu vs : Value} {Q : Value → Shared → Prop} (ht : IsTup s.heap t items) (hs : s.heap.IsSliceOf sl vl vu vs) (pl : IsPart vl none) (pu : IsPart vu none) (ps : IsPart vs (some (-1)))
    (hsz : items.size ≤ sizeLine) (h : Q (.ref s.heap.objs.size) { s with heap := s.heap.push { cls := .type "tuple", data := .seq items.toList.reverse.toArray } }) : wpAny (model prog w) A (getItem (.ref t) (.ref sl)) Q E₁ s := by
  obtain ⟨os, hos, hcs, hds⟩ := id hs
  have hTs : s.TypeIs (.ref sl) "slice" := ⟨os, hos, hcs⟩
  have hsk : sizeOk (.seq items.toList.reverse.toArray) := by
    show items.toList.reverse.toArray.size ≤ sizeLine
    rw [List.size_toArray, List.length_reverse, Array.length_toList]; exact hsz
  unfold getItem
  refine wpAny_holding ?_
  refine wpAny_bind (wpAny_sequenceKey ht.typeIs (by decide) ?_)
  refine wpAny_bind (wpAny_callSpecial?_slot (name := Str.ofString "__getitem__") ht.typeIs PyProof.Rows.slot_tuple_getitem (wpAny_call_entry PyProof.Rows.slot_tuple_getitem ht.typeIs entry_tuple_getitem ?_ (args_tuple_getitem _ _)))
  show wpAny _ _ (Builtin.Tuple.tupleItemsOf (.ref t) >>= _) _ _ s
  refine wpAny_bind (tupleItemsOf_ ht (wpAny_bind (wpAny_typeOf hTs ?_)))
  rw [if_pos (by decide)]
  have ap : ∀ {Q' : Int × Int × Nat → Shared → Prop} {A' : Around} {E' : Value → Shared → Prop}, Q' ((items.size : Int) - 1, -1, items.size) s → wpAny (model prog w) A' (Builtin.Slice.sliceApplied (.ref sl) (pure (items.size : Int))) Q' E' s := fun {Q' A' E'} k => by
    unfold Builtin.Slice.sliceApplied Builtin.Slice.sliceFields
    refine wpAny_bind (wpAny_bind (wpAny_field hos hds (x := vl) rfl (wpAny_bind (wpAny_field hos hds (x := vu) rfl (wpAny_bind (wpAny_field hos hds (x := vs) rfl (wpAny_pure ?_)))))))
    refine wpAny_bind (HT.slicePart_ ps ?_)
    show wpAny _ _ (if ((-1 : Int) == 0) = true then _ else _) _ _ s
    rw [if_neg (by decide)]
    refine wpAny_bind (HT.slicePart_ pl (wpAny_bind (HT.slicePart_ pu (wpAny_bind (wpAny_pure ?_)))))
    show wpAny _ _ (match Builtin.Slice.sliceAdjust none none (-1) (items.size : Int) with | (lo, hi) => pure (lo, (-1 : Int), Builtin.Slice.slicePlaces lo hi (-1))) _ _ s
    rw [slice_back]
    show wpAny _ _ (pure ((items.size : Int) - 1, (-1 : Int), Builtin.Slice.slicePlaces ((items.size : Int) - 1) (-1) (-1))) _ _ s
    rw [places_back]
    exact wpAny_pure k
  refine wpAny_bind (ap ?_)
  show wpAny _ _ (if (((items.size : Int) - 1) == 0 && (-1 : Int) == 1 && items.size == items.size) = true then _ else _) _ _ s
  rw [if_neg (by simp), pick_back]
  first
    | exact wpAny_bind (m := Builtin.Tuple.tupleExact _) (wpAny_newObj_type (wpAny_pure ⟨_, rfl, wpAny_pure h⟩) hsk)
    | exact wpAny_bind (m := Builtin.Tuple.tupleExact _) (wpAny_newObj_type (wpAny_bind (wpAny_pure (wpAny_pure ⟨_, rfl, wpAny_pure h⟩))) hsk)
    | exact wpAny_bind (wpAny_bind (m := Builtin.Tuple.tupleExact _) (wpAny_newObj_type (wpAny_pure (wpAny_pure ⟨_, rfl, wpAny_pure h⟩)) hsk))
    | exact wpAny_bind (wpAny_bind (m := Builtin.Tuple.tupleExact _) (wpAny_newObj_type (wpAny_pure ⟨_, rfl, wpAny_pure h⟩) hsk))
end
section
variable {X : Cx}
def tRevT (K : PySem.W.Frag) (te : TE) : TE := fun σ H Q => te σ H fun x H1 => ∃ a xs, x = .ref a ∧ SqT K H1 a xs ∧ NewT Q H1 xs.reverse
theorem pe_revT {e : Expr} {te : TE} {k : Nat} {p1 p2 p3 pos : Pos} (he : PE X e te) : PE X (.Subscript e (.Slice none none (some (.UnaryOp .USub (.Constant (.int 1) k p1) p2)) p3) pos) (tRevT X.K te) := by
  refine ⟨fun pins s σ H Q I h => Subscript_ (thn (he.run pins s σ H _ I h) fun v s1 ⟨x, H1, I1, r1, q1⟩ => ?_)⟩
  obtain ⟨a, xs, ex, hx, q⟩ := q1
  subst ex
  cases r1
  have hst : PO X (some (.UnaryOp .USub (.Constant (.int 1) k p1) p2)) (tPart (tUn (rU fun i => .int (-i)) (tC (.int 1)))) := po_some (pe_un un_neg pe_int)
  refine wpAny_Slice (thn (po_none.run pins s1 σ H1 (fun o H2 => o = none ∧ H2 = H1) I1 ⟨rfl, rfl⟩) fun vl s2 ⟨l, H2, I2, pl, el, e2⟩ => ?_)
  subst el; subst e2
  refine thn (po_none.run pins s2 σ H2 (fun o H3 => o = none ∧ H3 = H2) I2 ⟨rfl, rfl⟩) fun vu s3 ⟨u, H3, I3, pu, eu, e3⟩ => ?_
  subst eu; subst e3
  refine thn (hst.run pins s3 σ H3 (fun o H4 => o = some (-1) ∧ H4 = H3) I3 ⟨1, rfl, -1, rfl, rfl, rfl⟩) fun vs s4 ⟨o, H4, I4, ps, eo, e4⟩ => ?_
  subst eo; subst e4
  obtain ⟨s5, e5⟩ : ∃ s5 : Shared, s5 = { s4 with heap := s4.heap.push { cls := .type "slice", data := .fields #[vl, vu, vs] } } := ⟨_, rfl⟩
  have I5 : Inv X pins σ H4 s5 := by rw [e5]; exact I4.kept (t' := s4.toks) fun b ob z => Heap.get?_push_of_some _ z
  have sl5 : s5.heap.IsSliceOf s4.heap.objs.size vl vu vs := by rw [e5]; exact Heap.IsSliceOf.new _ vl vu vs
  obtain ⟨its, r, ht, hz⟩ := I5.tuple hx
  show wpAny (model X.prog X.w) X.A (subscriptTail e (.Slice none none (some (.UnaryOp .USub (.Constant (.int 1) k p1) p2)) p3) (.ref a) (.ref s4.heap.objs.size)) _ _ _
  rw [← e5]
  refine tail_any (ops := [.ref a, .ref s4.heap.objs.size]) ht.typeIs (PyProof.Rows.slot_tuple_getitem.lookup) ?_ (by with_unfolding_all rfl)
  refine getItem_back ht sl5 pl pu ps (by rw [List.size_toArray, ← r.length]; exact hz) ?_
  exact tnew I5 r.reverse (by rw [List.length_reverse]; exact hz) q s5.toks
end
section
variable {T : Tb} {W : WX} {X : Cx} {C : Cal}
theorem s_rev (hK : X.K = T.K) {a : E} {x : Expr} {k : Nat} {p1 p2 p3 pos : Pos} (ha : PE X x (tI T W (ev C a))) : PE X (.Subscript x (.Slice none none (some (.UnaryOp .USub (.Constant (.int 1) k p1) p2)) p3) pos) (tI T W (ev C (.rev a))) := by
  have rT := pe_revT (k := k) (p1 := p1) (p2 := p2) (p3 := p3) (pos := pos) ha
  have rL := pe_revL (k := k) (p1 := p1) (p2 := p2) (p3 := p3) (pos := pos) ha
  rw [hK] at rT rL
  refine ⟨fun pins s σ H Q I ⟨g, S, e, sm, r, q⟩ => ?_⟩
  simp only [ev] at q
  cases hv : ev C a e S with
  | no => rw [hv] at q; exact q.elim
  | ex c S1 =>
    rw [hv] at q
    exact rT.run pins s σ H Q I ⟨g, S, e, sm, r, by rw [hv]; exact q⟩
  | ok d S1 =>
    rw [hv, R.bind_ok] at q
    have lists : (∀ ds, d ≠ .tup ds) → GoR T T.RD W g σ (orNo (asM S1 d) fun ds => .ok (.lst ds.reverse) S1) (fun _ H' v _ _ => Q v H') → wpAny (model X.prog X.w) X.A (eval (.Subscript x (.Slice none none (some (.UnaryOp .USub (.Constant (.int 1) k p1) p2)) p3) pos) X.env) (EP X pins σ Q) X.xe s := fun _ q => by
      refine rL.run pins s σ H Q I ⟨g, S, e, sm, r, ?_⟩
      rw [hv]
      intro g' H' v l s' rd
      obtain ⟨ds, hd, q2⟩ := orNo_ok q
      obtain ⟨p, xs, rfl, hx, rs⟩ := asM_ok s' rd hd
      refine ⟨p, xs, rfl, SqL.of hx, ?_⟩
      have hl : xs.length ≤ sizeLine := by
        cases rd with
        | lst qx lx rx =>
          have e1 := s'.sub _ _ qx
          rw [hx] at e1; cases e1; exact lx
        | @loc a' n qx =>
          simp only [asM] at hd
          cases hS : S1[n]? with
          | none => rw [hS] at hd; cases hd
          | some o =>
            rw [hS] at hd
            cases o with
            | lst es =>
              obtain ⟨_, ho, y2, y3⟩ := s'.obj n _ _ qx hS (by simp)
              rw [hx] at y2; cases y2
              cases y3 with
              | lst lx _ => exact lx
            | _ => cases hd
        | _ => cases hd
      have q3 : GoR T T.RD W g' σ (mkL false ds.reverse S1) (fun _ H' v _ _ => Q v H') := by simpa only [mkL, Bool.false_eq_true, if_false] using q2.mono l
      exact mkL_ok s' (by rw [List.length_reverse]; exact hl) rs.reverse q3
    cases d with
    | tup ds =>
      refine rT.run pins s σ H Q I ⟨g, S, e, sm, r, ?_⟩
      rw [hv]
      intro g' H' v l s' rd
      cases rd with
      | tup qx lx rx => exact ⟨_, _, rfl, sqT_mono s'.sub qx.1, mkT_ok s' (by rw [List.length_reverse]; exact lx) rx.reverse (GoR.mono q l)⟩
    | _ => exact lists (by intro _ h; cases h) q
/-! ### methods -/
theorem lstAt_ok {g : Gh} {S : Sto} {H : Hp} {x : V} {d : D} {n : Nat} {ds : List D} (s : T.Sim g S H) (r : T.RD g x d) (h : lstAt S d = some (n, ds)) :
    ∃ a xs, d = .loc n ∧ x = .ref a ∧ g.ρ[n]? = some a ∧ S[n]? = some (.lst ds) ∧ H a = some (.lst xs) ∧ xs.length ≤ sizeLine ∧ T.RDs g xs ds := by
  cases r with
  | @loc a m q =>
    simp only [lstAt] at h
    cases hS : S[m]? with
    | none => rw [hS] at h; cases h
    | some o =>
      rw [hS] at h
      cases o with
      | lst es =>
        simp only [Option.some.injEq, Prod.mk.injEq] at h
        obtain ⟨rfl, rfl⟩ := h
        obtain ⟨_, ho, y2, y3⟩ := s.obj m _ _ q hS (by simp)
        cases y3 with
        | lst lx rs => exact ⟨a, _, rfl, rfl, q, hS, y2, lx, rs⟩
      | _ => cases h
  | _ => cases h
/-- what must be seen of the text of a method's call -/
structure Bm (X : Cx) (o : Expr) (name : Str) (apos cpos : Pos) (e : Expr) (es : List Expr) : Prop where
  base : attributeBase o name X.env (eval o X.env) = eval o X.env
  few : ((backTo cpos (starEach (e :: es) X.env)).all (fun x => !x.1) && (backToKw cpos (keywordEach [] X.env)).all (fun x => x.1.isSome) && decide ((e :: es).length + ([] : List Keyword).length + (if ([] : List Keyword).isEmpty then 0 else 1) < 30)) = true
  line : (apos.endLine == cpos.line) = true
  hs : starEach (e :: es) X.env = (false, eval e X.env) :: starEach es X.env
  plain : (backTo cpos (starEach es X.env)).any (·.1) = false
theorem s_append (hK : X.K = T.K) {a b : E} {o y : Expr} {apos cpos : Pos} (ho : PE X o (tI T W (ev C a))) (hb : PE X y (tI T W (ev C b))) (m : Bm X o "append" apos cpos y []) : PE X (.Call (.Attribute o "append" apos) [y] [] cpos) (tI T W (ev C (.append a b))) := by
  have pb := pe_bm PySem.F.plainAttrs_list PySem.F.slot_list_append PySem.F.type_list_append mt_append ho (pa_cons hb pa_nil m.hs) m.base m.few m.line m.hs m.plain
  rw [hK] at pb
  refine PE.imp pb fun σ H Q ⟨g, S, e, s, r, q⟩ => ?_
  simp only [ev] at q
  refine ⟨g, S, e, s, r, (GoR.bind q).imp fun g1 H1 v d S1 l1 s1 rd _ q1 => ?_⟩
  obtain ⟨p, hp, q1⟩ := orNo_ok q1
  obtain ⟨a1, xs1, _, rfl, _, _, h1, _, _⟩ := lstAt_ok s1 rd (n := p.1) (ds := p.2) hp
  refine ⟨.inl ⟨rfl, xs1, SqL.of h1⟩, g1, S1, e, s1, r.mono l1, (GoR.bind q1).imp fun g2 H2 u d2 S2 l2 s2 rd2 _ q2 => ?_⟩
  obtain ⟨p2, hp2, q2⟩ := orNo_ok q2
  obtain ⟨a2, xs, _, e2, hρ, hS, h2, lx, rs⟩ := lstAt_ok s2 (RD.mono T.K l2 rd) (n := p2.1) (ds := p2.2) hp2
  cases e2
  obtain ⟨hf, q3⟩ := ite_ok q2
  have hl : xs.length + 1 ≤ sizeLine := by rw [rs.length]; exact fits_le hf
  exact ⟨_, xs, u, rfl, rfl, h2, hl, q3.now (s2.put hρ hS (by simp) (.lst (by simpa using hl) (rs.append (.cons rd2 .nil)))) .non⟩
theorem extend_tup (l : Addr) (us : Array Value) (n : Nat) (b : Addr) (o : Obj) (ws : Array Value) (m : Nat) (hoc : o.cls = .type "tuple") (hod : o.data = .seq ws m) (z0 : ¬(!us.isEmpty && Builtin.List.listTooLong (us.size + ws.size)) = true) (z1 : us.size ≤ sizeLine) (z2 : us.size + ws.size ≤ sizeLine + 1) :
    Meets (Builtin.«list.extend» ⟨[.ref l, .ref b], []⟩) (fun _ R s => s.heap.get? l = some { cls := .type "list", dict := none, data := .seq us n, slots := #[] } ∧ s.heap.get? b = some o ∧ R (.ok (.ret Value.none)) { s with heap := s.heap.update l (Obj.mapSeq fun x => x ++ ws), toks := s.toks }) :=
  .of_wp fun prog w A R s h => by
    obtain ⟨hp, g, d, tk, os⟩ := s
    obtain ⟨hl, hb, h⟩ := h
    have f1 := AutoSeq1.idx_int
    have f2 := AutoSeq1.sub_tuple_tuple
    have f3 := AutoSeq1.sub_list_list
    have f4 := AutoSeq1.sub_tuple_list
    have f5 := AutoSeq1.sub_list_tuple
    have z3 : (us ++ ws).size ≤ sizeLine + 1 := by rw [Array.size_append]; exact z2
    obtain ⟨cl, di, da, sl⟩ := o
    simp only at hoc hod
    subst hoc hod
    wp_walk using (wpAny_updateSeq hl rfl (hz := z1) (_hz' := z3)), PySem.AutoSeq1.wpAny_loadPart' hl, PySem.AutoSeq1.wpAny_loadPart' hb
    exact ⟨_, rfl, h⟩
def rExt2 (K : PySem.W.Frag) : V → List V → Hp → VK → Prop := fun x vs H Q => ∃ l b xs zs, x = .ref l ∧ vs = [.ref b] ∧ H l = some (.lst xs) ∧ (H b = some (.lst zs) ∨ SqT K H b zs) ∧ xs.length + zs.length ≤ sizeLine ∧ Q .non (upd H l (.lst (xs ++ zs)))
theorem mt_ext2 : MtM X "list.extend" (rExt2 X.K) := by
  intro pins s σ H x vs v us Q I rx rv h
  obtain ⟨l, b, xs, zs, e1, e2, hH, hB, hz, q⟩ := h
  rcases hB with hB | hB
  · exact mt_extend pins s σ H x vs v us Q I rx rv ⟨l, b, xs, zs, e1, e2, hH, hB, hz, q⟩
  subst e1 e2
  cases rx
  obtain ⟨u, rfl, ru⟩ := rv.one
  cases ru
  obtain ⟨z, its, n, r, hl, e⟩ := I.lstM hH
  obtain ⟨its2, r2, ⟨o, ho, hoc, m, hod⟩, _⟩ := I.tuple hB
  have l2 := r2.length
  have hsz : its.toArray.size + its2.toArray.size ≤ sizeLine := by rw [List.size_toArray, List.size_toArray]; omega
  have hlong : ¬ (!its.toArray.isEmpty && Builtin.List.listTooLong (its.toArray.size + its2.toArray.size)) = true := by
    rw [notLongL hsz, Bool.and_false]
    simp
  refine call_meets PySem.F.slot_list_extend ⟨_, e, rfl⟩ PySem.F.entry_list_extend (PySem.F.args_list_extend_2 _ _) (extend_tup l its.toArray n b o its2.toArray m hoc hod hlong (by rw [List.size_toArray]; omega) (by omega)) ⟨e, ho, ?_⟩
  refine ⟨.non, _, I.lset (its' := its ++ its2) hH e (by simp) (r.append r2) (by rw [List.length_append]; exact hz), rfl, q⟩
theorem s_extend (hK : X.K = T.K) {a b : E} {o y : Expr} {apos cpos : Pos} (ho : PE X o (tI T W (ev C a))) (hb : PE X y (tI T W (ev C b))) (m : Bm X o "extend" apos cpos y []) : PE X (.Call (.Attribute o "extend" apos) [y] [] cpos) (tI T W (ev C (.extend a b))) := by
  have pb := pe_bm PySem.F.plainAttrs_list PySem.F.slot_list_extend PySem.F.type_list_extend mt_ext2 ho (pa_cons hb pa_nil m.hs) m.base m.few m.line m.hs m.plain
  rw [hK] at pb
  refine PE.imp pb fun σ H Q ⟨g, S, e, s, r, q⟩ => ?_
  simp only [ev] at q
  refine ⟨g, S, e, s, r, (GoR.bind q).imp fun g1 H1 v d S1 l1 s1 rd _ q1 => ?_⟩
  obtain ⟨p, hp, q1⟩ := orNo_ok q1
  obtain ⟨a1, xs1, _, rfl, _, _, h1, _, _⟩ := lstAt_ok s1 rd (n := p.1) (ds := p.2) hp
  refine ⟨.inl ⟨rfl, xs1, SqL.of h1⟩, g1, S1, e, s1, r.mono l1, (GoR.bind q1).imp fun g2 H2 u d2 S2 l2 s2 rd2 _ q2 => ?_⟩
  obtain ⟨p2, hp2, q2⟩ := orNo_ok q2
  obtain ⟨a2, xs, _, e2, hρ, hS, h2, lx, rs⟩ := lstAt_ok s2 (RD.mono T.K l2 rd) (n := p2.1) (ds := p2.2) hp2
  cases e2
  obtain ⟨zs, hz, q3⟩ := orNo_ok q2
  obtain ⟨b2, ys, rfl, h3, ry⟩ := asMT_ok s2 rd2 hz
  obtain ⟨hf, q4⟩ := ite_ok q3
  have hl : xs.length + ys.length ≤ sizeLine := by rw [rs.length, ry.length]; exact fits_le hf
  exact ⟨_, b2, xs, ys, rfl, rfl, h2, h3, hl, q4.now (s2.put hρ hS (by simp) (.lst (by simpa using hl) (rs.append ry))) .non⟩
theorem rds_last {g : Gh} : ∀ {xs : List V} {ds : List D} {y : D}, T.RDs g xs ds → ds.getLast? = some y → ∃ v, xs[xs.length - 1]? = some v ∧ T.RD g v y ∧ T.RDs g xs.dropLast ds.dropLast := by
  intro xs ds y r h
  rw [List.getLast?_eq_getElem?] at h
  obtain ⟨v, hv, rv⟩ := r.get h
  refine ⟨v, by rw [r.length]; exact hv, rv, ?_⟩
  rw [List.dropLast_eq_take, List.dropLast_eq_take, r.length]
  exact r.take _
theorem s_pop (hK : X.K = T.K) {a : E} {o : Expr} {apos cpos : Pos} (ho : PE X o (tI T W (ev C a))) (hbase : attributeBase o "pop" X.env (eval o X.env) = eval o X.env) (hline : (apos.endLine == cpos.line) = true) : PE X (.Call (.Attribute o "pop" apos) [] [] cpos) (tI T W (ev C (.pop a))) := by
  have pb := pe_bm0 (apos := apos) (cpos := cpos) PySem.F.plainAttrs_list PySem.F.slot_list_pop PySem.F.type_list_pop mt_pop ho hbase hline
  rw [hK] at pb
  refine PE.imp pb fun σ H Q ⟨g, S, e, s, r, q⟩ => ?_
  simp only [ev] at q
  refine ⟨g, S, e, s, r, (GoR.bind q).imp fun g1 H1 v d S1 l1 s1 rd _ q1 => ?_⟩
  obtain ⟨p, hp, q1⟩ := orNo_ok q1
  obtain ⟨a1, xs, _, rfl, hρ, hS, h1, lx, rs⟩ := lstAt_ok s1 rd (n := p.1) (ds := p.2) hp
  obtain ⟨y, hy, q2⟩ := orNo_ok q1
  obtain ⟨u, hu, ru, rr⟩ := rds_last rs hy
  refine ⟨.inl ⟨rfl, xs, SqL.of h1⟩, a1, xs, u, rfl, rfl, h1, hu, q2.now (s1.put hρ hS (by simp) (.lst ?_ rr)) ru⟩
  rw [List.length_dropLast]; omega
theorem s_pop0 (hK : X.K = T.K) {a : E} {o y : Expr} {apos cpos : Pos} (ho : PE X o (tI T W (ev C a))) (hy : PE X y (tI T W (ev C (.int 0)))) (m : Bm X o "pop" apos cpos y []) : PE X (.Call (.Attribute o "pop" apos) [y] [] cpos) (tI T W (ev C (.pop0 a))) := by
  have pb := pe_bm PySem.F.plainAttrs_list PySem.F.slot_list_pop PySem.F.type_list_pop mt_popAt ho (pa_cons hy pa_nil m.hs) m.base m.few m.line m.hs m.plain
  rw [hK] at pb
  refine PE.imp pb fun σ H Q ⟨g, S, e, s, r, q⟩ => ?_
  simp only [ev] at q
  refine ⟨g, S, e, s, r, (GoR.bind q).imp fun g1 H1 v d S1 l1 s1 rd _ q1 => ?_⟩
  obtain ⟨p, hp, q1⟩ := orNo_ok q1
  obtain ⟨a1, xs, _, rfl, hρ, hS, h1, lx, rs⟩ := lstAt_ok s1 rd (n := p.1) (ds := p.2) hp
  obtain ⟨y0, hy0, q2⟩ := orNo_ok q1
  refine ⟨.inl ⟨rfl, xs, SqL.of h1⟩, g1, S1, e, s1, r.mono l1, ?_⟩
  simp only [ev]
  intro g2 H2 u l2 s2 rd2
  cases rd2
  obtain ⟨a2, us, _, e2, hρ2, hS2, h2, lx2, rs2⟩ := lstAt_ok s2 (RD.mono T.K l2 rd) (n := p.1) (ds := p.2) hp
  cases e2
  have q3 := q2.mono l2
  generalize hpp : p.2 = pp at *
  cases rs2 with
  | nil => cases hy0
  | @cons v0 d0 vs ds r0 rr =>
    simp only [List.head?_cons, Option.some.injEq] at hy0
    subst hy0
    exact ⟨_, v0 :: vs, 0, 0, v0, rfl, rfl, h2, by decide, by decide, by simp [seqIndex?], rfl, q3.now (s2.put hρ2 hS2 (by simp) (.lst (by simp at lx2 ⊢; omega) rr)) r0⟩
theorem s_get1 {a b : E} {o y : Expr} {apos cpos : Pos} (hu : X.A.units + 1 < cLine) (ho : PE X o (tI T W (ev C a))) (hb : PE X y (tI T W (ev C b))) (m : M1 X o "get" apos y cpos) : PE X (.Call (.Attribute o "get" apos) [y] [] cpos) (tI T W (ev C (.get1 a b))) := by
  refine PE.imp (pe_dget1 hu ho hb m) fun σ H Q ⟨g, S, e, s, r, q⟩ => ?_
  simp only [ev] at q
  refine ⟨g, S, e, s, r, (GoR.bind q).imp fun g1 H1 v d S1 l1 s1 rd _ q1 => ?_⟩
  obtain ⟨p, hp, q1⟩ := orNo_ok q1
  obtain ⟨a1, xs1, rfl, h1, _, _⟩ := asD_ok s1 rd (ks := p.1) (ds := p.2) hp
  refine ⟨a1, rfl, .inl ⟨_, .inl h1⟩, g1, S1, e, s1, r.mono l1, (GoR.bind q1).imp fun g2 H2 u d2 S2 l2 s2 rd2 _ q2 => ?_⟩
  obtain ⟨p2, hp2, q2⟩ := orNo_ok q2
  obtain ⟨k, hk, q2⟩ := orNo_ok q2
  obtain ⟨a2, xs, e2, h2, lk, rs⟩ := asD_ok s2 (RD.mono T.K l2 rd) (ks := p2.1) (ds := p2.2) hp2
  cases e2
  refine ⟨valV (p2.1.zip xs) k, .inl ⟨_, k, .inl h2, key_of rd2 hk, rfl⟩, ?_⟩
  rcases val_zip (k := k) lk rs with ⟨v1, v2⟩ | ⟨u1, d1, v1, v2, r1⟩
  · rw [v1]; rw [v2] at q2; exact q2.now s2 .non
  · rw [v1]; rw [v2] at q2; exact q2.now s2 r1
theorem s_get2 {a b c : E} {o y z : Expr} {apos cpos : Pos} (hu : X.A.units + 1 < cLine) (ho : PE X o (tI T W (ev C a))) (hb : PE X y (tI T W (ev C b))) (hc : PE X z (tI T W (ev C c))) (m : M2 X o "get" apos y z cpos) : PE X (.Call (.Attribute o "get" apos) [y, z] [] cpos) (tI T W (ev C (.get2 a b c))) := by
  refine PE.imp (pe_dget2 hu ho hb hc m) fun σ H Q ⟨g, S, e, s, r, q⟩ => ?_
  simp only [ev] at q
  refine ⟨g, S, e, s, r, (GoR.bind q).imp fun g1 H1 v d S1 l1 s1 rd _ q1 => ?_⟩
  obtain ⟨p, hp, q1⟩ := orNo_ok q1
  obtain ⟨a1, xs1, rfl, h1, _, _⟩ := asD_ok s1 rd (ks := p.1) (ds := p.2) hp
  refine ⟨a1, rfl, .inl ⟨_, .inl h1⟩, g1, S1, e, s1, r.mono l1, (GoR.bind q1).imp fun g2 H2 u d2 S2 l2 s2 rd2 _ q2 => ?_⟩
  refine ⟨g2, S2, e, s2, (r.mono l1).mono l2, (GoR.bind q2).imp fun g3 H3 u3 d3 S3 l3 s3 rd3 _ q3 => ?_⟩
  obtain ⟨p2, hp2, q3⟩ := orNo_ok q3
  obtain ⟨k, hk, q3⟩ := orNo_ok q3
  obtain ⟨a2, xs, e2, h2, lk, rs⟩ := asD_ok s3 (RD.mono T.K (l2.trans l3) rd) (ks := p2.1) (ds := p2.2) hp2
  cases e2
  refine ⟨valV (p2.1.zip xs) k, .inl ⟨_, k, .inl h2, key_of rd2 hk, rfl⟩, ?_⟩
  rcases val_zip (k := k) lk rs with ⟨v1, v2⟩ | ⟨u1, d1, v1, v2, r1⟩
  · rw [v1]; rw [v2] at q3; exact q3.now s3 rd3
  · rw [v1]; rw [v2] at q3; exact q3.now s3 r1
/-! ### dict displays -/
def PrR (T : Tb) (g : Gh) (ps : List (V × V)) (p : List Key × List D) : Prop := ∃ xs, ps = (p.1.zip xs).map (fun kv => (kV kv.1, kv.2)) ∧ p.1.length = xs.length ∧ T.RDs g xs p.2
def trsOf (T : Tb) (W : WX) (C : Cal) : List E → List (TE × TE)
  | a :: b :: r => (tI T W (ev C a), tI T W (ev C b)) :: trsOf T W C r
  | _ => []
theorem pairs_ok {e : Ev} {σ : LSt} : ∀ (kvs : List E) {g : Gh} {S : Sto} {H : Hp} {Q : List (V × V) → Hp → Prop}, T.Sim g S H → T.EnvR g σ e → GoR T (PrR T) W g σ (evPairs C kvs e S) (fun _ H' ps _ _ => Q ps H') → tPairs (trsOf T W C kvs) σ H Q
  | [], g, S, H, Q, s, _, q => by
    simp only [evPairs] at q
    exact q.now s ⟨[], rfl, rfl, .nil⟩
  | [_], _, _, _, _, _, _, q => by simp only [evPairs] at q; exact q.elim
  | a :: b :: r, g, S, H, Q, s, en, q => by
    simp only [evPairs] at q
    refine ⟨g, S, e, s, en, (GoR.bind q).imp fun g1 H1 x d1 S1 l1 s1 r1 _ q1 => ?_⟩
    refine ⟨g1, S1, e, s1, en.mono l1, (GoR.bind q1).imp fun g2 H2 y d2 S2 l2 s2 r2 _ q2 => ?_⟩
    refine pairs_ok r s2 ((en.mono l1).mono l2) ((GoR.bind (rel := PrR T) q2).imp fun g3 H3 ps p S3 l3 s3 r3 _ q3 => ?_)
    obtain ⟨k, hk, q4⟩ := orNo_ok q3
    obtain ⟨xs, e1, e2, e3⟩ := r3
    refine q4.now s3 ⟨y :: xs, ?_, by simp [e2], .cons (RD.mono T.K l3 r2) e3⟩
    rw [key_of r1 hk, e1]; rfl
theorem mkD_pin {m : Bool} {ks : List Key} {ds : List D} {zs : List V} {g : Gh} {S : Sto} {H : Hp} {σ : LSt} {Q : VK} {f : Hp} {p : Addr} {o : HO} (s : T.Sim g S H) (hf : g.fr = upd f p o) (hn : f p = none) (hl : ks.length = zs.length) (r : T.RDs g zs ds)
    (q : GoR T T.RD W { g with fr := f } σ (mkD m ks ds S) fun _ H' v _ _ => Q v H') : Q (.ref p) (upd H p (.dK (ks.zip zs))) := by
  have s2 := s.repin (o' := .dK (ks.zip zs)) hf
  obtain ⟨_, p1, _⟩ := s.frs p _ (by rw [hf]; exact upd_same)
  cases m with
  | false =>
    simp only [mkD, Bool.false_eq_true, if_false] at q
    have s3 := s2.unpinF rfl hn
    refine q.to (g' := { g with fr := f, Hf := upd g.Hf p (.dK (ks.zip zs)) }) ⟨⟨[], by simp⟩, fun a u e => ?_, rfl⟩ s3 (RD.dct upd_same hl (RDs.monoS T.K ⟨⟨[], by simp⟩, fun a u e => ?_⟩ r))
    · show upd g.Hf p _ a = some u
      rw [upd_ne (ne_of_none e p1)]; exact e
    · show upd g.Hf p _ a = some u
      rw [upd_ne (ne_of_none e p1)]; exact e
  | true =>
    simp only [mkD, if_true] at q
    obtain ⟨s3, e3⟩ := s2.unpinL rfl hn (ObR.dct (K := T.K) (cA := T.cA) (nh := T.nh) hl (RDs.monoS T.K (sub_fr g _) r))
    exact q.to (g' := { g with fr := f, ρ := g.ρ ++ [p] }) ⟨⟨[p], rfl⟩, fun _ _ e => e, rfl⟩ s3 (RD.loc e3)
theorem s_dct0 {m : Bool} {pos : Pos} : PE X (.Dict [] [] pos) (tI T W (ev C (.dct m []))) := by
  refine PE.imp pe_dnewK fun σ H Q ⟨g, S, e, s, r, q⟩ => ?_
  simp only [ev, evPairs, R.bind_ok] at q
  obtain ⟨_, q2⟩ := ite_ok q
  exact mkD_ok (ks := []) (xs := []) s rfl .nil q2
theorem s_dct {m : Bool} {kvs : List E} {keys : List (Option Expr)} {values : List Expr} {pos : Pos} (h : PPs X pos keys values (trsOf T W C kvs)) (hall : keys.all (·.isSome) = true) (hl : keys.length = values.length) (h0 : keys ≠ []) (h15 : keys.length ≤ 15) :
    PE X (.Dict keys values pos) (tI T W (ev C (.dct m kvs))) := by
  refine PE.imp (pe_disp h hall hl h0 h15) fun σ H Q ⟨g, S, e, s, r, q⟩ => ?_
  simp only [ev] at q
  intro p hp
  have hn : g.fr p = none := (s.nowhere hp).2.1
  have q' := GoR.pin (g := { g with fr := upd g.fr p (.dK []) }) hn rfl (rel := PrR T) (fun g' v d ⟨xs, e1, e2, e3⟩ => ⟨xs, e1, e2, RDs.monoS T.K (sub_fr g' _) e3⟩) (GoR.bind q)
  refine pairs_ok kvs (s.pin hp) (r.monoS (sub_fr g _)) (q'.imp fun g1 H1 ps pr S1 l1 s1 ⟨xs, e1, e2, e3⟩ _ q1 => ?_)
  have f1 : g1.fr = upd g.fr p (.dK []) := l1.fr
  obtain ⟨hc, q2⟩ := ite_ok q1
  obtain ⟨zs, m1, m2, m3⟩ := merge_zip (ks := []) (xs := []) (ds := []) (js := pr.1) (ys := xs) (es := pr.2) rfl .nil e2 e3
  refine ⟨(s1.frs p _ (by rw [f1]; exact upd_same)).1, pr.1.zip xs, e1, ?_, ?_⟩
  · rw [List.length_zip, ← e2, Nat.min_self]; exact of_decide_eq_true hc
  · have m1' : mergeK [] (pr.1.zip xs) = (dmerge [] [] pr.1 pr.2).1.zip zs := m1
    rw [m1']
    exact mkD_pin s1 f1 hn m2 m3 q2
theorem pps0 {pos : Pos} : PPs X pos [] [] (trsOf T W C []) := pps_nil
theorem pps1 {a b : E} {kvs : List E} {k v : Expr} {ks : List (Option Expr)} {vs : List Expr} {pos : Pos} (hk : PE X k (tI T W (ev C a))) (hv : PE X v (tI T W (ev C b))) (hr : PPs X pos ks vs (trsOf T W C kvs)) : PPs X pos (some k :: ks) (v :: vs) (trsOf T W C (a :: b :: kvs)) := pps_cons hk hv hr
/-! ### a thing that changes no more -/
theorem s_frz {a : E} {x : Expr} (ha : PE X x (tI T W (ev C a))) : PE X x (tI T W (ev C (.frz a))) := by
  refine PE.imp ha fun σ H Q ⟨g, S, e, s, r, q⟩ => ?_
  simp only [ev] at q
  refine ⟨g, S, e, s, r, (GoR.bind q).imp fun g1 H1 v d S1 l1 s1 rd _ q1 => ?_⟩
  cases rd with
  | @loc a1 n qx =>
    simp only [strip1] at q1
    cases hS : S1[n]? with
    | none => rw [hS] at q1; exact q1.elim
    | some o =>
      rw [hS] at q1
      cases o with
      | lst ds =>
        obtain ⟨_, ho, y2, y3⟩ := s1.obj n _ _ qx hS (by simp)
        obtain ⟨s2, l2⟩ := s1.strip qx hS (by simp) y2
        cases y3 with
        | lst lx rs => exact q1.to l2 s2 (.lst upd_same lx (RDs.mono T.K l2 rs))
      | dct ks ds =>
        obtain ⟨_, ho, y2, y3⟩ := s1.obj n _ _ qx hS (by simp)
        obtain ⟨s2, l2⟩ := s1.strip qx hS (by simp) y2
        cases y3 with
        | dct lx rs => exact q1.to l2 s2 (.dct upd_same lx (RDs.mono T.K l2 rs))
      | _ => exact q1.elim
  | non => exact q1.now s1 .non
  | bl b => exact q1.now s1 (.bl b)
  | int i => exact q1.now s1 (.int i)
  | str z => exact q1.now s1 (.str z)
  | tup h1 h2 h3 => exact q1.now s1 (.tup h1 h2 h3)
  | lst h1 h2 h3 => exact q1.now s1 (.lst h1 h2 h3)
  | dct h1 h2 h3 => exact q1.now s1 (.dct h1 h2 h3)
  | scr h1 => exact q1.now s1 (.scr h1)
end
end CT

end
section
set_option maxHeartbeats 4000000
/-! callturn proofs, part r: how many texts a row holds -/
namespace CT
open PySem PySem.Spec PyProof.Rows L2
theorem dups_le : ∀ (n : Nat) (l : List Str), l.length ≤ n → l.eraseDups.length ≤ l.length
  | _, [], _ => by simp
  | 0, _ :: _, h => by simp at h
  | n + 1, a :: l, h => by
    rw [List.eraseDups_cons]
    have h1 : (l.filter fun b => !b == a).length ≤ l.length := List.length_filter_le _ _
    have h2 := dups_le n (l.filter fun b => !b == a) (by simp at h; omega)
    simp only [List.length_cons]; omega
theorem dups_one (l : List Str) (x : Str) : (l ++ [x]).eraseDups.length = if l.any (· == x) = true then l.eraseDups.length else l.eraseDups.length + 1 := by
  rw [List.eraseDups_append, List.length_append]
  have e : [x].removeAll l = if l.any (· == x) = true then [] else [x] := by
    have e1 : l.elem x = l.any (· == x) := by
      rw [Bool.eq_iff_iff]
      simp only [List.elem_eq_mem, decide_eq_true_eq, List.any_eq_true, beq_iff_eq]
      constructor
      · exact fun h => ⟨x, h, rfl⟩
      · rintro ⟨y, hy, rfl⟩; exact hy
    unfold List.removeAll
    rw [List.filter_cons, List.filter_nil, e1]
    cases l.any (· == x) <;> simp
  rw [e]
  split
  · simp
  · simp [List.eraseDups_cons]
section
variable {prog : Program} {w : World} {A : Around} {R₁ : Result → Shared → Prop} {It₁ : Addr} {fp wr : List Addr} {G : Array GenState → Array GenState → Prop} {n : Nat} {P : Nat → Value → Prop} {St₁ : Nat → Shared → Prop}
theorem set_turns (wk : WalksS prog w A.in1 It₁ fp wr G n P St₁) (a : Addr) (ha : a ∉ fp) (xs : List Str) (hl : xs.length = n) (hn : n < 4000) (hv : ∀ i v, P i v → ∃ t, v = .str (xs.getD i Str.empty) t) :
    ∀ (k i : Nat) (s : Shared), n - i = k → i ≤ n → St₁ i s → s.heap.SetOf (PySem.strKind prog w) a (fun z => (xs.take i).any (· == z)) (xs.take i).eraseDups.length →
      (∀ s', Moved (a :: wr) G s s' → s'.heap.SetOf (PySem.strKind prog w) a (fun z => xs.any (· == z)) xs.eraseDups.length → R₁ (.ok (.ret .none)) s') →
      codeAny (model prog w) A (.builtin "set.update.loop" ⟨[.ref a, .ref It₁], []⟩) R₁ s := by
  have haw : a ∉ wr := fun h => ha (wk.sub _ h)
  have up : ∀ b ∈ wr, b ∈ a :: wr := fun b hb => List.mem_cons_of_mem _ hb
  have keep : ∀ {s s' : Shared} {S : Str → Bool} {c : Nat}, Moved wr G s s' → s.heap.SetOf (PySem.strKind prog w) a S c → s'.heap.SetOf (PySem.strKind prog w) a S c := fun m h => by
    obtain ⟨o, es, ep, tb, ho, more⟩ := h
    exact ⟨o, es, ep, tb, m.heap a _ haw ho, more⟩
  intro k
  induction k with
  | zero =>
    intro i s e1 e2 st hS fin
    have ei : i = n := by omega
    subst ei
    rw [List.take_of_length_le (Nat.le_of_eq hl)] at hS
    refine codeAny_builtin PyProof.Rows.F.entry_set_update_loop ?_
    rw [Around.under_plainId PyProof.Rows.F.plain_set_update_loop _]
    show wpAny _ A.in1 (pyNext (.ref It₁) >>= _) _ _ s
    refine wpAny_bind (wk.done s _ _ st fun s' m => ?_)
    show wpAny _ A.in1 (ret Value.none) _ _ s'
    exact wpAny_pure (fin s' (m.mono up) (keep m hS))
  | succ k ih =>
    intro i s e1 e2 st hS fin
    have hi : i < n := by omega
    have hix : i < xs.length := by omega
    refine codeAny_builtin PyProof.Rows.F.entry_set_update_loop ?_
    rw [Around.under_plainId PyProof.Rows.F.plain_set_update_loop _]
    show wpAny _ A.in1 (pyNext (.ref It₁) >>= _) _ _ s
    refine wpAny_bind (wk.item i s _ _ hi st fun v s' pv st' m => ?_)
    obtain ⟨t, rfl⟩ := hv i v pv
    have hS' := keep m hS
    have ex : xs.getD i Str.empty = xs[i] := by rw [List.getD_eq_getElem?_getD, List.getElem?_eq_getElem hix]; rfl
    rw [ex]
    show wpAny _ A.in1 (holding [Value.str xs[i] t] (setAdd a (.str xs[i] t)) >>= _) _ _ s'
    refine wpAny_bind (wpAny_holding ?_)
    unfold setAdd
    have few : (xs.take i).eraseDups.length + 1 < scanBound := by
      have h1 := dups_le _ (xs.take i) (Nat.le_refl _)
      have h2 : (xs.take i).length ≤ i := List.length_take_le _ _
      unfold scanBound; omega
    refine wpAny_holding (wpAny_bind ((PySem.strKind prog w).pyHash (k := xs[i]) (strKind_is _ _ _ _) ?_))
    refine wpAny_setAddHashed_of (knd := PySem.strKind prog w) (s := { s' with toks := s'.toks + 1 }) (strKind_is _ _ _ _) rfl hS' few fun h' sb hS2 => ?_
    have et : xs.take (i + 1) = xs.take i ++ [xs[i]] := (List.take_append_getElem hix).symm
    have next : h'.SetOf (PySem.strKind prog w) a (fun z => (xs.take (i + 1)).any (· == z)) (xs.take (i + 1)).eraseDups.length := by
      refine SetOf_congr hS2 (fun z => ?_) ?_
      · rw [et, List.any_append]
        congr 1
        by_cases e : z = xs[i]
        · subst e; simp
        · have hb : (xs[i] == z) = false := by simpa [beq_iff_eq] using fun h : xs[i] = z => e h.symm
          simp [hb, e]
      · rw [et, dups_one]
    refine wpAny_pure ⟨plainId_quiet PyProof.Rows.F.plain_set_update_loop _, ih (i + 1) _ (by omega) hi (wk.frame _ s' _ _ st' (Nat.le_succ _) fun b hb o e => ?_) next fun s'' m' hS'' => ?_⟩
    · rw [sb.2 b (fun h : b = a => ha (by rw [← h]; exact hb))]; exact e
    · refine fin s'' (Moved.trans wk.gtrans ((m.mono up).then_heap (Nat.le_succ _) fun b o hb e => ?_) m') hS''
      rw [sb.2 b (fun h : b = a => hb (by rw [h]; exact List.mem_cons_self))]; exact e
end
section
variable {prog : Program} {w : World} {A : Around} {E₁ : Value → Shared → Prop} {s : Shared}
abbrev newSet (led : Bool) : Obj := { cls := .type "set", dict := none, data := .set #[] 0 (.fresh 0 0 led) }
set_option maxHeartbeats 6400000 in
theorem set_of_tuple {l : Addr} {items : Array Value} {xs : List Str} {Q : Value → Shared → Prop} (hh : A.handled = none) (hl : s.heap.IsTuple l items) (hi : PyProof.Rows.StrsAre items.toList xs) (hn : xs.length < 4000)
    (h : ∀ (h' : Heap) (tk : Nat), h'.SetOf (PySem.strKind prog w) s.heap.objs.size (fun z => xs.any (· == z)) xs.eraseDups.length → (∀ b o, b < s.heap.objs.size → s.heap.get? b = some o → h'.get? b = some o) → Q (.ref s.heap.objs.size) { s with heap := h', toks := tk }) :
    wpAny (model prog w) A (call (.type "set") [.ref l]) Q E₁ s := by
  obtain ⟨c, tl, hmro⟩ := PySem.F.called_set.mro
  have f1 := PySem.F.called_set.made
  have f2 := PySem.F.called_set.sub
  refine wpAny_call (codeAny_of_tree ?_)
  show wpAny _ _ (callAny (.type "set") _) _ _ _
  refine wpAny_pure ⟨Code.quiet_builtin _ (by decide +kernel), codeAny_builtin PySem.F.entry_type_call ?_⟩
  rw [Around.under_plain (weight_type_call_type "set" [.ref l] []) rfl]
  have f3 := PySem.F.called_set.notType
  have f4 := PySem.F.called_set.canCreate
  have f5 := PySem.F.typeCall_set_1 (.ref l)
  repeat (any_goals (first | assumption | wp_step))
  refine codeAny_mono (code_set_new_1 (.ref l) (E := E₁) (Q₁ := fun obj s₁ => ∃ led : Bool, obj = .ref s.heap.objs.size ∧ s₁ = { s with heap := s.heap.push (newSet led) }) fun led => ⟨led, rfl, rfl⟩) fun r s₁ hr => ?_
  cases r with
  | error e => exact hr
  | ok fl =>
    cases fl with
    | ret obj =>
      obtain ⟨led, rfl, rfl⟩ := hr
      have hS : (s.heap.push (newSet led)).get? s.heap.objs.size = some (newSet led) := Heap.get?_push_size _ rfl
      have hT : Shared.TypeIs { s with heap := s.heap.push (newSet led) } (.ref s.heap.objs.size) "set" := ⟨_, hS, rfl⟩
      have g1 := PySem.F.called_set.init.lookup
      have g2 := PySem.F.called_set.init.bind (.ref s.heap.objs.size)
      repeat (any_goals (first | assumption | wp_step))
      refine codeAny_mono (codeAny_call_builtin (R := wants (fun r s₂ => r = .none ∧ ∃ h' tk, s₂ = { s with heap := h', toks := tk } ∧ h'.SetOf (PySem.strKind prog w) s.heap.objs.size (fun z => xs.any (· == z)) xs.eraseDups.length ∧ (∀ b o, b < s.heap.objs.size → s.heap.get? b = some o → h'.get? b = some o)) E₁) PySem.F.called_set.init.plain PySem.F.entry_set_init (check_set_init_1 hT ?_)) fun r₂ s₂ hr₂ => ?_
      · obtain ⟨⟨ocls, odict, odata, oslots⟩, hol, hcl, nl, hdl⟩ := hl
        simp only at hcl hdl
        subst hcl; subst hdl
        have hol' : (s.heap.push (newSet led)).get? l = some { cls := .type "tuple", dict := odict, data := .seq items nl, slots := oslots } := Heap.get?_push_of_some _ hol
        have g3 := PySem.F.sub_tuple_set
        have g4 := PySem.F.sub_tuple_frozenset
        have g5 : (Value.type "tuple" == Value.type "dict") = false := by decide
        have hl1 : (s.heap.push (newSet led)).IsTuple l items := ⟨_, hol', rfl, nl, rfl⟩
        unfold Builtin.«set.__init__» noKeywords Builtin.Frozenset.updateFrom
        generalize hPI : pyIter = PI
        wp_walk
        subst hPI
        refine wpAny_pyIter_tuple hl1 (wpAny_bind (wpAny_runValue ?_))
        have lt : l < s.heap.objs.size := Heap.lt_size hol
        have hh3 : A.in1.in1.in1.handled = none := by simp [hh]
        have ne1 : l ≠ (s.heap.push (newSet led)).objs.size := by rw [Heap.size_push]; exact Nat.ne_of_lt (Nat.lt_succ_of_lt lt)
        have nin : s.heap.objs.size ∉ [(s.heap.push (newSet led)).objs.size, l] := by
          rw [Heap.size_push]
          simp only [List.mem_cons, List.not_mem_nil, or_false, not_or]
          exact ⟨Nat.ne_of_lt (Nat.lt_succ_self _), Nat.ne_of_gt lt⟩
        have hsz : xs.length = items.size := by rw [← StrsAre.len_eq hi, Array.length_toList]
        refine set_turns ((Walks.tuple hh3 _ l ne1 items).toS) s.heap.objs.size nin xs hsz (by rw [← hsz]; exact hn) (fun i v hv => SS.strs_at hi i v (by rw [Array.getElem?_toList]; exact hv)) (items.size - 0) 0 _ (by omega) (Nat.zero_le _) ⟨⟨_, Heap.get?_push_size _ rfl, rfl, rfl⟩, hl1.push _⟩ ?_ fun s' m hS' => ?_
        · have hg : ((s.heap.push (newSet led)).push { cls := .type "tuple_iterator", data := .fields #[.ref l, .int 0 0] }).get? s.heap.objs.size = some (newSet led) := Heap.get?_push_of_some _ hS
          exact SetOf_congr ((PyProof.Rows.setObjOf_fresh (knd := PySem.strKind prog w) led).setOf hg (by unfold scanBound; omega)) (fun _ => rfl) rfl
        · obtain ⟨h', g', d', tk', os'⟩ := s'
          have eg : g' = s.gens := m.gens
          have ed : d' = s.drawn := m.drawn
          have eo : os' = s.os := m.os
          subst eg; subst ed; subst eo
          show wpAny _ _ _ _ _ _
          refine wpAny_pure ?_
          show wpAny _ _ (ret Value.none) _ _ _
          refine wpAny_pure ⟨rfl, h', tk', rfl, hS', fun b o hb e => m.heap b o ?_ (Heap.get?_push_of_some _ (Heap.get?_push_of_some _ e))⟩
          have b1 : b ≠ s.heap.objs.size := Nat.ne_of_lt hb
          have b2 : b ≠ (s.heap.push (newSet led)).objs.size := by rw [Heap.size_push]; exact Nat.ne_of_lt (Nat.lt_succ_of_lt hb)
          simp only [List.mem_cons, List.not_mem_nil, or_false, not_or]
          exact ⟨b1, b2⟩
      · cases r₂ with
        | error e => exact hr₂
        | ok fl₂ =>
          cases fl₂ with
          | ret r =>
            obtain ⟨rfl, h', tk, rfl, hS', hk'⟩ := hr₂
            repeat (any_goals (first | assumption | wp_step))
            exact h _ _ hS' hk'
          | _ => exact hr₂.elim
    | _ => exact hr.elim
end
section
variable {X : Cx}
def tManyT (K : PySem.W.Frag) (ta : TE) : TE := fun σ H Q => ta σ H fun x H1 => ∃ l, ∃ xs : List Str, x = .ref l ∧ SqT K H1 l (xs.map V.str) ∧ xs.length < 4000 ∧ Q (.int xs.eraseDups.length) H1
theorem pe_many {a : Expr} {ta : TE} {p p2 q pos : Pos} (hc : X.calm = true) (hg : Gl X "len") (hm : X.mg "len" = none) (hg2 : Gl X "set") (hm2 : X.mg "set" = none) (ha : PE X a ta) (na : starEach [a] X.env = (false, eval a X.env) :: starEach [] X.env) :
    PE X (.Call (.Name "len" p) [.Call (.Name "set" p2) [a] [] q] [] pos) (tManyT X.K ta) := by
  refine ⟨fun pins s σ H Q I hq => Call_ (ld_blt I hg hm boot_len (PyProof.Rows.callWith_builtin1 (PyProof.Rows.args_cons (Call_ (ld_blt I hg2 hm2 boot_set ?_)) rfl) rfl rfl))⟩
  refine PyProof.Rows.callWith_type1 (PyProof.Rows.args_cons (thn (ha.run pins s σ H _ I hq) fun v s1 ⟨x, H1, I1, r1, q1⟩ => PyProof.Rows.args_nil ?_) na) na rfl
  obtain ⟨l, xs, rfl, hx, few, q1⟩ := q1
  cases r1
  obtain ⟨its, r, pl, hz⟩ := I1.tuple hx
  refine set_of_tuple (I1.ok.hd hc) pl (by simpa using strsAre_of r) few fun h' tk hS hk => PyProof.Rows.args_nil ?_
  obtain ⟨o, es, ep, t, ho, hex, hd, _, _, _, hf, hn⟩ := hS
  have I2 : Inv X pins σ H1 { s1 with heap := h', toks := tk } := I1.kept fun b o e => hk b o (Heap.lt_size e) e
  have le := dups_le _ xs (Nat.le_refl _)
  refine call_len_set ho hex hd hf (by rw [hn]; omega) ⟨.int xs.eraseDups.length, H1, I2.tok _, ⟨_, by rw [hn]⟩, q1⟩
end
section
variable {T : Tb} {W : WX} {X : Cx} {C : Cal}
theorem s_lenset (hK : X.K = T.K) {a : E} {x : Expr} {p p2 q pos : Pos} (hc : X.calm = true) (hg : Gl X "len") (hm : X.mg "len" = none) (hg2 : Gl X "set") (hm2 : X.mg "set" = none) (ha : PE X x (tI T W (ev C a))) (na : starEach [x] X.env = (false, eval x X.env) :: starEach [] X.env) :
    PE X (.Call (.Name "len" p) [.Call (.Name "set" p2) [x] [] q] [] pos) (tI T W (ev C (.lenset a))) := by
  have pm := pe_many (p := p) (p2 := p2) (q := q) (pos := pos) hc hg hm hg2 hm2 ha na
  rw [hK] at pm
  refine PE.imp pm fun σ H Q ⟨g, S, e, s, r, q⟩ => ?_
  simp only [ev] at q
  refine ⟨g, S, e, s, r, (GoR.bind q).imp fun g1 H1 v d S1 l1 s1 rd _ q1 => ?_⟩
  obtain ⟨ss, hs, q2⟩ := orNo_ok q1
  obtain ⟨hl, q3⟩ := ite_ok q2
  cases rd with
  | tup qx lx rx =>
    have e1 := rx.strs (ns := ss) (by simpa [D.tup?] using hs)
    subst e1
    have := of_decide_eq_true hl
    exact ⟨_, ss, rfl, sqT_mono s1.sub qx.1, by omega, q3.now s1 (.int _)⟩
  | _ => simp [D.tup?] at hs
end
end CT

end
section
set_option maxHeartbeats 4000000
/-! callturn proofs, part ra: room by single frames; calls, methods, making, fields -/
namespace CT
open PySem PySem.Spec PyProof.Rows L2
/-- room for so many calls within one another -/
structure Rm (n : Nat) (A : Around) : Prop where
  hd : A.handled = none
  dp : A.depth + n + 8 < recursionLimit
  un : A.units + 5 * n + 200 < cLine
theorem Rm.depth {n : Nat} {A : Around} (r : Rm n A) : A.depth < recursionLimit := Nat.lt_of_le_of_lt (by omega) r.dp
theorem Rm.deeper {n : Nat} {A : Around} (r : Rm (n + 1) A) (v : Env) : Rm n (A.deeper v) :=
  ⟨r.hd, by have h := r.dp; show (A.depth + 1) + n + 8 < _; omega, by have h := r.un; show (A.units + 3) + 5 * n + 200 < _; omega⟩
theorem Rm.make {n : Nat} {A : Around} (r : Rm (n + 1) A) (c : Addr) (us : List Value) : Rm n (A.under (.builtin "type.__call__" ⟨.ref c :: us, []⟩)) :=
  ⟨r.hd, by rw [make_depth]; have h := r.dp; omega, by rw [make_units]; have h := r.un; omega⟩
/-- what a def promises, with room so counted -/
structure FnF (P : Program) (w : World) (K : PySem.W.Frag) (mg : Str → Option Value) (base : Heap) (n : Nat) (f : Addr) (fd : FuncData) (ps : List Str) (sp : Sp) : Prop where
  len : ∀ vs H Q E, sp vs H Q E → vs.length = ps.length
  run : ∀ (A : Around) (out : List Env) (z : Shared) (H : Hp) (args : Args) (us : List Value) (vs : List V) (Q : VK) (E : XK), Rm n A → Env0 P w K mg base A out z H → BindsTo z fd args (ps.zip us) →
    Vals vs us → sp vs H Q E → codeAny (model P w) A (.call (.ref f) args) (CR (L2.CX P w) out P w H z Q E) z
section
variable {P : Program} {w : World} {K : PySem.W.Frag} {mg : Str → Option Value} {base : Heap} {f : Addr} {fd : FuncData} {ps : List Str} {sp : Sp}
/-- by threes it is room enough -/
theorem FnF.ok {n k : Nat} (F : FnF P w K mg base n f fd ps sp) (h : n + 3 ≤ 3 * k) : FnOk P w K mg base (L2.CX P w) k f fd ps sp :=
  ⟨F.len, fun A out z H args us vs Q E hr => F.run A out z H args us vs Q E ⟨hr.hd, by have := hr.dp; omega, by have := hr.un; omega⟩⟩
theorem fnF_of {x qual : Str} {params : Arguments} {body : List Stmt} {scope : Scope} {dvs : List V} {kws : List (Str × V)} {N : List Str} {n : Nat} (F : FunD K x qual params body scope dvs kws f fd) (S : FnScope N ps scope) (len : ∀ vs H Q E, sp vs H Q E → vs.length = ps.length)
    (hbody : ∀ (cdv : Value) (A : Around) (out : List Env) (z : Shared) (H : Hp) (vs : List V) (Q : VK) (E : XK), Rm n (A.deeper (envOfC qual scope z.heap.objs.size f cdv)) → sp vs H Q E →
      ∃ t, PSs (cxOf (L2.CX P w) P w K mg base N qual scope f cdv A out z H E) body t ∧ t { nx := fun _ H' => Q .non H', rt := Q } (L2.start N vs) H) : FnF P w K mg base (n + 1) f fd ps sp := by
  obtain ⟨oc, od, dV, kV, doc, pm, an, cdv, ct, osl, rfl, lk, hcd, _, _⟩ := F.ex
  refine ⟨len, fun A out z H args us vs Q E hr e0 hb r hsp => ?_⟩
  have hl := len _ _ _ _ hsp
  have stay := fun b o e => (e0.bs b o e).1
  have KX : K.In z.heap := e0.mod.kin.keeps stay
  have lm : z.heap.NoLimit := e0.mod.nolimit.keeps stay
  have kinds : ∀ y ∈ ps.zip us, scope.names.lookup y.1 = some .local ∨ (scope.names.lookup y.1 = some .cell ∧ ((cellsFrom (z.heap.objs.size + 1) scope.names []).lookup y.1).isSome = true) := by
    rintro ⟨m, v⟩ hy
    rcases S.par m (List.of_mem_zip hy).1 with q | q
    · left; exact q
    · right; exact ⟨q, PySem.W.cellsFrom_some _ _ _ (.inl q)⟩
  refine codeAny_call_function hr.depth (KX _ _ lk) rfl S.co S.gen rfl (PySem.W.codeRec_of KX hcd) (hb _ _ _ _ (wpAny_newFunctionEnv_cells S.kind kinds fun env he z1 x => ?_))
  subst he
  refine ⟨lm.keeps x.toInCall.keep, codeAny_func ?_⟩
  obtain ⟨t, ht, hq⟩ := hbody cdv A out z H vs Q E (hr.deeper _) hsp
  have I : Inv (cxOf (L2.CX P w) P w K mg base N qual scope f cdv A out z H E) [] (L2.start N vs) H z1 := inv_start S hr.hd e0 hl r x
  refine wpAny_mono (ht.run [] z1 (L2.start N vs) H _ I hq) (fun fl z' hs => ?_) fun e z' hs => hs
  have ends : ∀ {σ' : LSt} {H' : Hp} {v : V} {u : Value}, Inv (cxOf (L2.CX P w) P w K mg base N qual scope f cdv A out z H E) [] σ' H' z' → RelV v u → Q v H' → CE out P w H z Q u z' :=
    fun {σ' H' v u} J rv q => ⟨v, H', J.os, J.bare, J.base, J.hok, rv, q⟩
  cases fl with
  | ret u => obtain ⟨v, σ', H', J, rv, q⟩ := hs; exact ends J rv q
  | next => obtain ⟨σ', H', J, q⟩ := hs; exact ends (v := V.non) (u := Value.none) J rfl q
  | brk => obtain ⟨_, _, _, q⟩ := hs; exact q.elim
  | cont => obtain ⟨_, _, _, q⟩ := hs; exact q.elim
end
section
variable {X : Cx} {n : Nat} {f C : Addr} {fd : FuncData} {ps : List Str} {sp : Sp} {E : LSt → XK} {x m : Str} {p pos apos : Pos} {e o : Expr} {es : List Expr} {ta : TE} {t : TA}
theorem runF {pins : List (Addr × Obj)} {σ : LSt} {H : Hp} {z : Shared} {Q : VK} {us : List Value} {vs : List V} (F : FnF X.prog X.w X.K X.mg X.base n f fd ps sp) (hr : Rm n X.A) (hb : Binds X.K fd ps []) (hx : PassesAt (L2.CX X.prog X.w) X σ (E σ))
    (I : Inv X pins σ H z) (r : Vals vs us) (h : sp vs H Q (E σ)) : wpAny (model X.prog X.w) X.A (call (.ref f) us) (EP X pins σ Q) X.xe z := by
  have hl : (us ++ []).length = ps.length := by rw [List.append_nil, ← r.length]; exact F.len _ _ _ _ h
  have hb' := hb z us I.kIn hl
  rw [List.append_nil] at hb'
  refine wpAny_call (codeAny_mono (F.run X.A X.stack z H ⟨us, []⟩ us vs Q (E σ) hr I.env0 hb' r h) fun r z' hq => ?_)
  cases r with
  | error e => exact hx pins H z e z' I hq
  | ok fl => cases fl <;> first | exact I.after hq | exact hq.elim
def tCallF (sp : Sp) (E : LSt → XK) (t : TA) : TE := fun σ H Q => t σ H fun vs H1 => sp vs H1 Q (E σ)
theorem pe_callF (F : FnF X.prog X.w X.K X.mg X.base n f fd ps sp) (hr : Rm n X.A) (hg : Gl X x) (hm : X.mg x = some (.ref f)) (hk : PySem.W.keepIn X.K (.ref f) = true) (hb : Binds X.K fd ps []) (hx : ∀ σ, PassesAt (L2.CX X.prog X.w) X σ (E σ))
    (ha : PA X (e :: es) t) (hdb : (x == ("__debug__" : Str)) = false) (he : starEach (e :: es) X.env = (false, eval e X.env) :: starEach es X.env) (hpl : (backTo pos (starEach es X.env)).any (·.1) = false) :
    PE X (.Call (.Name x p) (e :: es) [] pos) (tCallF sp E t) := by
  refine ⟨fun pins z σ H Q I h => wpAny_Call_Name_kw (ld_glob I hg hm ?_ hdb)⟩
  refine PySem.W.callWith_K (h₀ := X.base) I.ok.mod.kin hk (thn (ha.run pos pins z σ H _ I h) fun us z1 ⟨vs, H1, I1, r, q⟩ => ⟨I1.kIn, runF F hr hb (hx σ) I1 r q⟩) he hpl
def tMethF (C : Addr) (m : Str) (sp : Sp) (E : LSt → XK) (ta : TE) (t : TA) : TE := fun σ H Q => ta σ H fun x H1 => ∃ a dx fs, x = .ref a ∧ H1 a = some (.ins C dx fs) ∧ fs.lookup m = none ∧ t σ H1 fun vs H2 => sp (x :: vs) H2 Q (E σ)
theorem pe_methF {pl : Sem Bool} (he : PE X o ta) (c : Cls X.K C) (hm : Meth X.K C m f) (F : FnF X.prog X.w X.K X.mg X.base n f fd ps sp) (hr : Rm n X.A) (hb : Binds X.K fd ps []) (hx : ∀ σ, PassesAt (L2.CX X.prog X.w) X σ (E σ)) (ha : PA X (e :: es) t)
    (hst : starEach (e :: es) X.env = (false, eval e X.env) :: starEach es X.env) (hpl : (backTo pos (starEach es X.env)).any (·.1) = false)
    (ht : eval (.Call (.Attribute o m apos) (e :: es) [] pos) X.env = (do
      let ov ← eval o X.env; standAt apos.atName; let (f, first) ← holding [ov] (getMethod ov m pl)
      callWith pos f first (backTo pos (starEach (e :: es) X.env)) (backToKw pos (keywordEach [] X.env)))) :
    PE X (.Call (.Attribute o m apos) (e :: es) [] pos) (tMethF C m sp E ta t) := by
  refine ⟨fun pins z σ H Q I h => PySem.W.methodCall_KW (pl := pl) (thn (he.run pins z σ H _ I h) fun u z1 ⟨x, H1, I1, rx, a, dx, fs, ex, ea, l, q⟩ => ?_) ht⟩
  subst ex
  obtain rfl : u = Value.ref a := rx
  refine getmeth_ok I1 ea c hm l (PySem.W.callWith_K (first := [.ref a]) (h₀ := X.base) I.ok.mod.kin hm.kp (thn (ha.run pos pins z1 σ H1 _ I1 q) fun us z2 ⟨vs, H2, I2, r, q2⟩ => ⟨I2.kIn, ?_⟩) hst hpl)
  exact runF (us := .ref a :: us) (vs := .ref a :: vs) F hr hb (hx σ) I2 (.cons rfl r) q2
theorem pe_methF0 {pl : Sem Bool} (he : PE X o ta) (c : Cls X.K C) (hm : Meth X.K C m f) (F : FnF X.prog X.w X.K X.mg X.base n f fd ps sp) (hr : Rm n X.A) (hb : Binds X.K fd ps []) (hx : ∀ σ, PassesAt (L2.CX X.prog X.w) X σ (E σ)) (ha : PA X [] t)
    (ht : eval (.Call (.Attribute o m apos) [] [] pos) X.env = (do
      let ov ← eval o X.env; standAt apos.atName; let (f, first) ← holding [ov] (getMethod ov m pl)
      callWith pos f first (backTo pos (starEach [] X.env)) (backToKw pos (keywordEach [] X.env)))) :
    PE X (.Call (.Attribute o m apos) [] [] pos) (tMethF C m sp E ta tNil) := by
  refine ⟨fun pins z σ H Q I h => PySem.W.methodCall_KW (pl := pl) (thn (he.run pins z σ H _ I h) fun u z1 ⟨x, H1, I1, rx, a, dx, fs, ex, ea, l, q⟩ => ?_) ht⟩
  subst ex
  obtain rfl : u = Value.ref a := rx
  exact getmeth_ok I1 ea c hm l (PySem.W.callWith_K0 (first := [.ref a]) I1.kIn hm.kp (runF (us := [.ref a]) (vs := [.ref a]) F hr hb (hx σ) I1 (.cons rfl .nil) q))
def tMakeF (C : Addr) (sp : Sp) (E : LSt → XK) (t : TA) : TE := fun σ H Q => t σ H fun vs H1 => ∀ x dx, H1 x = none → H1 dx = none → dx ≠ x →
  sp (.ref x :: vs) (upd (upd H1 dx (.own x)) x (.ins C dx [])) (fun v H2 => v = .non ∧ Q (.ref x) H2) (E σ)
theorem makeF {pins : List (Addr × Obj)} {σ : LSt} {H : Hp} {z : Shared} {Q : VK} {us : List Value} {vs : List V} (M : Mk X.K C f) (F : FnF X.prog X.w X.K X.mg X.base n f fd ps sp) (hr : Rm (n + 1) X.A) (hb : Binds X.K fd ps []) (hx : PassesAt (L2.CX X.prog X.w) X σ (E σ))
    (I : Inv X pins σ H z) (r : Vals vs us) (h : ∀ x dx, H x = none → H dx = none → dx ≠ x → sp (.ref x :: vs) (upd (upd H dx (.own x)) x (.ins C dx [])) (fun v H2 => v = .non ∧ Q (.ref x) H2) (E σ)) :
    wpAny (model X.prog X.w) X.A (call (.ref C) us) (EP X pins σ Q) X.xe z := by
  have hq := h (z.heap.objs.size + 1) z.heap.objs.size (I.hok.fresh (Nat.le_succ _)) (I.hok.fresh (Nat.le_refl _)) (Nat.ne_of_lt (Nat.lt_succ_self _))
  have J := Inv.made (C := C) I
  have r2 : Vals (V.ref (z.heap.objs.size + 1) :: vs) (Value.ref (z.heap.objs.size + 1) :: us) := .cons rfl r
  have hl : ((Value.ref (z.heap.objs.size + 1) :: us) ++ []).length = ps.length := by
    rw [List.append_nil, ← r2.length]; exact F.len _ _ _ _ hq
  have hb' := hb _ (Value.ref (z.heap.objs.size + 1) :: us) J.kIn hl
  rw [List.append_nil] at hb'
  refine wpAny_call (make_map (f := f) I.kIn M.makes M.init (beq_iff_eq.mp M.fn) (codeAny_mono (F.run _ X.stack _ _ ⟨Value.ref (z.heap.objs.size + 1) :: us, []⟩ _ _ _ (E σ) (hr.make C us) (J.env0.make C us []) hb' r2 hq) fun r z' hq' => ?_))
  cases r with
  | error e => exact hx pins _ _ e z' J hq'
  | ok fl =>
    cases fl with
    | ret u =>
      obtain ⟨v, H', I3, rv, ev, q3⟩ := J.after hq'
      subst ev
      exact ⟨rv, ⟨V.ref (z.heap.objs.size + 1), H', I3, rfl, q3⟩⟩
    | _ => exact hq'.elim
theorem pe_makeF (M : Mk X.K C f) (F : FnF X.prog X.w X.K X.mg X.base n f fd ps sp) (hr : Rm (n + 1) X.A) (hg : Gl X x) (hm : X.mg x = some (.ref C)) (hb : Binds X.K fd ps []) (hx : ∀ σ, PassesAt (L2.CX X.prog X.w) X σ (E σ))
    (ha : PA X (e :: es) t) (hdb : (x == ("__debug__" : Str)) = false) (he : starEach (e :: es) X.env = (false, eval e X.env) :: starEach es X.env) (hpl : (backTo pos (starEach es X.env)).any (·.1) = false) :
    PE X (.Call (.Name x p) (e :: es) [] pos) (tMakeF C sp E t) := by
  refine ⟨fun pins z σ H Q I h => wpAny_Call_Name_kw (ld_glob I hg hm ?_ hdb)⟩
  refine PySem.W.callWith_K (h₀ := X.base) I.ok.mod.kin M.kp (thn (ha.run pos pins z σ H _ I h) fun us z1 ⟨vs, H1, I1, r, q⟩ => ⟨I1.kIn, makeF M F hr hb (hx σ) I1 r q⟩) he hpl
end
/-! ### a new object of which the store knows nothing -/
theorem Sim.add {K : PySem.W.Frag} {cA : Nat → Addr} {nh : NestedKey → Int} {g : Gh} {S : Sto} {H : Hp} (s : Sim K cA nh g S H) {p : Addr} (o : HO) (h : H p = none) : Sim K cA nh g S (upd H p o) := by
  obtain ⟨h1, h2, h3⟩ := s.nowhere h
  refine ⟨fun a u e => ?_, fun a u e => ?_, s.len, s.nd, fun a ha => ?_, fun n a u e1 e2 e3 => ?_⟩
  · rw [upd_ne (ne_of_none e h1)]; exact s.sub a u e
  · obtain ⟨q1, q2, q3⟩ := s.frs a u e
    exact ⟨by rw [upd_ne (ne_of_none e h2)]; exact q1, q2, q3⟩
  · obtain ⟨ho, e⟩ := s.ex a ha
    exact ⟨ho, by rw [upd_ne (ne_of_none e h)]; exact e⟩
  · obtain ⟨q1, ho, q2, q3⟩ := s.obj n a u e1 e2 e3
    exact ⟨q1, ho, by rw [upd_ne (ne_of_none q2 h)]; exact q2, q3⟩
end CT

end
section
set_option maxHeartbeats 4000000
/-! callturn proofs, part rb: fields, methods, making; max, min, sorted, index -/
namespace CT
open PySem PySem.Spec PyProof.Rows L2
section
variable {K : PySem.W.Frag} {g : Gh}
theorem fd_look {f : Str} : ∀ {fs : List Str} {xs : List V} {ds : List D} {d : D}, fs.length = xs.length → RDs K g xs ds → fdget fs ds f = some d → ∃ v, (fs.zip xs).lookup f = some v ∧ RD K g v d
  | [], _, _, _, _, _, h => by simp [fdget] at h
  | _ :: _, [], _, _, h, _, _ => by simp at h
  | k :: fs, x :: xs, _, _, hl, .cons r rs, h => by
    rw [List.zip_cons_cons, List.lookup_cons]
    by_cases e : k = f
    · subst e
      simp only [fdget, if_true, Option.some.injEq] at h
      subst h
      exact ⟨x, by simp, r⟩
    · have e' : (f == k) = false := by simpa using fun z : f = k => e z.symm
      simp only [fdget, e, if_false] at h
      rw [e']
      exact fd_look (by simpa using hl) rs h
theorem fd_none {f : Str} : ∀ {fs : List Str} {xs : List V}, fs.contains f = false → (fs.zip xs).lookup f = none
  | [], _, _ => by simp
  | _ :: _, [], _ => by simp
  | k :: fs, x :: xs, h => by
    rw [List.contains_cons, Bool.or_eq_false_iff] at h
    rw [List.zip_cons_cons, List.lookup_cons, h.1]
    exact fd_none h.2
theorem fd_put {f : Str} {v : V} {d : D} (r : RD K g v d) : ∀ {fs : List Str} {xs : List V} {ds : List D}, fs.length = xs.length → RDs K g xs ds →
    ∃ ys, putF f v (fs.zip xs) = (fdput fs ds f d).1.zip ys ∧ (fdput fs ds f d).1.length = ys.length ∧ RDs K g ys (fdput fs ds f d).2
  | [], [], _, _, .nil => ⟨[v], by simp [fdput, putF], by simp [fdput], by simp only [fdput]; exact .cons r .nil⟩
  | [], _ :: _, _, h, _ => by simp at h
  | _ :: _, [], _, h, _ => by simp at h
  | k :: fs, x :: xs, _, hl, .cons r1 rs => by
    by_cases e : k = f
    · refine ⟨v :: xs, ?_, ?_, ?_⟩
      · simp [fdput, e, putF]
      · simp only [fdput, e, if_true]; simpa using hl
      · simp only [fdput, e, if_true]; exact .cons r rs
    · obtain ⟨ys, e1, e2, e3⟩ := fd_put (f := f) r (fs := fs) (xs := xs) (by simpa using hl) rs
      refine ⟨x :: ys, ?_, ?_, ?_⟩
      · simp [fdput, e, putF, e1]
      · simp only [fdput, e, if_false, List.length_cons]; rw [e2]
      · simp only [fdput, e, if_false]; exact .cons r1 e3
end
section
variable {T : Tb} {W : WX} {X : Cx} {C : Cal}
theorem insAt_ok {g : Gh} {S : Sto} {H : Hp} {x : V} {d : D} {n c : Nat} {fs : List Str} {ds : List D} (s : T.Sim g S H) (r : T.RD g x d) (h : insAt S d = some (n, c, fs, ds)) :
    ∃ a dx xs, d = .loc n ∧ x = .ref a ∧ g.ρ[n]? = some a ∧ S[n]? = some (.ins c fs ds) ∧ H a = some (.ins (T.cA c) dx (fs.zip xs)) ∧ fs.length = xs.length ∧ T.RDs g xs ds := by
  cases r with
  | @loc a m q =>
    simp only [insAt] at h
    cases hS : S[m]? with
    | none => rw [hS] at h; cases h
    | some o =>
      rw [hS] at h
      cases o with
      | ins c' fs' es =>
        simp only [Option.some.injEq, Prod.mk.injEq] at h
        obtain ⟨rfl, rfl, rfl, rfl⟩ := h
        obtain ⟨_, ho, y2, y3⟩ := s.obj m _ _ q hS (by simp)
        cases y3 with
        | ins l rs => exact ⟨a, _, _, rfl, rfl, q, hS, y2, l, rs⟩
      | _ => cases h
  | _ => cases h
theorem s_attr {a : E} {f : Str} {x : Expr} {pos : Pos} (hc : ∀ c, Cls X.K (T.cA c)) (hn : ∀ c, NoAttr X.K (T.cA c) f) (ha : PE X x (tI T W (ev C a))) (hb : attributeBase x f X.env (eval x X.env) = eval x X.env) : PE X (.Attribute x f pos) (tI T W (ev C (.attr a f))) := by
  refine PE.imp (pe_fld ha hb) fun σ H Q ⟨g, S, e, s, r, q⟩ => ?_
  simp only [ev] at q
  refine ⟨g, S, e, s, r, (GoR.bind q).imp fun g1 H1 v d S1 l1 s1 rd _ q1 => ?_⟩
  obtain ⟨p, hp, q1⟩ := orNo_ok q1
  obtain ⟨dd, hd, q2⟩ := orNo_ok q1
  obtain ⟨n, c, fs, ds⟩ := p
  obtain ⟨a1, dx, xs, _, rfl, hρ, hS, h1, hl, rs⟩ := insAt_ok s1 rd hp
  obtain ⟨u, hu, ru⟩ := fd_look hl rs hd
  exact ⟨a1, _, dx, _, u, rfl, h1, hc c, hn c, hu, q2.now s1 ru⟩
theorem s_meth {i c n : Nat} {m : Str} {a : E} {as : List E} {o y : Expr} {ys : List Expr} {apos pos : Pos} {f : Addr} {fd : FuncData} {ps : List Str} {pl : Sem Bool} (hc : Cls X.K (T.cA c)) (hm : Meth X.K (T.cA c) m f)
    (F : FnF X.prog X.w X.K X.mg X.base n f fd ps (fun vs H Q E => ∃ g S ds, T.Sim g S H ∧ T.RDs g vs ds ∧ GoR T T.RD (fun cls d _ H => E cls d H) g [] (C.fn i ds S) fun _ H' v _ _ => Q v H')) (hr : Rm n X.A) (hb : Binds X.K fd ps []) (hx : ∀ σ, PassesAt (L2.CX X.prog X.w) X σ (fun cls d H => W cls d σ H))
    (ho : PE X o (tI T W (ev C a))) (ha : PA X (y :: ys) (tIs T W (evs C as))) (hst : starEach (y :: ys) X.env = (false, eval y X.env) :: starEach ys X.env) (hpl : (backTo pos (starEach ys X.env)).any (·.1) = false)
    (ht : eval (.Call (.Attribute o m apos) (y :: ys) [] pos) X.env = (do
      let ov ← eval o X.env; standAt apos.atName; let (f, first) ← holding [ov] (getMethod ov m pl)
      callWith pos f first (backTo pos (starEach (y :: ys) X.env)) (backToKw pos (keywordEach [] X.env)))) :
    PE X (.Call (.Attribute o m apos) (y :: ys) [] pos) (tI T W (ev C (.meth i c m a as))) := by
  refine PE.imp (pe_methF (E := fun σ cls d H => W cls d σ H) ho hc hm F hr hb hx ha hst hpl ht) fun σ H Q ⟨g, S, e, s, r, q⟩ => ?_
  simp only [ev] at q
  refine ⟨g, S, e, s, r, (GoR.bind q).imp fun g1 H1 v d S1 l1 s1 rd _ q1 => ?_⟩
  obtain ⟨p, hp, q1⟩ := orNo_ok q1
  obtain ⟨hcc, q2⟩ := ite_ok q1
  obtain ⟨n', c', fs, ds⟩ := p
  obtain ⟨hc1, hc2⟩ := Bool.and_eq_true_iff.mp hcc
  have ec : c' = c := by simpa using hc1
  subst ec
  obtain ⟨a1, dx, xs, _, rfl, hρ, hS, h1, hl, rs⟩ := insAt_ok s1 rd hp
  refine ⟨a1, dx, _, rfl, h1, fd_none (by simpa using hc2), g1, S1, e, s1, r.mono l1, (GoR.bind q2).imp fun g2 H2 vs es S2 l2 s2 rds _ q3 => ?_⟩
  refine ⟨g2, S2, d :: es, s2, .cons (RD.mono T.K l2 rd) rds, ?_⟩
  revert q3
  cases C.fn i (d :: es) S2 <;> exact fun q => q
theorem s_meth0 {i c n : Nat} {m : Str} {a : E} {o : Expr} {apos pos : Pos} {f : Addr} {fd : FuncData} {ps : List Str} {pl : Sem Bool} (hc : Cls X.K (T.cA c)) (hm : Meth X.K (T.cA c) m f)
    (F : FnF X.prog X.w X.K X.mg X.base n f fd ps (fun vs H Q E => ∃ g S ds, T.Sim g S H ∧ T.RDs g vs ds ∧ GoR T T.RD (fun cls d _ H => E cls d H) g [] (C.fn i ds S) fun _ H' v _ _ => Q v H')) (hr : Rm n X.A) (hb : Binds X.K fd ps []) (hx : ∀ σ, PassesAt (L2.CX X.prog X.w) X σ (fun cls d H => W cls d σ H))
    (ho : PE X o (tI T W (ev C a)))
    (ht : eval (.Call (.Attribute o m apos) [] [] pos) X.env = (do
      let ov ← eval o X.env; standAt apos.atName; let (f, first) ← holding [ov] (getMethod ov m pl)
      callWith pos f first (backTo pos (starEach [] X.env)) (backToKw pos (keywordEach [] X.env)))) :
    PE X (.Call (.Attribute o m apos) [] [] pos) (tI T W (ev C (.meth i c m a []))) := by
  refine PE.imp (pe_methF0 (E := fun σ cls d H => W cls d σ H) ho hc hm F hr hb hx pa_nil ht) fun σ H Q ⟨g, S, e, s, r, q⟩ => ?_
  simp only [ev, evs, CT.R.bind] at q
  refine ⟨g, S, e, s, r, (GoR.bind q).imp fun g1 H1 v d S1 l1 s1 rd _ q1 => ?_⟩
  obtain ⟨p, hp, q1⟩ := orNo_ok q1
  obtain ⟨hcc, q2⟩ := ite_ok q1
  obtain ⟨n', c', fs, ds⟩ := p
  obtain ⟨hc1, hc2⟩ := Bool.and_eq_true_iff.mp hcc
  have ec : c' = c := by simpa using hc1
  subst ec
  obtain ⟨a1, dx, xs, _, rfl, hρ, hS, h1, hl, rs⟩ := insAt_ok s1 rd hp
  refine ⟨a1, dx, _, rfl, h1, fd_none (by simpa using hc2), g1, S1, [d], s1, .cons rd .nil, ?_⟩
  revert q2
  cases C.fn i [d] S1 <;> exact fun q => q
/-- how an object is made -/
def mkRun (C' : Cal) (i c : Nat) (ds : List D) (S : Sto) : R D :=
  match C'.fn i (.loc S.length :: ds) (S ++ [.ins c [] []]) with
  | .ok .non S' => .ok (.loc S.length) S'
  | .ok _ _ => .no
  | .ex c S' => .ex c S'
  | .no => .no
theorem s_make {i c n : Nat} {C' : Cal} {as : List E} {x : Str} {y : Expr} {ys : List Expr} {p pos : Pos} {f : Addr} {fd : FuncData} {ps : List Str} (hC : ∀ ds S, C.mak c ds S = mkRun C' i c ds S) (M : Mk X.K (T.cA c) f)
    (F : FnF X.prog X.w X.K X.mg X.base n f fd ps (fun vs H Q E => ∃ g S ds, T.Sim g S H ∧ T.RDs g vs ds ∧ GoR T T.RD (fun cls d _ H => E cls d H) g [] (C'.fn i ds S) fun _ H' v _ _ => Q v H')) (hr : Rm (n + 1) X.A) (hb : Binds X.K fd ps []) (hx : ∀ σ, PassesAt (L2.CX X.prog X.w) X σ (fun cls d H => W cls d σ H))
    (hg : Gl X x) (hm : X.mg x = some (.ref (T.cA c))) (ha : PA X (y :: ys) (tIs T W (evs C as))) (hdb : (x == ("__debug__" : Str)) = false) (hst : starEach (y :: ys) X.env = (false, eval y X.env) :: starEach ys X.env) (hpl : (backTo pos (starEach ys X.env)).any (·.1) = false) :
    PE X (.Call (.Name x p) (y :: ys) [] pos) (tI T W (ev C (.make c as))) := by
  refine PE.imp (pe_makeF (E := fun σ cls d H => W cls d σ H) M F hr hg hm hb hx ha hdb hst hpl) fun σ H Q ⟨g, S, e, s, r, q⟩ => ?_
  simp only [ev] at q
  refine ⟨g, S, e, s, r, (GoR.bind q).imp fun g1 H1 vs ds S1 l1 s1 rds _ q1 => ?_⟩
  intro z dz hz hdz hne
  rw [hC] at q1
  have sa := s1.add (.own z) hdz
  have hz' : upd H1 dz (.own z) z = none := by rw [upd_ne (Ne.symm hne)]; exact hz
  obtain ⟨s2, l2, hat⟩ := sa.lay (ho := .ins (T.cA c) dz []) (o := .ins c [] []) hz' (ObR.ins (fs := []) (xs := []) (ds := []) rfl .nil)
  refine ⟨_, S1 ++ [.ins c [] []], .loc S1.length :: ds, s2, .cons (.loc hat) (RDs.mono T.K l2 rds), ?_⟩
  unfold mkRun at q1
  cases hv : C'.fn i (.loc S1.length :: ds) (S1 ++ [.ins c [] []]) with
  | no => rw [hv] at q1; exact q1
  | ex k S' => rw [hv] at q1; exact fun g' H' l' s' => q1 g' H' (l2.trans l') s'
  | ok d S' =>
    rw [hv] at q1
    intro g' H' v l' s' rd
    cases d with
    | non =>
      cases rd
      exact ⟨rfl, q1 g' H' (.ref z) (l2.trans l') s' (.loc (l'.at hat))⟩
    | _ => exact q1.elim
/-! ### max, min of two -/
theorem s_max2 {a b : E} {x y : Expr} {p pos : Pos} (hc : X.calm = true) (hg : Gl X "max") (hm : X.mg "max" = none) (ha : PE X x (tI T W (ev C a))) (hb : PE X y (tI T W (ev C b)))
    (h1 : starEach [x, y] X.env = (false, eval x X.env) :: starEach [y] X.env) (h2 : starEach [y] X.env = (false, eval y X.env) :: starEach [] X.env) : PE X (.Call (.Name "max" p) [x, y] [] pos) (tI T W (ev C (.max2 a b))) := by
  refine PE.imp (pe_callB (call_max2 hc) hg hm (by decide +kernel) (pa_cons ha (pa_cons hb pa_nil h2) h1) (he := h1) (hpl := by rw [h2]; rfl)) fun σ H Q ⟨g, S, e, s, r, q⟩ => ?_
  simp only [ev] at q
  refine ⟨g, S, e, s, r, (GoR.bind q).imp fun g1 H1 v d S1 l1 s1 rd _ q1 => ⟨g1, S1, e, s1, r.mono l1, (GoR.bind q1).imp fun g2 H2 u d2 S2 l2 s2 rd2 _ q2 => ?_⟩⟩
  obtain ⟨i, hi, q3⟩ := orNo_ok q2
  obtain ⟨j, hj, q4⟩ := orNo_ok q3
  obtain ⟨rfl, _⟩ := int?_ok rd hi
  obtain ⟨rfl, _⟩ := int?_ok rd2 hj
  exact ⟨i, j, rfl, q4.now s2 (.int _)⟩
theorem s_min2 {a b : E} {x y : Expr} {p pos : Pos} (hc : X.calm = true) (hg : Gl X "min") (hm : X.mg "min" = none) (ha : PE X x (tI T W (ev C a))) (hb : PE X y (tI T W (ev C b)))
    (h1 : starEach [x, y] X.env = (false, eval x X.env) :: starEach [y] X.env) (h2 : starEach [y] X.env = (false, eval y X.env) :: starEach [] X.env) : PE X (.Call (.Name "min" p) [x, y] [] pos) (tI T W (ev C (.min2 a b))) := by
  refine PE.imp (pe_callB (call_min2 hc) hg hm (by decide +kernel) (pa_cons ha (pa_cons hb pa_nil h2) h1) (he := h1) (hpl := by rw [h2]; rfl)) fun σ H Q ⟨g, S, e, s, r, q⟩ => ?_
  simp only [ev] at q
  refine ⟨g, S, e, s, r, (GoR.bind q).imp fun g1 H1 v d S1 l1 s1 rd _ q1 => ⟨g1, S1, e, s1, r.mono l1, (GoR.bind q1).imp fun g2 H2 u d2 S2 l2 s2 rd2 _ q2 => ?_⟩⟩
  obtain ⟨i, hi, q3⟩ := orNo_ok q2
  obtain ⟨j, hj, q4⟩ := orNo_ok q3
  obtain ⟨rfl, _⟩ := int?_ok rd hi
  obtain ⟨rfl, _⟩ := int?_ok rd2 hj
  exact ⟨i, j, rfl, q4.now s2 (.int _)⟩
end
end CT

end
section
set_option maxHeartbeats 4000000
/-! callturn proofs, part rc: methods' texts; sorted, min, index, tables of the module -/
namespace CT
open PySem PySem.Spec PyProof.Rows L2
theorem meth_eq {o : Expr} {m : Str} {apos pos : Pos} {args : List Expr} {env : Env} (h1 : attributeBase o m env (eval o env) = eval o env)
    (hfew : methodCallForm (args.length + ([] : List Keyword).length) (backTo pos (starEach args env)) (backToKw pos (keywordEach [] env)) = true) (hl : (apos.endLine == pos.line) = true) :
    eval (.Call (.Attribute o m apos) args [] pos) env = (do
      let ov ← eval o env; standAt apos.atName; let (f, first) ← holding [ov] (getMethod ov m (do return (← importBound o env).getD true))
      callWith pos f first (backTo pos (starEach args env)) (backToKw pos (keywordEach [] env))) := by
  have e : eval (.Call (.Attribute o m apos) args [] pos) env = (do
    let ov ← attributeBase o m env (eval o env)
    standAt apos.atName
    methodCall o m apos pos env ov (args.length + ([] : List Keyword).length) (backTo pos (starEach args env)) (backToKw pos (keywordEach [] env))) := rfl
  rw [e, h1]
  unfold methodCall methodCallPos calleeOf
  simp only [hfew, hl, Bool.or_true, if_true, Bool.not_true, pure_bind]
/-! ### rows of texts in order -/
theorem cps_anti : ∀ a b : List Nat, ltCps a b = false → ltCps b a = false → a = b
  | [], [], _, _ => rfl
  | [], _ :: _, h, _ => by simp [ltCps] at h
  | _ :: _, [], _, h => by simp [ltCps] at h
  | a :: r, b :: t, h1, h2 => by
    simp only [ltCps, Bool.or_eq_false_iff, decide_eq_false_iff_not] at h1 h2
    have e : a = b := by omega
    subst e
    have e2 : (a == a) = true := by simp
    rw [e2] at h1 h2
    rw [cps_anti r t (by simpa using h1.2) (by simpa using h2.2)]
theorem cps_trans : ∀ a b c : List Nat, ltCps b a = false → ltCps c b = false → ltCps c a = false
  | [], _, [], _, _ => by simp [ltCps]
  | _ :: _, _, [], h1, h2 => by
    rename_i b
    cases b with
    | nil => simp [ltCps] at h1
    | cons x y => simp [ltCps] at h2
  | [], _, _ :: _, _, _ => by simp [ltCps]
  | a :: r, b, c :: t, h1, h2 => by
    cases b with
    | nil => simp [ltCps] at h1
    | cons x y =>
      simp only [ltCps, Bool.or_eq_false_iff, decide_eq_false_iff_not, Bool.and_eq_false_iff] at h1 h2 ⊢
      refine ⟨by omega, ?_⟩
      by_cases e : c = a
      · subst e
        have ex : x = c := by omega
        subst ex
        right
        have e2 : (x == x) = true := by simp
        rw [e2] at h1 h2
        exact cps_trans r y t (by simpa using h1.2) (by simpa using h2.2)
      · left; simpa using e
abbrev leS (a b : Str) : Prop := ltCps b.cps.toList a.cps.toList = false
theorem leS_anti {a b : Str} (h1 : leS a b) (h2 : leS b a) : a = b := by
  have := cps_anti _ _ h2 h1
  cases a; cases b
  simp only [Str.mk.injEq]
  exact Array.toList_inj.mp this
theorem rising_pw : ∀ (l : List Str) (p : Str), risingS p l = true → (p :: l).Pairwise leS
  | [], p, _ => by simp
  | x :: r, p, h => by
    simp only [risingS, Bool.and_eq_true, Bool.not_eq_true'] at h
    have ih := rising_pw r x h.2
    refine List.pairwise_cons.mpr ⟨fun y hy => ?_, ih⟩
    rcases List.mem_cons.mp hy with rfl | hy
    · exact h.1
    · exact cps_trans _ _ _ h.1 ((List.pairwise_cons.mp ih).1 y hy)
theorem sorted_pw : ∀ (l : List Str), sortedS l = true → l.Pairwise leS
  | [], _ => List.Pairwise.nil
  | x :: r, h => rising_pw r x h
theorem ins1_perm (a : Str) : ∀ l : List Str, (ins1 a l).Perm (a :: l)
  | [] => .refl _
  | b :: r => by
    unfold ins1
    split
    · exact ((ins1_perm a r).cons b).trans (.swap a b r)
    · exact .refl _
theorem sortS_perm : ∀ l : List Str, (sortS l).Perm l
  | [] => .refl _
  | a :: r => (ins1_perm a (sortS r)).trans ((sortS_perm r).cons a)
theorem slt_cps (a b : Str) : slt a b = ltCps a.cps.toList b.cps.toList := by unfold slt; rw [ltCps_eq]
theorem cps_total : ∀ a b : List Nat, ltCps a b = true → ltCps b a = false
  | [], [], h => by simp [ltCps] at h
  | [], _ :: _, _ => by simp [ltCps]
  | _ :: _, [], h => by simp [ltCps] at h
  | a :: r, b :: t, h => by
    simp only [ltCps, Bool.or_eq_true, decide_eq_true_eq, Bool.and_eq_true, beq_iff_eq, Bool.or_eq_false_iff, decide_eq_false_iff_not, Bool.and_eq_false_iff] at h ⊢
    rcases h with h | ⟨rfl, h⟩
    · exact ⟨by omega, .inl (by simp; omega)⟩
    · exact ⟨by omega, .inr (cps_total r t h)⟩
theorem ins1_pw (a : Str) : ∀ l : List Str, l.Pairwise leS → (ins1 a l).Pairwise leS
  | [], _ => by simp [ins1]
  | b :: r, h => by
    unfold ins1
    obtain ⟨h1, h2⟩ := List.pairwise_cons.mp h
    split
    · rename_i hlt
      refine List.pairwise_cons.mpr ⟨fun y hy => ?_, ins1_pw a r h2⟩
      rcases List.mem_cons.mp ((ins1_perm a r).mem_iff.mp hy) with rfl | hy
      · rw [slt_cps] at hlt; exact cps_total _ _ hlt
      · exact h1 y hy
    · rename_i hlt
      rw [slt_cps] at hlt
      have hab : leS a b := by simpa using hlt
      refine List.pairwise_cons.mpr ⟨fun y hy => ?_, h⟩
      rcases List.mem_cons.mp hy with rfl | hy
      · exact hab
      · exact cps_trans _ _ _ hab (h1 y hy)
theorem sortS_pw : ∀ l : List Str, (sortS l).Pairwise leS
  | [] => List.Pairwise.nil
  | a :: r => ins1_pw a _ (sortS_pw r)
theorem sortS_uniq {l ys : List Str} (h1 : ys.Perm l) (h2 : sortedS ys = true) : ys = sortS l :=
  (h1.trans (sortS_perm l).symm).eq_of_pairwise (fun _ _ _ _ a b => leS_anti a b) (sorted_pw ys h2) (sortS_pw l)
theorem insI_perm (a : Int) : ∀ l : List Int, (insI a l).Perm (a :: l)
  | [] => .refl _
  | b :: r => by
    unfold insI
    split
    · exact ((insI_perm a r).cons b).trans (.swap a b r)
    · exact .refl _
theorem sortI_perm : ∀ l : List Int, (sortI l).Perm l
  | [] => .refl _
  | a :: r => (insI_perm a (sortI r)).trans ((sortI_perm r).cons a)
theorem insI_pw (a : Int) : ∀ l : List Int, l.Pairwise (· ≤ ·) → (insI a l).Pairwise (· ≤ ·)
  | [], _ => by simp [insI]
  | b :: r, h => by
    unfold insI
    obtain ⟨h1, h2⟩ := List.pairwise_cons.mp h
    split
    · refine List.pairwise_cons.mpr ⟨fun y hy => ?_, insI_pw a r h2⟩
      rcases List.mem_cons.mp ((insI_perm a r).mem_iff.mp hy) with rfl | hy
      · omega
      · exact h1 y hy
    · refine List.pairwise_cons.mpr ⟨fun y hy => ?_, h⟩
      rcases List.mem_cons.mp hy with rfl | hy
      · omega
      · have := h1 y hy; omega
theorem sortI_pw : ∀ l : List Int, (sortI l).Pairwise (· ≤ ·)
  | [] => List.Pairwise.nil
  | a :: r => insI_pw a _ (sortI_pw r)
theorem sortI_uniq {l ys : List Int} (h1 : ys.Perm l) (h2 : ys.Pairwise (· ≤ ·)) : ys = sortI l :=
  (h1.trans (sortI_perm l).symm).eq_of_pairwise (fun _ _ _ _ a b => Int.le_antisymm a b) h2 (sortI_pw l)
section
variable {T : Tb} {W : WX} {X : Cx} {C : Cal}
theorem keys_strs : ∀ {ks : List Key} {ss : List Str}, strsOf (ks.map ofKey) = some ss → ks = ss.map Sum.inr
  | [], ss, h => by simp [strsOf] at h; subst h; rfl
  | .inl i :: r, ss, h => by simp [ofKey, strsOf] at h
  | .inr x :: r, ss, h => by
    simp only [List.map_cons, ofKey, strsOf, Option.map_eq_some_iff] at h
    obtain ⟨t, h1, rfl⟩ := h
    rw [keys_strs h1]; rfl
theorem zip_keys {ks : List Key} {xs : List V} (h : ks.length = xs.length) : (ks.zip xs).map (·.1) = ks := by
  rw [List.map_fst_zip (by omega)]
theorem minL_mem : ∀ l : List Int, l ≠ [] → minL l ∈ l
  | [], h => absurd rfl h
  | [a], _ => by simp [minL]
  | a :: b :: r, _ => by
    have := minL_mem (b :: r) (by simp)
    unfold minL
    split
    · exact List.mem_cons_of_mem _ this
    · simp
theorem minL_le : ∀ (l : List Int) (y : Int), y ∈ l → minL l ≤ y
  | [], _, h => by simp at h
  | [a], y, h => by simp at h; subst h; simp [minL]
  | a :: b :: r, y, h => by
    unfold minL
    rcases List.mem_cons.mp h with rfl | h
    · split <;> omega
    · have := minL_le (b :: r) y h
      split <;> omega
theorem c_min (hK : X.K = T.K) (hc : X.calm = true) (m : Bool) : CallR X (.builtin "min") (rCall1 T W (b1 .min m)) := by
  have c1 : CallR X (.builtin "min") (rMin T.K) := hK ▸ cr_min hc
  refine CallR.imp c1 fun xs H Q ⟨x, ex, g, S, d, σ', sm, rd, q⟩ => ?_
  subst ex
  simp only [b1] at q
  obtain ⟨p, ys, ds, ns, rfl, h1, rs, hf, q'⟩ := asM_via (f := intsOf) (k := fun ns => if decide (0 < ns.length) = true then R.ok (.int (minL ns)) S else .no) sm rd q
  obtain ⟨hl, q2⟩ := ite_ok q'
  obtain rfl := rs.ints hf
  have hp := of_decide_eq_true hl
  have hne : ns ≠ [] := List.length_pos_iff.mp hp
  refine ⟨p, ns, rfl, SqL.of h1, hp, fun n h2 h3 => ?_⟩
  have e : n = minL ns := Int.le_antisymm (h3 _ (minL_mem ns hne)) (minL_le ns n h2)
  rw [e]; exact q2.now sm (.int _)
/-! ### the place of a text in a row -/
theorem idx_first {z : Str} : ∀ {ss : List Str}, ss.contains z = true → ss[ss.idxOf z]? = some z ∧ ∀ m, m < ss.idxOf z → ss[m]? ≠ some z
  | [], h => by simp at h
  | a :: r, h => by
    rw [List.idxOf_cons]
    by_cases e : a = z
    · subst e
      simp
    · have e' : (a == z) = false := by simpa using e
      have hr : r.contains z = true := by
        rw [List.contains_cons] at h
        have : (z == a) = false := by simpa using fun q : z = a => e q.symm
        rw [this] at h; simpa using h
      obtain ⟨h1, h2⟩ := idx_first hr
      simp only [e', cond_false]
      refine ⟨by simpa using h1, fun m hm => ?_⟩
      cases m with
      | zero => simp; exact e
      | succ m => simpa using h2 m (by omega)
theorem s_index (hK : X.K = T.K) {a b : E} {o y : Expr} {apos cpos : Pos} (ho : PE X o (tI T W (ev C a))) (hb : PE X y (tI T W (ev C b))) (m : Bm X o "index" apos cpos y []) : PE X (.Call (.Attribute o "index" apos) [y] [] cpos) (tI T W (ev C (.index a b))) := by
  have pb := pe_bm PySem.F.plainAttrs_list PySem.F.slot_list_index PySem.F.type_list_index mt_index ho (pa_cons hb pa_nil m.hs) m.base m.few m.line m.hs m.plain
  rw [hK] at pb
  refine PE.imp pb fun σ H Q ⟨g, S, e, s, r, q⟩ => ?_
  simp only [ev] at q
  refine ⟨g, S, e, s, r, (GoR.bind q).imp fun g1 H1 v d S1 l1 s1 rd _ q1 => ?_⟩
  obtain ⟨p, hp, q1⟩ := orNo_ok q1
  obtain ⟨a1, xs1, rfl, h1, _⟩ := asL_ok s1 rd hp
  refine ⟨.inl ⟨rfl, xs1, h1⟩, g1, S1, e, s1, r.mono l1, (GoR.bind q1).imp fun g2 H2 u d2 S2 l2 s2 rd2 _ q2 => ?_⟩
  obtain ⟨ss, hss, q3⟩ := orNo_ok q2
  obtain ⟨z, hz, q4⟩ := orNo_ok q3
  obtain ⟨hc, q5⟩ := ite_ok q4
  obtain ⟨rfl, _⟩ := str?_ok rd2 hz
  cases e2 : asL S2 d with
  | none => rw [e2] at hss; cases hss
  | some zs =>
    rw [e2] at hss
    obtain ⟨a2, xs, e3, h2, rs⟩ := asL_ok s2 (RD.mono T.K l2 rd) e2
    cases e3
    obtain rfl := rs.strs (ns := ss) hss
    obtain ⟨i1, i2⟩ := idx_first hc
    refine ⟨_, ss.map V.str, .str z, ss.idxOf z, .str z, rfl, rfl, h2, rfl, ?_, by rw [List.getElem?_map, i1]; rfl, by simp [L2.eqV], fun k z' hk hz' => ?_, q5.now s2 (.int _)⟩
    · rw [List.all_map, List.all_eq_true]; intro _ _; rfl
    · rw [List.getElem?_map] at hz'
      cases e4 : ss[k]? with
      | none => rw [e4] at hz'; cases hz'
      | some y =>
        rw [e4] at hz'
        cases hz'
        have : y ≠ z := fun h => i2 k hk (h ▸ e4)
        simp [L2.eqV, this]
/-! ### a table of the module, read -/
theorem s_gsub {ks : List Key} {ds : List D} {b : E} {x : Str} {y : Expr} {p pos : Pos} {t : Addr} {es : Array DictEntry} {n : Nat} (D : KDict X.K X.w t es n) (hv : ∀ z d, dget ks ds (.inr z) = some d → ∃ u v, PySem.W.nsIn X.K t z = some (some u) ∧ RelV v u ∧ ∀ g, T.RD g v d)
    (hg : Gl X x) (hm : X.mg x = some (.ref t)) (hd : (x == ("__debug__" : Str)) = false) (hb : PE X y (tI T W (ev C b))) (hp : PlainIx y) : PE X (.Subscript (.Name x p) y pos) (tI T W (ev C (.gsub ks ds b))) := by
  have ix : IxR X (fun a b H Q => ∃ (z : Str) (u0 : Value) (v0 : V), a = .ref t ∧ b = .str z ∧ PySem.W.nsIn X.K t z = some (some u0) ∧ RelV v0 u0 ∧ Q v0 H) := by
    intro value slice pins s σ H a b v u Q I ra rb h hs
    have h0 := h
    obtain ⟨z, u0, v0, rfl, rfl, e, rv, q⟩ := h
    have hT := kd_type D I
    have eo := op_item_kd D pins s σ H _ _ v u Q I ra rb h0
    cases ra
    have go : wpAny (model X.prog X.w) X.A (subscripted slice false (.ref t) u)
        (fun r s3 => wpAny (model X.prog X.w) X.A (letTemporaryGo value (.ref t) r >>= fun _ => pure r) (EP X pins σ Q) X.xe s3) X.xe s := by
      rw [hs]
      exact wpAny_operating (wpAny_mono eo (fun r s3 h3 => wpAny_bind (wpAny_letTemporaryGo (wpAny_pure h3))) fun _ _ q => q)
    unfold subscriptTail
    refine wpAny_bind ?_
    rw [getitemInPython_of_ne hT.not_modules]
    refine wpAny_bind (wpAny_specialOf hT PySem.F.slot_dict_getitem.lookup ?_)
    first
      | exact wpAny_pure (wpAny_bind go)
      | exact wpAny_bind (wpAny_pure (wpAny_bind go))
      | exact wpAny_bind go
  refine PE.imp (pe_ix ix (pe_glob (v := .ref t) hg hm rfl hd) hb hp) fun σ H Q ⟨g, S, e, s, r, q⟩ => ?_
  simp only [ev] at q
  refine ⟨g, S, e, s, r, (GoR.bind q).imp fun g1 H1 v d S1 l1 s1 rd _ q1 => ?_⟩
  obtain ⟨z, hz, q2⟩ := orNo_ok q1
  obtain ⟨dd, hdd, q3⟩ := orNo_ok q2
  obtain ⟨rfl, _⟩ := str?_ok rd hz
  obtain ⟨u, w, h1, h2, h3⟩ := hv z dd hdd
  exact ⟨z, u, w, rfl, rfl, h1, h2, q3.now s1 (h3 g1)⟩
end
end CT

end
section
set_option maxHeartbeats 4000000
/-! callturn proofs, part rt: tuples of texts in order; sets of texts in order -/
namespace CT
open PySem PySem.Spec PyProof.Rows L2
theorem slt_irr (a : Str) : slt a a = false := by
  rw [slt_cps]
  cases h : ltCps a.cps.toList a.cps.toList with
  | false => rfl
  | true => rw [cps_total _ _ h] at h; cases h
theorem slt_tot {a b : Str} (h : slt a b = true) : slt b a = false := by
  rw [slt_cps] at h ⊢; exact cps_total _ _ h
theorem slt_anti {a b : Str} (h1 : slt a b = false) (h2 : slt b a = false) : a = b := by
  rw [slt_cps] at h1 h2; exact leS_anti h2 h1
theorem slt_tr {a b c : Str} (h1 : slt b a = false) (h2 : slt c b = false) : slt c a = false := by
  rw [slt_cps] at h1 h2 ⊢; exact cps_trans _ _ _ h1 h2
theorem ltT_total : ∀ a b : List Str, ltT a b = true → ltT b a = false
  | [], [], h => by simp [ltT] at h
  | [], _ :: _, _ => by simp [ltT]
  | _ :: _, [], h => by simp [ltT] at h
  | a :: x, b :: y, h => by
    simp only [ltT, Bool.or_eq_true, Bool.and_eq_true, decide_eq_true_eq] at h
    simp only [ltT, Bool.or_eq_false_iff, Bool.and_eq_false_iff, decide_eq_false_iff_not]
    rcases h with h | ⟨rfl, h⟩
    · refine ⟨slt_tot h, .inl fun e => ?_⟩
      subst e
      rw [slt_irr] at h; cases h
    · exact ⟨slt_irr _, .inr (ltT_total x y h)⟩
theorem ltT_anti : ∀ a b : List Str, ltT a b = false → ltT b a = false → a = b
  | [], [], _, _ => rfl
  | [], _ :: _, h, _ => by simp [ltT] at h
  | _ :: _, [], _, h => by simp [ltT] at h
  | a :: x, b :: y, h1, h2 => by
    simp only [ltT, Bool.or_eq_false_iff, Bool.and_eq_false_iff, decide_eq_false_iff_not] at h1 h2
    have e := slt_anti h1.1 h2.1
    subst e
    rw [ltT_anti x y (h1.2.resolve_left fun h => h rfl) (h2.2.resolve_left fun h => h rfl)]
theorem ltT_tr : ∀ a b c : List Str, ltT b a = false → ltT c b = false → ltT c a = false
  | [], _, [], _, _ => by simp [ltT]
  | [], _, _ :: _, _, _ => by simp [ltT]
  | _ :: _, [], _, h, _ => by simp [ltT] at h
  | _ :: _, _ :: _, [], _, h => by simp [ltT] at h
  | a :: x, b :: y, c :: z, h1, h2 => by
    simp only [ltT, Bool.or_eq_false_iff, Bool.and_eq_false_iff, decide_eq_false_iff_not] at h1 h2 ⊢
    refine ⟨slt_tr h1.1 h2.1, ?_⟩
    by_cases e : c = a
    · subst e
      have e2 := slt_anti h1.1 h2.1
      subst e2
      exact .inr (ltT_tr x y z (h1.2.resolve_left fun h => h rfl) (h2.2.resolve_left fun h => h rfl))
    · exact .inl e
abbrev leT (a b : List Str) : Prop := ltT b a = false
theorem insT_perm (a : List Str) : ∀ l : List (List Str), (insT a l).Perm (a :: l)
  | [] => .refl _
  | b :: r => by
    unfold insT
    split
    · exact ((insT_perm a r).cons b).trans (.swap a b r)
    · exact .refl _
theorem sortT_perm : ∀ l : List (List Str), (sortT l).Perm l
  | [] => .refl _
  | a :: r => (insT_perm a (sortT r)).trans ((sortT_perm r).cons a)
theorem insT_pw (a : List Str) : ∀ l : List (List Str), l.Pairwise leT → (insT a l).Pairwise leT
  | [], _ => by simp [insT]
  | b :: r, h => by
    unfold insT
    obtain ⟨h1, h2⟩ := List.pairwise_cons.mp h
    split
    · rename_i hlt
      refine List.pairwise_cons.mpr ⟨fun y hy => ?_, insT_pw a r h2⟩
      rcases List.mem_cons.mp ((insT_perm a r).mem_iff.mp hy) with rfl | hy
      · exact ltT_total _ _ hlt
      · exact h1 y hy
    · rename_i hlt
      have hab : leT a b := by simpa using hlt
      refine List.pairwise_cons.mpr ⟨fun y hy => ?_, h⟩
      rcases List.mem_cons.mp hy with rfl | hy
      · exact hab
      · exact ltT_tr _ _ _ hab (h1 y hy)
theorem sortT_pw : ∀ l : List (List Str), (sortT l).Pairwise leT
  | [] => List.Pairwise.nil
  | a :: r => insT_pw a _ (sortT_pw r)
theorem sortT_uniq {l ys : List (List Str)} (h1 : ys.Perm l) (h2 : ys.Pairwise leT) : ys = sortT l :=
  (h1.trans (sortT_perm l).symm).eq_of_pairwise (fun _ _ _ _ a b => ltT_anti _ _ b a) h2 (sortT_pw l)
/-! ### the library's order of data -/
abbrev tD (t : List Str) : PyData := .tuple (t.map PyData.str)
theorem row_lt : ∀ x y : List Str, PySem.W.rowLt (x.map PyData.str) (y.map PyData.str) = ltT x y
  | [], [] => lex_irrefl _
  | [], b :: y => by
    show PySem.W.rowLt [] (PyData.str b :: y.map PyData.str) = true
    unfold PySem.W.rowLt
    rw [PySem.W.toks_all_cons]
    simp only [PySem.W.keyToksAll]
    rw [lex_diff (O := itemOrd) (by simp)]
    rfl
  | a :: x, [] => by
    show PySem.W.rowLt (PyData.str a :: x.map PyData.str) [] = false
    unfold PySem.W.rowLt
    rw [PySem.W.toks_all_cons]
    simp only [PySem.W.keyToksAll]
    rw [lex_diff (O := itemOrd) (by simp)]
    rfl
  | a :: x, b :: y => by
    show PySem.W.rowLt (PyData.str a :: x.map PyData.str) (PyData.str b :: y.map PyData.str) = _
    have ih := row_lt x y
    unfold PySem.W.rowLt at ih ⊢
    rw [PySem.W.dataLt_cons (by simp [PySem.W.alike]), PySem.W.dataLt_str, ih]
    simp only [PyData.eqv, beq_iff_eq]
    have e : decide (a.cps.toList < b.cps.toList) = slt a b := rfl
    rw [e, ltT]
    by_cases h : a = b
    · subst h
      rw [if_pos rfl, slt_irr]
      simp
    · rw [if_neg h]
      simp [h]
theorem dle_tup {α : Type} (k : α → List Str) : PySem.W.dataLe false (fun b => tD (k b)) = fun a b => !ltT (k b) (k a) := by
  funext a b
  show (!PySem.W.dataLt (tD (k b)) (tD (k a))) = _
  rw [PySem.W.dataLt_tuple]
  exact congrArg (!·) (row_lt _ _)
theorem tD_alike : ∀ x y : List Str, PySem.W.alikeAll (x.map PyData.str) (y.map PyData.str) = true
  | [], _ => by simp [PySem.W.alikeAll]
  | _ :: _, [] => by simp [PySem.W.alikeAll]
  | a :: x, b :: y => by
    show PySem.W.alikeAll (PyData.str a :: x.map PyData.str) (PyData.str b :: y.map PyData.str) = true
    rw [PySem.W.alikeAll, tD_alike x y]
    simp [PySem.W.alike]
theorem depth_txts : ∀ x : List Str, PyData.depthAll (x.map PyData.str) = 0
  | [] => by simp [PyData.depthAll]
  | a :: x => by
    show PyData.depthAll (PyData.str a :: x.map PyData.str) = 0
    rw [PyData.depthAll, depth_txts x]
    simp [PyData.depth]
theorem reads_txts (h : Heap) : ∀ {t : List Str} {its : List Value}, Vals (t.map V.str) its → ReadsAll h its (t.map PyData.str) []
  | [], _, .nil => .nil
  | a :: t, _, .cons r rs => by
    obtain ⟨u, rfl⟩ := r
    exact ReadsAll.cons (as := []) (bs := []) (.str a u) (reads_txts h rs)
/-! ### sorted, of rows of tuples of texts -/
theorem each_ref {α : Type} (k : α → Addr) : ∀ {vs : List Value} {bs : List α}, PySem.W.EachIs (fun v b => v = Value.ref (k b)) vs bs → vs = bs.map fun b => Value.ref (k b)
  | _, _, .nil => rfl
  | _, _, .cons e t => by rw [e, each_ref k t]; rfl
theorem each_self {α : Type} (k : α → Addr) : ∀ bs : List α, PySem.W.EachIs (fun v b => v = Value.ref (k b)) (bs.map fun b => Value.ref (k b)) bs
  | [] => .nil
  | _ :: r => .cons rfl (each_self k r)
theorem each_of {α : Type} {R : Value → α → Prop} (k : α → Addr) : ∀ bs : List α, (∀ b ∈ bs, R (.ref (k b)) b) → PySem.W.EachIs R (bs.map fun b => Value.ref (k b)) bs
  | [], _ => .nil
  | b :: r, h => .cons (h b (by simp)) (each_of k r fun c hc => h c (by simp [hc]))
theorem vals_refs {α : Type} (k : α → Addr) : ∀ bs : List α, Vals (bs.map fun b => V.ref (k b)) (bs.map fun b => Value.ref (k b))
  | [] => .nil
  | b :: r => .cons rfl (vals_refs k r)
theorem vals_refsE {α : Type} (k : α → Addr) : ∀ {bs : List α} {its : List Value}, Vals (bs.map fun b => V.ref (k b)) its → its = bs.map fun b => Value.ref (k b)
  | [], _, .nil => rfl
  | _ :: _, _, .cons r rs => by cases r; rw [vals_refsE k rs]; rfl
abbrev At := Addr × List Str
theorem merge_sortT (bs : List At) : (bs.mergeSort (PySem.W.dataLe false fun b => tD b.2)).map (·.2) = sortT (bs.map (·.2)) := by
  rw [dle_tup]
  have tr : ∀ a b c : At, (!ltT b.2 a.2) = true → (!ltT c.2 b.2) = true → (!ltT c.2 a.2) = true := fun a b c h1 h2 => by
    simp only [Bool.not_eq_true'] at h1 h2 ⊢
    exact ltT_tr _ _ _ h1 h2
  have tot : ∀ a b : At, (!ltT b.2 a.2 || !ltT a.2 b.2) = true := fun a b => by
    cases h : ltT b.2 a.2 with
    | false => rfl
    | true => rw [ltT_total _ _ h]; rfl
  refine sortT_uniq ((List.mergeSort_perm bs _).map _) ?_
  rw [List.pairwise_map]
  refine (List.pairwise_mergeSort tr tot bs).imp fun {a b} h => ?_
  simpa using h
section
variable {T : Tb} {W : WX} {X : Cx} {C : Cal}
/-- tuples of texts, by where they lie -/
def AtOk (T : Tb) (H : Hp) (b : At) : Prop := SqN T.K H b.1 (b.2.map V.str) ∧ b.2.length ≤ sizeLine
theorem tups_ok {g : Gh} : ∀ {ys : List V} {ds : List D} {ts : List (List Str)}, T.RDs g ys ds → tupsOf ds = some ts → ∃ bs : List At, ys = (bs.map fun b => V.ref b.1) ∧ ts = bs.map (·.2) ∧ ∀ b ∈ bs, AtOk T g.Hf b
  | _, _, ts, .nil, h => by
    simp only [tupsOf, Option.some.injEq] at h
    subst h
    exact ⟨[], rfl, rfl, by simp⟩
  | _, _, ts, .cons r rs, h => by
    cases r with
    | @tup a xs es q l re =>
      simp only [tupsOf, Option.bind_eq_some_iff, Option.map_eq_some_iff] at h
      obtain ⟨t, h1, us, h2, rfl⟩ := h
      obtain ⟨bs, e1, e2, e3⟩ := tups_ok rs h2
      obtain rfl := re.strs h1
      refine ⟨(a, t) :: bs, by rw [e1]; rfl, by rw [e2]; rfl, fun b hb => ?_⟩
      rcases List.mem_cons.mp hb with rfl | hb
      · exact ⟨q, by simpa using l⟩
      · exact e3 b hb
    | _ => simp [tupsOf] at h
theorem at_rds {g : Gh} : ∀ {bs : List At}, (∀ b ∈ bs, AtOk T g.Hf b) → T.RDs g (bs.map fun b => V.ref b.1) ((bs.map (·.2)).map tsD)
  | [], _ => .nil
  | b :: r, h => .cons (.tup (h b (by simp)).1 (by simpa using (h b (by simp)).2) (rds_strs g b.2)) (at_rds fun c hc => h c (by simp [hc]))
theorem at_reads {pins : List (Addr × Obj)} {s : Shared} {σ : LSt} {H : Hp} (I : Inv X pins σ H s) {b : At} (h : SqT X.K H b.1 (b.2.map V.str)) : Reads s.heap (.ref b.1) (tD b.2) [] := by
  obtain ⟨its, rv, ⟨o, ho, hc, n, hd⟩, _⟩ := I.tuple h
  exact .tuple ho hc hd (by simpa using reads_txts s.heap rv)
theorem tups_sortable {bs : List At} (hne : ∀ b ∈ bs, b.2 ≠ []) : PySem.W.Sortable (bs.map fun b => tD b.2) := .inl fun d hd => by
  obtain ⟨b, hb, rfl⟩ := List.mem_map.mp hd
  have := hne b hb
  cases h : b.2 with
  | nil => exact absurd h this
  | cons x r => exact ⟨_, _, rfl⟩
theorem tups_alike (bs : List At) : PySem.W.AllAlike (bs.map fun b => tD b.2) := PySem.W.AllAlike.of fun b b' => by
  show PySem.W.alike (.tuple _) (.tuple _) = true
  rw [PySem.W.alike]
  exact tD_alike _ _
/-- the keys of any dict, as a source -/
theorem raw_src {prog : Program} {w : World} {d : Addr} {es : Array DictEntry} {ep : Nat} (lo : (d == sysModules) = false) : PySem.W.KdlSrc prog w "dict" d d es.size (fun i v => ∃ hi : i < es.size, v = es[i].key) (fun h => h.DictRaw d es ep) where
  type := fun _ hm => hm.typeIs
  there := fun _ hm => ⟨hm.lt_size, hm.lt_size⟩
  keep := fun _ _ hm hk => hm.at fun o e => hk d (.inl rfl) o e
  notList := by decide
  notTuple := by decide
  hint := fun _ _ _ _ hm hq => PySem.W.kdl_hint_dict hm.typeIs hq
  iter := fun _ _ hh hm => ⟨_, _, (fun _ _ hq => wpAny_pyIter_dict_raw lo hm hq), Walks.rawKeys hh _ d (Nat.ne_of_lt hm.lt_size) es ep, ⟨⟨_, Heap.get?_push_size _ rfl, rfl, rfl⟩, hm.push _⟩⟩
theorem nt_ok {H : Hp} : ∀ {ks : List NestedKey} {vs : List V} {t : List Str}, NKVs T.K H vs ks → ntxt ks = some t → vs = t.map V.str
  | _, _, t, .nil, h => by simp only [ntxt, Option.some.injEq] at h; subst h; rfl
  | _, _, t, .cons (.text s) r, h => by
    simp only [ntxt, Option.map_eq_some_iff] at h
    obtain ⟨u, h1, rfl⟩ := h
    rw [nt_ok r h1]; rfl
  | _, _, t, .cons (.num i) r, h => by simp [ntxt] at h
  | _, _, t, .cons (.tup _ _ _) r, h => by simp [ntxt] at h
theorem nts_ok {H : Hp} : ∀ {xs : List (NestedKey × Addr × Value)} {ts : List (List Str)}, (∀ y ∈ xs, NKV T.K H (.ref y.2.1) y.1) → ntups (xs.map (·.1)) = some ts → ∃ bs : List At, xs.map (fun x => x.2.1) = bs.map (·.1) ∧ ts = bs.map (·.2) ∧ ∀ b ∈ bs, AtOk T H b
  | [], ts, _, h => by
    simp only [List.map_nil, ntups, Option.some.injEq] at h
    subst h
    exact ⟨[], rfl, rfl, by simp⟩
  | (k, a, u) :: xs, ts, hk, h => by
    have h0 := hk _ (List.mem_cons_self)
    cases k with
    | tup ks =>
      simp only [List.map_cons, ntups, Option.bind_eq_some_iff, Option.map_eq_some_iff] at h
      obtain ⟨t, h1, us, h2, rfl⟩ := h
      obtain ⟨bs, e1, e2, e3⟩ := nts_ok (fun y hy => hk y (by simp [hy])) h2
      have h0' : NKV T.K H (.ref a) (.tup ks) := h0
      cases h0' with
      | tup q l r =>
        obtain rfl := nt_ok r h1
        refine ⟨(a, t) :: bs, by simp only [List.map_cons, e1], by rw [e2]; rfl, fun b hb => ?_⟩
        rcases List.mem_cons.mp hb with rfl | hb
        · exact ⟨q, by simpa using l⟩
        · exact e3 b hb
    | _ => simp [ntups] at h
/-- a row of tuples, told in order: what is wanted of it -/
theorem tups_end {m : Bool} {bs : List At} {g : Gh} {S : Sto} {H : Hp} {Q : VK} {σ' : LSt} (sm : T.Sim g S H) (hb : ∀ b ∈ bs, AtOk T g.Hf b) (hl : bs.length < 64)
    (q : GoR T T.RD W g σ' (mkL m ((sortT (bs.map (·.2))).map tsD) S) fun _ H' v _ _ => Q v H') : ∀ p, H p = none → Q (.ref p) (upd H p (.lst ((bs.mergeSort (PySem.W.dataLe false fun b => tD b.2)).map fun b => V.ref b.1))) := fun p hn => by
  have hp := List.mergeSort_perm bs (PySem.W.dataLe false fun b => tD b.2)
  refine mkL_ok sm (by rw [List.length_map, hp.length_eq, sizeLine_eq]; omega) ?_ q p hn
  rw [← merge_sortT]
  exact at_rds fun b h => hb b (hp.mem_iff.mp h)
theorem sorted_tups (hK : X.K = T.K) (hc : X.calm = true) {m : Bool} (pins : List (Addr × Obj)) (s : Shared) (σ : LSt) (H : Hp) {x : V} {d : D} (us : List Value) (Q : VK) (I : Inv X pins σ H s) (rx : Vals [x] us) {g : Gh} {S : Sto} {σ' : LSt} (sm : T.Sim g S H) (rd : T.RD g x d)
    {ts : List (List Str)} (ht : tupsAt S d = some ts) (hl : ts.length < 64) (hne : ∀ t ∈ ts, t ≠ []) (hu : X.A.units + 65 < cLine) (q : GoR T T.RD W g σ' (mkL m ((sortT ts).map tsD) S) fun _ H' v _ _ => Q v H') :
    wpAny (model X.prog X.w) X.A (call (.builtin "sorted") us) (EP X pins σ Q) X.xe s := by
  unfold tupsAt at ht
  cases ea : asM S d with
  | some ds =>
    rw [ea] at ht
    obtain ⟨p, ys, rfl, h1, rs⟩ := asM_ok sm rd ea
    obtain ⟨bs, rfl, rfl, hb⟩ := tups_ok rs ht
    rw [List.length_map] at hl
    obtain ⟨its, rv, pl, hz⟩ := I.list (SqL.of (K := X.K) h1)
    rw [Vals.ref1 rx]
    obtain rfl := vals_refsE (fun b : At => b.1) rv
    have hrd : ∀ b ∈ bs, Reads s.heap (.ref b.1) (tD b.2) [] := fun b h => at_reads I (hK ▸ sqT_mono sm.sub (hb b h).1.1)
    refine PySem.W.sorted_data (R := fun v b => v = Value.ref b.1) (enc := fun b : At => tD b.2) (bs := bs) pl.isList (each_self _ bs) (each_of (fun b : At => b.1) bs fun b h => ⟨[], hrd b h⟩) (tups_alike bs) (tups_sortable fun b h => hne _ (List.mem_map.mpr ⟨b, h, rfl⟩)) (by rw [sizeLine_eq]; omega) (fun b h => ?_) fun out ho eo => ?_
    · show X.A.units + 2 + (PyData.depthAll (b.2.map PyData.str) + 1) < cLine
      rw [depth_txts]; omega
    · obtain rfl := each_ref _ eo
      obtain ⟨ep, he⟩ := PyProof.Rows.sortedAll_at s.heap (bs.map fun b => Value.ref b.1) (List.toArray ((bs.mergeSort (PySem.W.dataLe false fun b => tD b.2)).map fun b => Value.ref b.1))
      have hlen : ((bs.mergeSort (PySem.W.dataLe false fun b => tD b.2)).map fun b => V.ref b.1).length ≤ sizeLine := by
        rw [List.length_map, (List.mergeSort_perm bs _).length_eq, sizeLine_eq]; omega
      exact ⟨.ref _, upd H (s.heap.objs.size + 1) (.lst ((bs.mergeSort (PySem.W.dataLe false fun b => tD b.2)).map fun b => V.ref b.1)), I.laid (t' := s.toks) (fun _ _ => PyProof.Rows.sortedAll_old) (Nat.le_succ _) ⟨hlen, _, ep, vals_refs (fun b : At => b.1) _, he⟩, rfl, tups_end sm hb hl q _ (I.hok.fresh (Nat.le_succ _))⟩
  | none =>
    rw [ea] at ht
    obtain ⟨⟨ks, ds⟩, hn, ht⟩ := Option.bind_eq_some_iff.mp ht
    obtain ⟨a, n, xs, vs, rfl, _, rfl, hd, rfl, hxl, hk, _, _⟩ := asN_ok sm rd hn
    obtain ⟨bs, e1, rfl, hb⟩ := nts_ok (fun y hy => (hk y hy).1) ht
    rw [List.length_map] at hl
    have hd' : NDat T.nh H a xs := hd
    rw [Vals.ref1 rx]
    obtain ⟨hm, o, es, ep, o1, o2, o3, o4, o5⟩ := nd_raw I hd'
    have hes : es.size = bs.length := by
      have := congrArg List.length o4
      have e2 := congrArg List.length e1
      simp only [Array.length_toList, List.length_map] at this e2
      omega
    have hkey : ∀ (i : Nat) (hi : i < es.size), bs[i]?.map (fun b => Value.ref b.1) = some es[i].key := fun i hi => by
      have g1 : es.toList[i]? = some es[i] := by rw [Array.getElem?_toList]; simp [hi]
      rw [o4, List.getElem?_map] at g1
      obtain ⟨x, hx, ex⟩ := Option.map_eq_some_iff.mp g1
      have g2 : (xs.map fun x => x.2.1)[i]? = some x.2.1 := by rw [List.getElem?_map, hx]; rfl
      rw [e1, List.getElem?_map] at g2
      obtain ⟨b, hb', eb⟩ := Option.map_eq_some_iff.mp g2
      rw [hb', ← ex]
      simp only [Option.map_some, Option.some.injEq]
      show Value.ref b.1 = Value.ref x.2.1
      rw [eb]
    refine Calls.call_function_entry PyProof.Rows.kind_sorted PyProof.Rows.plain_sorted PyProof.Rows.entry_sorted (PyProof.Rows.args_sorted1 _) ?_
    unfold Builtin.«sorted»
    refine wpAny_bind (m := checkCount "sorted" 1 1 _) (wpAny_pure ?_)
    refine wpAny_bind (PySem.W.kdu_collect (A := X.A.in1) (raw_src (es := es) (ep := ep) hm) (I.ok.hd hc) ⟨o, o1, o2, o3⟩ (by rw [hes, sizeLine_eq]; omega) fun h' tk acc hk' hacc => ?_)
    have hal : acc.toList = bs.map fun b => Value.ref b.1 := by
      apply List.ext_getElem?
      intro i
      by_cases hi : i < es.size
      · have h1 : i < acc.toList.length := by rw [Array.length_toList, hacc.1]; exact hi
        have g1 : acc.toList[i]? = some acc.toList[i] := by simp [h1]
        obtain ⟨_, g2⟩ := hacc.2 i _ (by rw [← Array.getElem?_toList]; exact g1)
        rw [g1, g2, List.getElem?_map, hkey i hi]
      · rw [List.getElem?_eq_none (by rw [Array.length_toList, hacc.1]; omega), List.getElem?_eq_none (by rw [List.length_map]; omega)]
    have I1 : Inv X pins σ H { s with heap := h', toks := tk } := I.kept hk'
    rw [hal]
    refine wpAny_bind (wpAny_newList ?_ (by rw [List.length_map, sizeLine_eq]; omega))
    have hoL : (h'.push (seqObj "list" (bs.map fun b => Value.ref b.1).toArray 0)).get? h'.objs.size = some (seqObj "list" (bs.map fun b => Value.ref b.1).toArray 0) := Heap.get?_push_size _ rfl
    show wpAny _ _ _ _ _ { s with heap := h'.push (seqObj "list" (bs.map fun b => Value.ref b.1).toArray 0), toks := tk }
    have hrd : ∀ b ∈ bs, Reads (h'.push (seqObj "list" (bs.map fun b => Value.ref b.1).toArray 0)) (.ref b.1) (tD b.2) [] := fun b h => PyProof.Rows.Reads.keeps (fun _ _ e => Heap.get?_push_of_some _ e) (at_reads I1 (hK ▸ sqT_mono sm.sub (hb b h).1.1))
    refine wpAny_bind (wpAny_holding (PySem.W.list_sort_data (s := { s with heap := h'.push (seqObj "list" (bs.map fun b => Value.ref b.1).toArray 0), toks := tk }) (R := fun v b => v = Value.ref b.1) (enc := fun b : At => tD b.2) (bs := bs) hoL (each_self _ bs) (each_of (fun b : At => b.1) bs fun b h => ⟨[], hrd b h, by simp⟩) (tups_alike bs) (tups_sortable fun b h => hne _ (List.mem_map.mpr ⟨b, h, rfl⟩)) (by rw [sizeLine_eq]; omega) (fun b h => ?_) fun out ho eo => ?_))
    · show X.A.units + 1 + 1 + (PyData.depthAll (b.2.map PyData.str) + 1) < cLine
      rw [depth_txts]; omega
    · obtain rfl := each_ref _ eo
      obtain ⟨c, hcz⟩ := PyProof.Rows.sortedHeap_at (vs := bs.map fun b => Value.ref b.1) (out := List.toArray ((bs.mergeSort (PySem.W.dataLe false fun b => tD b.2)).map fun b => Value.ref b.1)) hoL
      have hlen : ((bs.mergeSort (PySem.W.dataLe false fun b => tD b.2)).map fun b => V.ref b.1).length ≤ sizeLine := by
        rw [List.length_map, (List.mergeSort_perm bs _).length_eq, sizeLine_eq]; omega
      refine wpAny_pure ⟨_, rfl, .ref _, upd H h'.objs.size (.lst ((bs.mergeSort (PySem.W.dataLe false fun b => tD b.2)).map fun b => V.ref b.1)), I1.laid (t' := tk) (a := h'.objs.size) (fun b u e => ?_) (Nat.le_refl _) ⟨hlen, _, c, vals_refs (fun b : At => b.1) _, hcz⟩, rfl, tups_end sm hb hl q _ (I1.hok.fresh (Nat.le_refl _))⟩
      have q1 : h'.get? b = some u := e
      have hlt := Heap.lt_size q1
      show (sortedHeap _ _ _ _).get? b = some u
      rw [sortedHeap_old (Nat.ne_of_lt hlt) (by rw [Heap.size_push]; exact Nat.lt_succ_of_lt hlt)]
      exact Heap.get?_push_of_some _ q1
theorem c_sorted (hK : X.K = T.K) (hc : X.calm = true) (hu : X.A.units + 65 < cLine) (m : Bool) : CallR X (.builtin "sorted") (rCall1 T W (b1 .sorted m)) := by
  have c1 : CallR X (.builtin "sorted") (rSortedS T.K) := hK ▸ cr_sortedS
  have c2 : CallR X (.builtin "sorted") (rSorted T.K) := hK ▸ cr_sorted
  have c3 := call_sortedD hc
  intro pins s σ H xs us Q I rx ⟨x, ex, g, S, d, σ', sm, rd, q⟩
  subst ex
  simp only [b1] at q
  cases ed : asD S d with
  | some p =>
    obtain ⟨ks, ds⟩ := p
    rw [ed] at q
    obtain ⟨ss, hs, q4⟩ := orNo_ok q
    obtain ⟨hl, q5⟩ := ite_ok q4
    obtain ⟨a, ys, rfl, h1, h2, h3⟩ := asD_ok sm rd ed
    have hks := keys_strs hs
    subst hks
    refine c3 pins s σ H _ us Q I rx ⟨a, _, ss, rfl, .inl h1, zip_keys h2, of_decide_eq_true hl, fun zs p hp hz hn => ?_⟩
    rw [sortS_uniq hp hz]
    refine mkL_ok sm ?_ (rds_strs g _) q5 p hn
    have := (sortS_perm ss).length_eq
    have h64 := of_decide_eq_true hl
    rw [List.length_map, this, sizeLine_eq]; omega
  | none =>
    rw [ed] at q
    simp only at q
    cases es : (asM S d).bind strsOf with
    | some ss =>
      rw [es] at q
      simp only at q
      obtain ⟨hl, q5⟩ := ite_ok q
      cases ea : asM S d with
      | none => rw [ea] at es; cases es
      | some zs =>
        rw [ea] at es
        obtain ⟨p, ys, rfl, h1, rs⟩ := asM_ok sm rd ea
        obtain rfl := rs.strs (ns := ss) es
        refine c1 pins s σ H _ us Q I rx ⟨p, ss, rfl, SqL.of h1, of_decide_eq_true hl, fun zs p hp hz hn => ?_⟩
        rw [sortS_uniq hp hz]
        refine mkL_ok sm ?_ (rds_strs g _) q5 p hn
        have := (sortS_perm ss).length_eq
        have h64 := of_decide_eq_true hl
        rw [List.length_map, this, sizeLine_eq]; omega
    | none =>
      rw [es] at q
      simp only at q
      cases ei : (asM S d).bind intsOf with
      | none =>
        rw [ei] at q
        obtain ⟨ts, ht, q2⟩ := orNo_ok q
        obtain ⟨hl, q3⟩ := ite_ok q2
        obtain ⟨hl, hne⟩ := (Bool.and_eq_true _ _).mp hl
        exact sorted_tups hK hc pins s σ H us Q I rx sm rd ht (of_decide_eq_true hl) (fun t h e => by
          have := List.all_eq_true.mp hne t h
          rw [e] at this; cases this) hu q3
      | some ns =>
      rw [ei] at q
      obtain ⟨hl, q2⟩ := ite_ok q
      cases ea : asM S d with
      | none => rw [ea] at ei; cases ei
      | some zs =>
      rw [ea] at ei
      obtain ⟨p, ys, rfl, h1, rs⟩ := asM_ok sm rd ea
      obtain rfl := rs.ints (ns := ns) ei
      refine c2 pins s σ H _ us Q I rx ⟨p, ns, rfl, SqL.of h1, of_decide_eq_true hl, fun zs p hp hz hn => ?_⟩
      rw [sortI_uniq hp hz]
      refine mkL_ok sm ?_ (rds_ints g _) q2 p hn
      have := (sortI_perm ns).length_eq
      have h64 := of_decide_eq_true hl
      rw [List.length_map, this, sizeLine_eq]; omega
end
/-! ### sets of texts -/
open PySem.Froz (TxOk sObj addTx tailTx) in
section
variable {P : Program} {w : World} {A : Around} {E : Value → Shared → Prop} {z : Shared}
/-- the table rises and can be walked -/
def TxR (w : World) (D : PySem.Froz.SD) : Prop := L2.Ris D.2.2.place.toList ∧ (w.params.followText "set-order" = true ∨ D.2.2.led = true)
theorem txR_tail {ep : Nat} {es : Array (Int × Value)} {t : SetTable} {b : Bool} (h : L2.Ris t.place.toList ∧ (w.params.followText "set-order" = true ∨ t.led = true)) : TxR w (PySem.Froz.tailTx ep es t b) := by
  unfold PySem.Froz.tailTx
  split
  · exact ⟨L2.relayAll_ris _ _ _, h.2.imp id fun e => (L2.relayAll_led _ _ _).trans e⟩
  · exact h
theorem txR_add {D : PySem.Froz.SD} {i : Int} {v : Value} (h : TxR w D) : TxR w (PySem.Froz.addTx i v D) := by
  have h1 := L2.layNew_ris D.2.2 D.1 i v h.1
  have h2 := L2.layNew_led D.2.2 D.1 i v
  unfold PySem.Froz.addTx
  refine txR_tail ?_
  split
  · exact ⟨h1, h.2.imp id fun e => h2.trans e⟩
  · exact ⟨h1, h.2.imp id fun e => h2.trans e⟩
/-- a text that is there already -/
theorem add_had {a : Addr} {N : String} {D : PySem.Froz.SD} {l : List Str} {k : Str} {u : Tok} {Q : Bool → Shared → Prop} (hg : z.heap.get? a = some (PySem.Froz.sObj N D)) (F : PySem.Froz.TxOk P w D l) (hk : k ∈ l) (hb : l.length < scanBound) (hQ : Q false z) :
    wpAny (model P w) A (setAddHashed a (.str k u) (hashStr w k)) Q E z := by
  obtain ⟨es, ep, t⟩ := D
  have hs : (PySem.strKind P w).is k (.str k u) = true := PySem.Froz.is_str k u
  have hd : (PySem.Froz.sObj N (es, ep, t)).data = .set es ep t := rfl
  obtain ⟨j, hj⟩ : ∃ j, List.findIdx? (fun e => (PySem.strKind P w).is k e.2) es.toList = some j := by
    obtain ⟨e, he, hi⟩ := (F.mem k).mp hk
    cases c : List.findIdx? (fun e => (PySem.strKind P w).is k e.2) es.toList with
    | some j => exact ⟨j, rfl⟩
    | none =>
      have := List.findIdx?_eq_none_iff.mp c e he
      rw [hi] at this; cases this
  have hz : es.size < scanBound := by have := F.sz; show es.size < _; simp only at this; omega
  unfold setAddHashed setAddHashedIn
  refine wpAny_holding (wpAny_bind (wpAny_setState_of hg hd F.fit ?_)); dsimp only
  rw [byScan_of rfl hz F.el]; simp only [↓reduceIte]
  unfold setAddByScan; refine wpAny_bind ?_
  refine wpAny_bind (wpAny_rule ?_); refine wpAny_bind (wpAny_setScan_of (knd := PySem.strKind P w) (k := k) hs hg hd F.fit F.el ?_)
  rw [hj]; dsimp only
  exact wpAny_pure (wpAny_pure hQ)
theorem dups_nodup : ∀ (n : Nat) (l : List Str), l.length ≤ n → l.eraseDups.length = l.length → l.Nodup
  | _, [], _, _ => List.nodup_nil
  | 0, _ :: _, h, _ => by simp at h
  | n + 1, a :: r, h, e => by
    rw [List.eraseDups_cons] at e
    simp only [List.length_cons] at e h
    have h1 := dups_le _ (r.filter fun b => !b == a) (Nat.le_refl _)
    have h2 := List.length_filter_le (fun b => !b == a) r
    have h3 : (r.filter fun b => !b == a).length = r.length := by omega
    have h4 : (r.filter fun b => !b == a) = r := List.filter_eq_self.mpr (List.length_filter_eq_length_iff.mp h3)
    rw [h4] at e
    refine List.nodup_cons.mpr ⟨fun hm => ?_, dups_nodup n r (by omega) (by omega)⟩
    have := List.length_filter_eq_length_iff.mp h3 a hm
    simp at this
/-- the set at a holds just these texts -/
def TxAt (P : Program) (w : World) (h : Heap) (a : Addr) (xs : List Str) : Prop := ∃ D l, h.get? a = some (PySem.Froz.sObj "set" D) ∧ PySem.Froz.TxOk P w D l ∧ TxR w D ∧ l.Nodup ∧ ∀ k, k ∈ l ↔ k ∈ xs
theorem TxAt.len {xs : List Str} {l : List Str} (hn : l.Nodup) (hm : ∀ k, k ∈ l ↔ k ∈ xs) : l.Perm xs.eraseDups := by
  have hd : xs.eraseDups.Nodup := by
    have key : ∀ (n : Nat) (l : List Str), l.length ≤ n → l.eraseDups.Nodup := by
      intro n
      induction n with
      | zero => intro l hl; cases l with | nil => simp | cons a r => simp at hl
      | succ n ih =>
        intro l hl
        cases l with
        | nil => simp
        | cons a r =>
          rw [List.eraseDups_cons]
          have hf : (r.filter fun b => !b == a).length ≤ n := by have := List.length_filter_le (fun b => !b == a) r; simp at hl; omega
          refine List.nodup_cons.mpr ⟨fun hc => ?_, ih _ hf⟩
          have := List.mem_eraseDups.mp hc
          simp at this
    exact key _ xs (Nat.le_refl _)
  exact (List.perm_ext_iff_of_nodup hn hd).mpr fun k => by rw [hm, List.mem_eraseDups]
section
variable {R₁ : Result → Shared → Prop} {It₁ : Addr} {fp wr : List Addr} {G : Array GenState → Array GenState → Prop} {n : Nat} {Pv : Nat → Value → Prop} {St₁ : Nat → Shared → Prop}
theorem tx_turns (wk : WalksS P w A.in1 It₁ fp wr G n Pv St₁) (a : Addr) (ha : a ∉ fp) (xs : List Str) (hl : xs.length = n) (hn : n < 4000) (hv : ∀ i v, Pv i v → ∃ t, v = .str (xs.getD i Str.empty) t) :
    ∀ (k i : Nat) (z : Shared), n - i = k → i ≤ n → St₁ i z → TxAt P w z.heap a (xs.take i) →
      (∀ z', Moved (a :: wr) G z z' → TxAt P w z'.heap a xs → R₁ (.ok (.ret .none)) z') →
      codeAny (model P w) A (.builtin "set.update.loop" ⟨[.ref a, .ref It₁], []⟩) R₁ z := by
  have haw : a ∉ wr := fun h => ha (wk.sub _ h)
  have up : ∀ b ∈ wr, b ∈ a :: wr := fun b hb => List.mem_cons_of_mem _ hb
  have keep : ∀ {z z' : Shared} {ys : List Str}, Moved wr G z z' → TxAt P w z.heap a ys → TxAt P w z'.heap a ys := fun m h => by
    obtain ⟨D, l, ho, more⟩ := h
    exact ⟨D, l, m.heap a _ haw ho, more⟩
  intro k
  induction k with
  | zero =>
    intro i z e1 e2 st hS fin
    have ei : i = n := by omega
    subst ei
    rw [List.take_of_length_le (Nat.le_of_eq hl)] at hS
    refine codeAny_builtin PyProof.Rows.F.entry_set_update_loop ?_
    rw [Around.under_plainId PyProof.Rows.F.plain_set_update_loop _]
    show wpAny _ A.in1 (pyNext (.ref It₁) >>= _) _ _ z
    refine wpAny_bind (wk.done z _ _ st fun z' m => ?_)
    show wpAny _ A.in1 (ret Value.none) _ _ z'
    exact wpAny_pure (fin z' (m.mono up) (keep m hS))
  | succ k ih =>
    intro i z e1 e2 st hS fin
    have hi : i < n := by omega
    have hix : i < xs.length := by omega
    refine codeAny_builtin PyProof.Rows.F.entry_set_update_loop ?_
    rw [Around.under_plainId PyProof.Rows.F.plain_set_update_loop _]
    show wpAny _ A.in1 (pyNext (.ref It₁) >>= _) _ _ z
    refine wpAny_bind (wk.item i z _ _ hi st fun v z' pv st' m => ?_)
    obtain ⟨t, rfl⟩ := hv i v pv
    have hS' := keep m hS
    have ex : xs.getD i Str.empty = xs[i] := by rw [List.getD_eq_getElem?_getD, List.getElem?_eq_getElem hix]; rfl
    rw [ex]
    have et : xs.take (i + 1) = xs.take i ++ [xs[i]] := (List.take_append_getElem hix).symm
    show wpAny _ A.in1 (holding [Value.str xs[i] t] (setAdd a (.str xs[i] t)) >>= _) _ _ z'
    refine wpAny_bind (wpAny_holding ?_)
    unfold setAdd
    obtain ⟨D, l, ho, F, hr, hnd, hm⟩ := hS'
    have few : l.length ≤ i := by
      have hp := (TxAt.len hnd hm).length_eq
      have h1 := dups_le _ (xs.take i) (Nat.le_refl _)
      have h2 : (xs.take i).length ≤ i := List.length_take_le _ _
      omega
    -- what follows the add
    have go : ∀ (b : Bool) (z'' : Shared), Heap.SameBut a z'.heap z''.heap → z''.gens = z'.gens → z''.os = z'.os → z''.drawn = z'.drawn → z'.toks ≤ z''.toks → TxAt P w z''.heap a (xs.take (i + 1)) →
        codeAny (model P w) A (.builtin "set.update.loop" ⟨[.ref a, .ref It₁], []⟩) R₁ z'' := fun b z'' sb eg eo ed ek hT => by
      obtain ⟨h', g', d', k', o'⟩ := z''
      simp only at eg eo ed ek sb hT
      subst eg; subst eo; subst ed
      refine ih (i + 1) _ (by omega) hi (wk.frame _ z' _ _ st' ek fun b hb o e => ?_) hT fun z3 m' hS'' => ?_
      · rw [sb.2 b (fun h : b = a => ha (by rw [← h]; exact hb))]; exact e
      · refine fin z3 (Moved.trans wk.gtrans ((m.mono up).then_heap ek fun b o hb e => ?_) m') hS''
        rw [sb.2 b (fun h : b = a => hb (by rw [h]; exact List.mem_cons_self))]; exact e
    refine wpAny_holding (wpAny_bind ((PySem.strKind P w).pyHash (k := xs[i]) (strKind_is _ _ _ _) ?_))
    by_cases hin : xs[i] ∈ l
    · refine add_had (z := { z' with toks := z'.toks + 1 }) (N := "set") ho F hin (by unfold scanBound; omega) ?_
      refine wpAny_pure ⟨plainId_quiet PyProof.Rows.F.plain_set_update_loop _, go false _ (Heap.SameBut.refl a _) rfl rfl rfl (Nat.le_succ _) ⟨D, l, ho, F, hr, hnd, fun k => ?_⟩⟩
      rw [et, List.mem_append, hm k, List.mem_singleton]
      exact ⟨.inl, fun h => h.elim id fun e => by rw [e]; exact (hm _).mp hin⟩
    · refine PySem.Froz.add_x (s := { z' with toks := z'.toks + 1 }) (T := "set") ho F hin (by unfold scanBound; omega) ?_
      refine wpAny_pure ⟨plainId_quiet PyProof.Rows.F.plain_set_update_loop _, go true _ (Heap.SameBut.update _ a _) rfl rfl rfl (Nat.le_succ _) ⟨_, xs[i] :: l, PySem.Froz.get_upd _ ho rfl, PySem.Froz.add_ok t F, txR_add hr, List.nodup_cons.mpr ⟨hin, hnd⟩, fun k => ?_⟩⟩
      rw [et, List.mem_append, List.mem_cons, hm k, List.mem_singleton]
      exact Or.comm
end
/-- a new set that can be walked -/
theorem new_led (b : Value) {Q₁ : Value → Shared → Prop}
    (hq : Q₁ (.ref z.heap.objs.size) { z with heap := z.heap.push { cls := .type "set", dict := none, data := .set #[] 0 (.fresh 0 0 (!w.params.followText "set-order")) } }) :
    codeAny (model P w) A (.call (.builtin "set.__new__") ⟨[.type "set", b], []⟩) (wants Q₁ E) z := by
  refine codeAny_of_tree ?_
  show wpAny _ A.in1 (do checkBuiltinCall "set.__new__" ⟨[.type "set", b], []⟩; again (.builtin "set.__new__" ⟨[.type "set", b], []⟩)) _ _ z
  refine wpAny_bind (wpAny_of_eq (PySem.F.newCall_set_1 b) (wpAny_pure ⟨plainId_quiet F.plain_set_new _, codeAny_builtin F.entry_set_new ?_⟩))
  rw [Around.under_plainId F.plain_set_new _]; unfold Builtin.«set.__new__» Builtin.Frozenset.newClass
  have sub := sub_set_self
  obtain ⟨hp, g, d, tk, os⟩ := z
  dsimp only; wp_walk
  refine wpAny_askSetting (wpAny_pure ?_); dsimp only
  simp only [newObj]
  exact wpAny_bind (wpAny_alloc (wpAny_pure (wpAny_pure hq)))
end
section
variable {prog : Program} {w : World} {A : Around} {E₁ : Value → Shared → Prop} {s : Shared}
abbrev ledSet (w : World) : Obj := newSet (!w.params.followText "set-order")
theorem ledSet_at (prog : Program) (w : World) {h : Heap} {a : Addr} (hg : h.get? a = some (ledSet w)) : TxAt prog w h a [] := by
  refine ⟨(#[], 0, .fresh 0 0 (!w.params.followText "set-order")), [], hg, PySem.Froz.TxOk.nil (by rfl), ⟨List.Pairwise.nil, ?_⟩, List.nodup_nil, fun k => Iff.rfl⟩
  show _ ∨ (!w.params.followText "set-order") = true
  cases w.params.followText "set-order"
  · exact .inr rfl
  · exact .inl rfl
set_option maxHeartbeats 6400000 in
theorem setT_of_tuple {l : Addr} {items : Array Value} {xs : List Str} {Q : Value → Shared → Prop} (hh : A.handled = none) (hl : s.heap.IsTuple l items) (hi : PyProof.Rows.StrsAre items.toList xs) (hn : xs.length < 4000)
    (h : ∀ (h' : Heap) (tk : Nat), TxAt prog w h' s.heap.objs.size xs → (∀ b o, b < s.heap.objs.size → s.heap.get? b = some o → h'.get? b = some o) → Q (.ref s.heap.objs.size) { s with heap := h', toks := tk }) :
    wpAny (model prog w) A (call (.type "set") [.ref l]) Q E₁ s := by
  obtain ⟨c, tl, hmro⟩ := PySem.F.called_set.mro
  have f1 := PySem.F.called_set.made
  have f2 := PySem.F.called_set.sub
  refine wpAny_call (codeAny_of_tree ?_)
  show wpAny _ _ (callAny (.type "set") _) _ _ _
  refine wpAny_pure ⟨Code.quiet_builtin _ (by decide +kernel), codeAny_builtin PySem.F.entry_type_call ?_⟩
  rw [Around.under_plain (weight_type_call_type "set" [.ref l] []) rfl]
  have f3 := PySem.F.called_set.notType
  have f4 := PySem.F.called_set.canCreate
  have f5 := PySem.F.typeCall_set_1 (.ref l)
  repeat (any_goals (first | assumption | wp_step))
  refine codeAny_mono (new_led (.ref l) (E := E₁) (Q₁ := fun obj s₁ => obj = .ref s.heap.objs.size ∧ s₁ = { s with heap := s.heap.push (ledSet w) }) ⟨rfl, rfl⟩) fun r s₁ hr => ?_
  cases r with
  | error e => exact hr
  | ok fl =>
    cases fl with
    | ret obj =>
      obtain ⟨rfl, rfl⟩ := hr
      have hS : (s.heap.push (ledSet w)).get? s.heap.objs.size = some (ledSet w) := Heap.get?_push_size _ rfl
      have hT : Shared.TypeIs { s with heap := s.heap.push (ledSet w) } (.ref s.heap.objs.size) "set" := ⟨_, hS, rfl⟩
      have g1 := PySem.F.called_set.init.lookup
      have g2 := PySem.F.called_set.init.bind (.ref s.heap.objs.size)
      repeat (any_goals (first | assumption | wp_step))
      refine codeAny_mono (codeAny_call_builtin (R := wants (fun r s₂ => r = .none ∧ ∃ h' tk, s₂ = { s with heap := h', toks := tk } ∧ TxAt prog w h' s.heap.objs.size xs ∧ (∀ b o, b < s.heap.objs.size → s.heap.get? b = some o → h'.get? b = some o)) E₁) PySem.F.called_set.init.plain PySem.F.entry_set_init (check_set_init_1 hT ?_)) fun r₂ s₂ hr₂ => ?_
      · obtain ⟨⟨ocls, odict, odata, oslots⟩, hol, hcl, nl, hdl⟩ := hl
        simp only at hcl hdl
        subst hcl; subst hdl
        have hol' : (s.heap.push (ledSet w)).get? l = some { cls := .type "tuple", dict := odict, data := .seq items nl, slots := oslots } := Heap.get?_push_of_some _ hol
        have g3 := PySem.F.sub_tuple_set
        have g4 := PySem.F.sub_tuple_frozenset
        have g5 : (Value.type "tuple" == Value.type "dict") = false := by decide
        have hl1 : (s.heap.push (ledSet w)).IsTuple l items := ⟨_, hol', rfl, nl, rfl⟩
        unfold Builtin.«set.__init__» noKeywords Builtin.Frozenset.updateFrom
        generalize hPI : pyIter = PI
        wp_walk
        subst hPI
        refine wpAny_pyIter_tuple hl1 (wpAny_bind (wpAny_runValue ?_))
        have lt : l < s.heap.objs.size := Heap.lt_size hol
        have hh3 : A.in1.in1.in1.handled = none := by simp [hh]
        have ne1 : l ≠ (s.heap.push (ledSet w)).objs.size := by rw [Heap.size_push]; exact Nat.ne_of_lt (Nat.lt_succ_of_lt lt)
        have nin : s.heap.objs.size ∉ [(s.heap.push (ledSet w)).objs.size, l] := by
          rw [Heap.size_push]
          simp only [List.mem_cons, List.not_mem_nil, or_false, not_or]
          exact ⟨Nat.ne_of_lt (Nat.lt_succ_self _), Nat.ne_of_gt lt⟩
        have hsz : xs.length = items.size := by rw [← StrsAre.len_eq hi, Array.length_toList]
        refine tx_turns ((Walks.tuple hh3 _ l ne1 items).toS) s.heap.objs.size nin xs hsz (by rw [← hsz]; exact hn) (fun i v hv => SS.strs_at hi i v (by rw [Array.getElem?_toList]; exact hv)) (items.size - 0) 0 _ (by omega) (Nat.zero_le _) ⟨⟨_, Heap.get?_push_size _ rfl, rfl, rfl⟩, hl1.push _⟩ ?_ fun s' m hS' => ?_
        · exact ledSet_at prog w (Heap.get?_push_of_some _ hS)
        · obtain ⟨h', g', d', tk', os'⟩ := s'
          have eg : g' = s.gens := m.gens
          have ed : d' = s.drawn := m.drawn
          have eo : os' = s.os := m.os
          subst eg; subst ed; subst eo
          show wpAny _ _ _ _ _ _
          refine wpAny_pure ?_
          show wpAny _ _ (ret Value.none) _ _ _
          refine wpAny_pure ⟨rfl, h', tk', rfl, hS', fun b o hb e => m.heap b o ?_ (Heap.get?_push_of_some _ (Heap.get?_push_of_some _ e))⟩
          have b1 : b ≠ s.heap.objs.size := Nat.ne_of_lt hb
          have b2 : b ≠ (s.heap.push (ledSet w)).objs.size := by rw [Heap.size_push]; exact Nat.ne_of_lt (Nat.lt_succ_of_lt hb)
          simp only [List.mem_cons, List.not_mem_nil, or_false, not_or]
          exact ⟨b1, b2⟩
      · cases r₂ with
        | error e => exact hr₂
        | ok fl₂ =>
          cases fl₂ with
          | ret r =>
            obtain ⟨rfl, h', tk, rfl, hS', hk'⟩ := hr₂
            repeat (any_goals (first | assumption | wp_step))
            exact h _ _ hS' hk'
          | _ => exact hr₂.elim
    | _ => exact hr.elim
end
section
variable {X : Cx}
theorem strs_each : ∀ {vs : List Value} {l : List Str}, StrsAre vs l → PySem.W.EachIs (fun v b => ∃ t, v = Value.str b t) vs l
  | _, _, .nil => .nil
  | _, _, .cons x t r => .cons ⟨t, rfl⟩ (strs_each r)
theorem each_vals : ∀ {vs : List Value} {l : List Str}, PySem.W.EachIs (fun v b => ∃ t, v = Value.str b t) vs l → Vals (l.map V.str) vs
  | _, _, .nil => .nil
  | _, _, .cons h r => .cons h (each_vals r)
theorem merge_sortS (l : List Str) : l.mergeSort (PySem.W.dataLe false fun b : Str => PyData.str b) = sortS l := by
  rw [PySem.W.dataLe_str (fun b : Str => b)]
  have e : (fun a b : Str => decide (a.cps.toList ≤ b.cps.toList)) = fun a b => !slt b a := by
    funext a b
    unfold slt
    by_cases h : b.cps.toList < a.cps.toList
    · have h' : ¬ a.cps.toList ≤ b.cps.toList := fun q => List.not_lt.mpr q h
      simp [h, h']
    · have h' : a.cps.toList ≤ b.cps.toList := List.not_lt.mp h
      simp [h, h']
  rw [e]
  have tr : ∀ a b c : Str, (!slt b a) = true → (!slt c b) = true → (!slt c a) = true := fun a b c h1 h2 => by
    simp only [Bool.not_eq_true'] at h1 h2 ⊢
    exact slt_tr h1 h2
  have tot : ∀ a b : Str, (!slt b a || !slt a b) = true := fun a b => by
    cases h : slt b a with
    | false => rfl
    | true => rw [slt_tot h]; rfl
  refine ((List.mergeSort_perm l _).trans (sortS_perm l).symm).eq_of_pairwise (fun _ _ _ _ a b => leS_anti a b) ?_ (sortS_pw l)
  refine (List.pairwise_mergeSort tr tot l).imp fun {a b} h => ?_
  rw [slt_cps] at h
  simpa using h
theorem sortS_perm_eq {a b : List Str} (h : a.Perm b) : sortS a = sortS b :=
  (((sortS_perm a).trans h).trans (sortS_perm b).symm).eq_of_pairwise (fun _ _ _ _ a b => leS_anti a b) (sortS_pw a) (sortS_pw b)
/-- the texts of a set, as its members -/
theorem tx_members {P : Program} {w : World} {D : PySem.Froz.SD} {l : List Str} (F : PySem.Froz.TxOk P w D l) (hn : l.Nodup) : ∃ l', l'.Perm l ∧ StrsAre (D.1.toList.map (·.2)) l' := by
  have each : ∀ (es : List (Int × Value)), ElemsOf (PySem.strKind P w) es → ∃ l', StrsAre (es.map (·.2)) l' ∧ ∀ k, k ∈ l' ↔ ∃ e ∈ es, (PySem.strKind P w).is k e.2 = true := by
    intro es
    induction es with
    | nil => intro _; exact ⟨[], .nil, by simp⟩
    | cons e es ih =>
      intro h
      obtain ⟨l', h1, h2⟩ := ih fun x hx => h x (by simp [hx])
      obtain ⟨⟨k, hk, _⟩, _⟩ := h e (by simp)
      obtain ⟨t, ht⟩ := Value.isStrOf_shape hk
      refine ⟨k :: l', by rw [List.map_cons, ht]; exact .cons k t h1, fun j => ?_⟩
      rw [List.mem_cons, h2]
      constructor
      · rintro (rfl | ⟨x, hx, q⟩)
        · exact ⟨e, by simp, hk⟩
        · exact ⟨x, by simp [hx], q⟩
      · rintro ⟨x, hx, q⟩
        rcases List.mem_cons.mp hx with rfl | hx
        · left; exact (PySem.strKind P w).inj _ _ _ q hk
        · exact .inr ⟨x, hx, q⟩
  obtain ⟨l', h1, h2⟩ := each _ F.el
  have hl : l'.length = l.length := by
    rw [← StrsAre.len_eq h1, List.length_map, Array.length_toList]; exact F.sz
  have hmem : ∀ k, k ∈ l ↔ k ∈ l' := fun k => by rw [h2]; exact F.mem k
  have hdd := TxAt.len hn (xs := l') hmem
  have hnd' : l'.Nodup := dups_nodup _ l' (Nat.le_refl _) (by rw [← hdd.length_eq, hl])
  exact ⟨l', (List.perm_ext_iff_of_nodup hnd' hn).mpr fun k => (hmem k).symm, h1⟩
def strV : Value → Str
  | .str x _ => x
  | _ => Str.empty
theorem strs_of : ∀ (out : List Value), (∀ v ∈ out, ∃ x t, v = Value.str x t) → StrsAre out (out.map strV)
  | [], _ => .nil
  | v :: r, h => by
    obtain ⟨x, t, rfl⟩ := h v (by simp)
    exact .cons x t (strs_of r fun u hu => h u (by simp [hu]))
theorem strV_are : ∀ {vs : List Value} {l : List Str}, StrsAre vs l → vs.map strV = l ∧ ∀ v ∈ vs, ∃ x t, v = Value.str x t
  | _, _, .nil => ⟨rfl, by simp⟩
  | _, _, .cons x t r => by
    obtain ⟨a, b⟩ := strV_are r
    refine ⟨by rw [List.map_cons, a]; rfl, fun v hv => ?_⟩
    rcases List.mem_cons.mp hv with e | e
    · exact ⟨x, t, e⟩
    · exact b v e
def tSrtT (K : PySem.W.Frag) (ta : TE) : TE := fun σ H Q => ta σ H fun x H1 => ∃ l, ∃ xs : List Str, x = .ref l ∧ SqT K H1 l (xs.map V.str) ∧ xs.length < 4000 ∧ xs.eraseDups.length < 64 ∧ ∀ p, H1 p = none → Q (.ref p) (upd H1 p (.lst ((sortS xs.eraseDups).map V.str)))
theorem pe_sortset {a : Expr} {ta : TE} {p p2 q pos : Pos} (hc : X.calm = true) (hu : X.A.units + 65 < cLine) (hg : Gl X "sorted") (hm : X.mg "sorted" = none) (hg2 : Gl X "set") (hm2 : X.mg "set" = none) (ha : PE X a ta) (na : starEach [a] X.env = (false, eval a X.env) :: starEach [] X.env) :
    PE X (.Call (.Name "sorted" p) [.Call (.Name "set" p2) [a] [] q] [] pos) (tSrtT X.K ta) := by
  refine ⟨fun pins s σ H Q I hq => Call_ (ld_blt I hg hm boot_sorted (PyProof.Rows.callWith_builtin1 (PyProof.Rows.args_cons (Call_ (ld_blt I hg2 hm2 boot_set ?_)) rfl) rfl rfl))⟩
  refine PyProof.Rows.callWith_type1 (PyProof.Rows.args_cons (thn (ha.run pins s σ H _ I hq) fun v s1 ⟨x, H1, I1, r1, q1⟩ => PyProof.Rows.args_nil ?_) na) na rfl
  obtain ⟨l, xs, rfl, hx, few, few2, q1⟩ := q1
  cases r1
  obtain ⟨its, r, pl, hz⟩ := I1.tuple hx
  refine setT_of_tuple (I1.ok.hd hc) pl (by simpa using strsAre_of r) few fun h' tk hS hk => PyProof.Rows.args_nil ?_
  have I2 : Inv X pins σ H1 { s1 with heap := h', toks := tk } := I1.kept fun b o e => hk b o (Heap.lt_size e) e
  obtain ⟨D, l0, ho, F, hr, hnd, hmm⟩ := hS
  have hpl := TxAt.len hnd hmm
  obtain ⟨l1, hp1, hs1⟩ := tx_members F hnd
  have hsz : D.1.size < scanBound := by
    have h1 : D.1.size = l0.length := F.sz
    have h2 := hpl.length_eq
    unfold scanBound; omega
  refine Calls.call_function_entry PyProof.Rows.kind_sorted PyProof.Rows.plain_sorted PyProof.Rows.entry_sorted (PyProof.Rows.args_sorted1 _) ?_
  unfold Builtin.«sorted»
  refine wpAny_bind (m := checkCount "sorted" 1 1 _) (wpAny_pure ?_)
  refine wpAny_bind (L2.collect_set (A := X.A.in1) (I1.ok.hd hc) (es := D.1) (ep := D.2.1) (t := D.2.2) ⟨_, ho, rfl, rfl⟩ F.fit hsz hr.1 hr.2 fun s2 out k2 hz2 g2 o2 hp2 => ?_)
  obtain ⟨eV, kV⟩ := strV_are hs1
  have hs2 := strs_of out fun v hv => kV v (hp2.mem_iff.mp hv)
  have hp3 : (out.map strV).Perm l1 := by rw [← eV]; exact hp2.map _
  have hp4 := hp3.trans (hp1.trans hpl)
  have hlo : out.length < 64 := by
    have h2 := hp4.length_eq
    rw [List.length_map] at h2
    omega
  refine wpAny_bind (wpAny_newList ?_ (by rw [sizeLine_eq]; omega))
  have hoL : (s2.heap.push (seqObj "list" out.toArray 0)).get? s2.heap.objs.size = some (seqObj "list" out.toArray 0) := Heap.get?_push_size _ rfl
  show wpAny _ _ _ _ _ { s2 with heap := s2.heap.push (seqObj "list" out.toArray 0) }
  refine wpAny_bind (wpAny_holding (PySem.W.list_sort_data (s := { s2 with heap := s2.heap.push (seqObj "list" out.toArray 0) }) (R := fun v b => ∃ t, v = Value.str b t) (enc := fun b : Str => PyData.str b) (bs := out.map strV) hoL (strs_each hs2) ((strs_each hs2).mono fun v b ⟨t, e⟩ => ⟨[], by rw [e]; exact .str b t, by simp⟩) (PySem.W.AllAlike.of fun b b' => by simp [PySem.W.alike]) (PySem.W.Sortable.others fun b => ⟨by simp, by simp⟩) (by rw [List.length_map, sizeLine_eq]; omega) (fun b h => ?_) fun out' ho' eo => ?_))
  · show X.A.units + 1 + 1 + 0 < cLine
    omega
  · rw [merge_sortS, sortS_perm_eq hp4] at eo
    obtain ⟨c, hcz⟩ := PyProof.Rows.sortedHeap_at (vs := out) (out := List.toArray out') hoL
    have hlen : ((sortS xs.eraseDups).map V.str).length ≤ sizeLine := by
      rw [List.length_map, (sortS_perm _).length_eq, sizeLine_eq]; omega
    have hkp : ∀ b u, h'.get? b = some u → (sortedHeap (s2.heap.push (seqObj "list" out.toArray 0)) s2.heap.objs.size out (List.toArray out')).get? b = some u := fun b u e => by
      have q1 := k2 b u e
      have hlt := Heap.lt_size q1
      rw [sortedHeap_old (Nat.ne_of_lt hlt) (by rw [Heap.size_push]; exact Nat.lt_succ_of_lt hlt)]
      exact Heap.get?_push_of_some _ q1
    have hnn : H1 s2.heap.objs.size = none := I2.hok.fresh hz2
    have J : Inv X pins σ (upd H1 s2.heap.objs.size (.lst ((sortS xs.eraseDups).map V.str))) { (show Shared from { s1 with heap := h', toks := tk }) with heap := sortedHeap (s2.heap.push (seqObj "list" out.toArray 0)) s2.heap.objs.size out (List.toArray out'), gens := s2.gens, drawn := s2.drawn, toks := s2.toks } :=
      I2.call (ch := []) (L2.Un.laid hkp hz2 hnn) (I2.hok.laid hkp hz2 ⟨hlen, _, c, each_vals eo, hcz⟩) (by rw [g2]; exact I2.bare) (fun _ z => nomatch z)
    refine wpAny_pure ⟨_, rfl, .ref _, _, ?_, rfl, q1 _ hnn⟩
    have e : ({ s2 with heap := sortedHeap (s2.heap.push (seqObj "list" out.toArray 0)) s2.heap.objs.size out (List.toArray out') } : Shared) = { (show Shared from { s1 with heap := h', toks := tk }) with heap := sortedHeap (s2.heap.push (seqObj "list" out.toArray 0)) s2.heap.objs.size out (List.toArray out'), gens := s2.gens, drawn := s2.drawn, toks := s2.toks } := by
      cases s2
      simp only at o2
      subst o2
      rfl
    show Inv X pins σ _ { s2 with heap := sortedHeap (s2.heap.push (seqObj "list" out.toArray 0)) s2.heap.objs.size out (List.toArray out') }
    rw [e]; exact J
end
section
variable {T : Tb} {W : WX} {X : Cx} {C : Cal}
theorem s_sortset (hK : X.K = T.K) {a : E} {x : Expr} {p p2 q pos : Pos} (hc : X.calm = true) (hu : X.A.units + 65 < cLine) (hg : Gl X "sorted") (hm : X.mg "sorted" = none) (hg2 : Gl X "set") (hm2 : X.mg "set" = none) (ha : PE X x (tI T W (ev C a))) (na : starEach [x] X.env = (false, eval x X.env) :: starEach [] X.env) :
    PE X (.Call (.Name "sorted" p) [.Call (.Name "set" p2) [x] [] q] [] pos) (tI T W (ev C (.sortset a))) := by
  have pm := pe_sortset (p := p) (p2 := p2) (q := q) (pos := pos) hc hu hg hm hg2 hm2 ha na
  rw [hK] at pm
  refine PE.imp pm fun σ H Q ⟨g, S, e, s, r, q⟩ => ?_
  simp only [ev] at q
  refine ⟨g, S, e, s, r, (GoR.bind q).imp fun g1 H1 v d S1 l1 s1 rd _ q1 => ?_⟩
  obtain ⟨ss, hs, q2⟩ := orNo_ok q1
  obtain ⟨hl, q3⟩ := ite_ok q2
  obtain ⟨hl1, hl2⟩ := of_decide_eq_true hl
  cases rd with
  | tup qx lx rx =>
    have e1 := rx.strs (ns := ss) (by simpa [D.tup?] using hs)
    subst e1
    exact ⟨_, ss, rfl, sqT_mono s1.sub qx.1, hl1, hl2, mkL_ok (m := false) s1 (by rw [List.length_map, (sortS_perm _).length_eq, sizeLine_eq]; omega) (rds_strs _ _) (by simpa only [mkL, Bool.false_eq_true, if_false] using q3)⟩
  | _ => simp [D.tup?] at hs
end
end CT

end
section
set_option maxHeartbeats 4000000
/-! callturn proofs, part rd: dict(zip(a, b)), a and b lists or tuples -/
namespace CT
open PySem PySem.Spec PyProof.Rows L2
section
variable {prog : Program} {w : World} {A : Around} {E : Value → Shared → Prop} {s : Shared} {z TI TO i1 i2 T : Addr} {f : Bool} {oT : Obj} {fp1 fp2 : List Addr} {n1 n2 i : Nat} {P1 P2 : Nat → Value → Prop} {St1 St2 : Nat → Heap → Prop}
theorem zh_item {Q : Value → Shared → Prop} (S : ZipSep2 z TI TO i1 i2 fp1 fp2) (D1 : Draws prog w A i1 fp1 n1 P1 St1) (D2 : Draws prog w A i2 fp2 n2 P2 St2) (hz : IsZipHeld s.heap z TI TO T f) (hT : s.heap.get? T = some oT)
    (hTI : IsTupOf2 s.heap TI (.ref i1) (.ref i2)) (st1 : St1 i s.heap) (st2 : St2 i s.heap) (l1 : i < n1) (l2 : i < n2)
    (hQ : ∀ x1 x2 h' tk, P1 i x1 → P2 i x2 → IsZipHeld h' z TI TO T true → St1 (i + 1) h' → St2 (i + 1) h' → IsTupOf2 h' s.heap.objs.size x1 x2 →
      (∀ c o, c ≠ z → c ≠ i1 → c ≠ i2 → s.heap.get? c = some o → h'.get? c = some o) → Q (.ref s.heap.objs.size) { s with heap := h', toks := tk }) :
    wpAny (model prog w) A (Builtin.«zip.__next__» ⟨[.ref z], []⟩) (fun fin s' => ∃ v, fin = .done (.ret v) ∧ Q v s') E s := by
  obtain ⟨hp, g, d, tk0, os⟩ := s
  show wpAny _ _ (field (.ref z) 2 >>= _) _ _ _
  refine wpAny_bind (wpAny_field hz rfl (x := .bool false) rfl ?_)
  show wpAny _ _ (field (.ref z) 3 >>= _) _ _ _
  refine wpAny_bind (wpAny_field hz rfl (x := .ref TI) rfl (wpAny_bind (wpAny_seqItems hTI rfl ?_)))
  show wpAny _ _ (Builtin.SmallTypes.ownedTupleIsFree (.ref z) >>= _) _ _ _
  refine wpAny_bind (wpAny_tupleHeld_zip hz hT fun g1 hz1 hs1 => ?_)
  replace hs1 : Heap.SameBut z hp g1 := hs1
  simp only [Bool.false_eq_true, if_false]
  refine wpAny_bind ?_
  rw [← Array.forIn_toList]
  simp only [List.forIn_cons, List.forIn_nil]
  refine wpAny_bind (wpAny_bind (wpAny_holding ?_))
  show wpAny _ _ (Builtin.SmallTypes.nextOf (.ref i1) >>= _) _ _ ⟨g1, g, d, tk0, os⟩
  refine wpAny_bind (D1.item i _ _ _ l1 (D1.over st1 hs1 S.zf1) fun x1 g2 tk1 hx1 sn1 hs2 => wpAny_pure (wpAny_pure ?_))
  replace hs2 : Heap.SameBut i1 g1 g2 := hs2
  refine wpAny_bind (wpAny_bind (wpAny_holding ?_))
  show wpAny _ _ (Builtin.SmallTypes.nextOf (.ref i2) >>= _) _ _ ⟨g2, g, d, tk1, os⟩
  refine wpAny_bind (D2.item i _ _ _ l2 (D2.over (D2.over st2 hs1 S.zf2) hs2 S.sep1_2) fun x2 g3 tk2 hx2 sn2 hs3 => wpAny_pure (wpAny_pure (wpAny_pure ?_)))
  replace hs3 : Heap.SameBut i2 g2 g3 := hs3
  show wpAny _ _ (newTuple [x1, x2] >>= _) _ _ _
  refine wpAny_bind (wpAny_newTuple ?_)
  have hsz : g3.objs.size = hp.objs.size := by rw [hs3.1, hs2.1, hs1.1]
  have hz3 : IsZipHeld g3 z TI TO T true := hs3.extBut _ _ S.zi2 (hs2.extBut _ _ S.zi1 hz1)
  have j1 : St1 (i + 1) g3 := D1.over sn1 hs3 S.sep2_1
  have up : ∀ c o, g3.get? c = some o → (g3.push { cls := .type "tuple", data := .seq #[x1, x2] }).get? c = some o := fun c o e => Heap.get?_push_of_some _ e
  refine wpAny_pure ⟨_, rfl, ?_⟩
  show Q (.ref g3.objs.size) _
  have ht : IsTupOf2 (g3.push { cls := .type "tuple", data := .seq #[x1, x2] }) g3.objs.size x1 x2 := Heap.get?_push_size _ rfl
  rw [hsz] at ht ⊢
  exact hQ x1 x2 _ tk2 hx1 hx2 (up _ _ hz3) (D1.frame _ _ _ j1 fun b _ o e => up b o e) (D2.frame _ _ _ sn2 fun b _ o e => up b o e) ht fun c o c1 c2 c3 e => up c o (hs3.extBut _ _ c3 (hs2.extBut _ _ c2 (hs1.extBut _ _ c1 e)))
theorem zh_end {Q : Fin → Shared → Prop} (S : ZipSep2 z TI TO i1 i2 fp1 fp2) (D1 : Draws prog w A i1 fp1 n1 P1 St1) (D2 : Draws prog w A i2 fp2 n2 P2 St2) (hz : IsZipHeld s.heap z TI TO T f) (hT : s.heap.get? T = some oT)
    (hTI : IsTupOf2 s.heap TI (.ref i1) (.ref i2)) (st1 : St1 i s.heap) (st2 : St2 i s.heap) (hle1 : i ≤ n1) (hle2 : i ≤ n2) (hend : i = n1 ∨ i = n2)
    (hE : ∀ h' tk e, (∀ c o, c ≠ z → c ≠ i1 → c ≠ i2 → s.heap.get? c = some o → h'.get? c = some o) → (∃ o, h'.get? e = some o ∧ o.cls = .type "StopIteration") → E (.ref e) { s with heap := h', toks := tk }) :
    wpAny (model prog w) A (Builtin.«zip.__next__» ⟨[.ref z], []⟩) Q E s := by
  obtain ⟨hp, g, d, tk0, os⟩ := s
  show wpAny _ _ (field (.ref z) 2 >>= _) _ _ _
  refine wpAny_bind (wpAny_field hz rfl (x := .bool false) rfl ?_)
  show wpAny _ _ (field (.ref z) 3 >>= _) _ _ _
  refine wpAny_bind (wpAny_field hz rfl (x := .ref TI) rfl (wpAny_bind (wpAny_seqItems hTI rfl ?_)))
  show wpAny _ _ (Builtin.SmallTypes.ownedTupleIsFree (.ref z) >>= _) _ _ _
  refine wpAny_bind (wpAny_tupleHeld_zip hz hT fun g1 hz1 hs1 => ?_)
  replace hs1 : Heap.SameBut z hp g1 := hs1
  simp only [Bool.false_eq_true, if_false]
  refine wpAny_bind ?_
  rw [← Array.forIn_toList]
  simp only [List.forIn_cons, List.forIn_nil]
  refine wpAny_bind (wpAny_bind (wpAny_holding ?_))
  show wpAny _ _ (Builtin.SmallTypes.nextOf (.ref i1) >>= _) _ _ ⟨g1, g, d, tk0, os⟩
  by_cases l1 : i < n1
  · refine wpAny_bind (D1.item i _ _ _ l1 (D1.over st1 hs1 S.zf1) fun x1 g2 tk1 hx1 sn1 hs2 => wpAny_pure (wpAny_pure ?_))
    replace hs2 : Heap.SameBut i1 g1 g2 := hs2
    have e2 : i = n2 := by omega
    refine wpAny_bind (wpAny_bind (wpAny_holding ?_))
    show wpAny _ _ (Builtin.SmallTypes.nextOf (.ref i2) >>= _) _ _ ⟨g2, g, d, tk1, os⟩
    refine wpAny_bind (D2.done ⟨g2, g, d, tk1, os⟩ _ _ (by rw [← e2]; exact D2.over (D2.over st2 hs1 S.zf2) hs2 S.sep1_2) fun q e hq he => ?_)
    exact hE q tk1 e (fun c o c1 c2 c3 x => hq _ _ c3 (hs2.extBut _ _ c2 (hs1.extBut _ _ c1 x))) he
  · have e1 : i = n1 := by omega
    refine wpAny_bind (D1.done ⟨g1, g, d, tk0, os⟩ _ _ (by rw [← e1]; exact D1.over st1 hs1 S.zf1) fun q e hq he => ?_)
    exact hE q tk0 e (fun c o c1 c2 _ x => hq _ _ c2 (hs1.extBut _ _ c1 x)) he
theorem zh_nextI {Q : Option Value → Shared → Prop} (S : ZipSep2 z TI TO i1 i2 fp1 fp2) (D1 : Draws prog w A.in1 i1 fp1 n1 P1 St1) (D2 : Draws prog w A.in1 i2 fp2 n2 P2 St2) (hz : IsZipHeld s.heap z TI TO T f) (hT : s.heap.get? T = some oT)
    (hTI : IsTupOf2 s.heap TI (.ref i1) (.ref i2)) (st1 : St1 i s.heap) (st2 : St2 i s.heap) (l1 : i < n1) (l2 : i < n2)
    (hQ : ∀ x1 x2 h' tk, P1 i x1 → P2 i x2 → IsZipHeld h' z TI TO T true → St1 (i + 1) h' → St2 (i + 1) h' → IsTupOf2 h' s.heap.objs.size x1 x2 →
      (∀ c o, c ≠ z → c ≠ i1 → c ≠ i2 → s.heap.get? c = some o → h'.get? c = some o) → Q (some (.ref s.heap.objs.size)) { s with heap := h', toks := tk }) : wpAny (model prog w) A (pyNext (.ref z)) Q E s := by
  have ty : s.TypeIs (.ref z) "zip" := ⟨_, hz, rfl⟩
  unfold pyNext
  exact wpAny_bind (wpAny_attempt (wpAny_callSpecial?_slot (name := Str.ofString "__next__") ty F.slot_zip_next
    (wpAny_call_entry F.slot_zip_next ty F.entry_zip_next (zh_item S D1 D2 hz hT hTI st1 st2 l1 l2 fun x1 x2 h' tk y1 y2 b1 b2 b3 b4 b5 => wpAny_pure (hQ x1 x2 h' tk y1 y2 b1 b2 b3 b4 b5)) (F.args_zip_next_1 _))))
theorem zh_nextE {Q : Option Value → Shared → Prop} (S : ZipSep2 z TI TO i1 i2 fp1 fp2) (D1 : Draws prog w A.in1 i1 fp1 n1 P1 St1) (D2 : Draws prog w A.in1 i2 fp2 n2 P2 St2) (hz : IsZipHeld s.heap z TI TO T f) (hT : s.heap.get? T = some oT)
    (hTI : IsTupOf2 s.heap TI (.ref i1) (.ref i2)) (st1 : St1 i s.heap) (st2 : St2 i s.heap) (hle1 : i ≤ n1) (hle2 : i ≤ n2) (hend : i = n1 ∨ i = n2)
    (hQ : ∀ h' tk, (∀ c o, c ≠ z → c ≠ i1 → c ≠ i2 → s.heap.get? c = some o → h'.get? c = some o) → Q none { s with heap := h', toks := tk }) : wpAny (model prog w) A (pyNext (.ref z)) Q E s := by
  have ty : s.TypeIs (.ref z) "zip" := ⟨_, hz, rfl⟩
  unfold pyNext
  refine wpAny_bind (wpAny_attempt (wpAny_callSpecial?_slot (name := Str.ofString "__next__") ty F.slot_zip_next
    (wpAny_call_entry F.slot_zip_next ty F.entry_zip_next (zh_end S D1 D2 hz hT hTI st1 st2 hle1 hle2 hend fun h' tk e hk he => ?_) (F.args_zip_next_1 _))))
  obtain ⟨o, ho, hc⟩ := he
  exact wpAny_bind (wpAny_isInstance (T := "StopIteration") (b := true) ⟨o, ho, hc⟩ isSubtype_stop (wpAny_pure (hQ _ _ hk)))
end
section
variable {prog : Program} {w : World} {z TI TO i1 i2 : Addr} {fp1 fp2 : List Addr} {n1 n2 : Nat} {P1 P2 : Nat → Value → Prop} {St1 St2 : Nat → Heap → Prop}
/-- a zip over any two, as what dict() takes -/
theorem zipArg (S : ZipSep2 z TI TO i1 i2 fp1 fp2) (there : ∀ h, St1 0 h → St2 0 h → ∀ b ∈ fp1 ++ fp2, ∃ o, h.get? b = some o)
    (D1 : ∀ A : Around, A.handled = none → Draws prog w A.in1 i1 fp1 n1 P1 St1) (D2 : ∀ A : Around, A.handled = none → Draws prog w A.in1 i2 fp2 n2 P2 St2) :
    PairArg prog w "zip" z (z :: TI :: TO :: (fp1 ++ fp2)) [z, TO, i1, i2] (min n1 n2) (fun i k v => P1 i k ∧ P2 i v)
      (fun h => IsZip h z TI TO .none ∧ IsTupOf2 h TI (.ref i1) (.ref i2) ∧ (∃ a b, IsTupOf2 h TO a b) ∧ St1 0 h ∧ St2 0 h) where
  type := fun s ok => ⟨_, ok.1, rfl⟩
  notDict := by decide
  keep := fun h h' ok hk => by
    obtain ⟨hz, hTI, ⟨a, b, hTO⟩, h1, h2⟩ := ok
    exact ⟨hk _ _ hz, hk _ _ hTI, ⟨a, b, hk _ _ hTO⟩, (D1 callerA rfl).frame _ _ _ h1 fun b _ o e => hk b o e, (D2 callerA rfl).frame _ _ _ h2 fun b _ o e => hk b o e⟩
  there := fun h ok b hb => by
    obtain ⟨hz, hTI, ⟨a, c, hTO⟩, h1, h2⟩ := ok
    rcases List.mem_cons.mp hb with rfl | hb
    · exact ⟨_, hz⟩
    rcases List.mem_cons.mp hb with rfl | hb
    · exact ⟨_, hTI⟩
    rcases List.mem_cons.mp hb with rfl | hb
    · exact ⟨_, hTO⟩
    · exact there h h1 h2 b hb
  sub := fun b hb => by
    have hb' : b = z ∨ b = TO ∨ b = i1 ∨ b = i2 := by simpa using hb
    have m1 := S.mem1
    have m2 := S.mem2
    rcases hb' with rfl | rfl | rfl | rfl <;> simp [*]
  noKeys := fun A s Q E hA ok h => getAttrOr_miss_zip ok.1 rfl rfl rfl zip_no_keys (by decide +kernel) hA h
  iter := fun A s d Q E hA ok hd hdf h => by
    obtain ⟨hz, hTI, ⟨a, b, hTO⟩, h1, h2⟩ := ok
    have E1 := D1 A hA
    have E2 := D2 A hA
    have dz : d ≠ z := fun e => hdf (by simp [e])
    have dTI : d ≠ TI := fun e => hdf (by simp [e])
    have dTO : d ≠ TO := fun e => hdf (by simp [e])
    have df1 : d ∉ fp1 := fun e => hdf (by simp [e])
    have df2 : d ∉ fp2 := fun e => hdf (by simp [e])
    have di1 : d ≠ i1 := fun e => df1 (e ▸ S.mem1)
    have di2 : d ≠ i2 := fun e => df2 (e ▸ S.mem2)
    refine wpAny_pyIter_zip hz (h z [z, TO, i1, i2] (fun i h => IsTupOf2 h TI (.ref i1) (.ref i2) ∧ St1 i h ∧ St2 i h ∧
      ((IsZip h z TI TO .none ∧ ∃ a b, IsTupOf2 h TO a b) ∨ ∃ T f oT, IsZipHeld h z TI TO T f ∧ h.get? T = some oT ∧ T ≠ z ∧ T ≠ i1 ∧ T ≠ i2 ∧ T ≠ d)) s.heap s.toks ?_
      ⟨hTI, h1, h2, .inl ⟨hz, a, b, hTO⟩⟩ (fun _ _ e => e) fun b hb => .inl hb)
    refine ⟨fun hm => ?_, fun i g1 g2 st hk => ?_, fun i s₁ Q₁ E₁ hi st hds hQ => ?_, fun s₁ Q₁ E₁ st hQ => ?_⟩
    · have hm' : d = z ∨ d = TO ∨ d = i1 ∨ d = i2 := by simpa using hm
      rcases hm' with e | e | e | e
      · exact dz e
      · exact dTO e
      · exact di1 e
      · exact di2 e
    · obtain ⟨hTI, s1, s2, hz⟩ := st
      refine ⟨hk _ _ (Ne.symm dTI) hTI, E1.frame _ _ _ s1 fun b hb o e => hk b o (fun q => df1 (q ▸ hb)) e, E2.frame _ _ _ s2 fun b hb o e => hk b o (fun q => df2 (q ▸ hb)) e, ?_⟩
      rcases hz with ⟨hz, a, b, hTO⟩ | ⟨T, f, oT, hz, hT, r1, r2, r3, r4⟩
      · exact .inl ⟨hk _ _ (Ne.symm dz) hz, a, b, hk _ _ (Ne.symm dTO) hTO⟩
      · exact .inr ⟨T, f, oT, hk _ _ (Ne.symm dz) hz, hk _ _ r4 hT, r1, r2, r3, r4⟩
    · obtain ⟨hTI, s1, s2, hz⟩ := st
      have l1 : i < n1 := by omega
      have l2 : i < n2 := by omega
      have lt : ∀ {c o}, s₁.heap.get? c = some o → s₁.heap.objs.size ≠ c := fun e => Nat.ne_of_gt (Heap.lt_size e)
      have m1 : s₁.heap.objs.size ≠ i1 := by obtain ⟨_, e⟩ := E1.live _ _ s1; exact lt e
      have m2 : s₁.heap.objs.size ≠ i2 := by obtain ⟨_, e⟩ := E2.live _ _ s2; exact lt e
      rcases hz with ⟨hz, a, b, hTO⟩ | ⟨T, f, oT, hz, hT, r1, r2, r3, r4⟩
      · refine wpAny_pyNext_zipD2_item S E1 E2 hz hTI hTO s1 s2 l1 l2 fun x1 x2 h' tk y1 y2 b1 b2 d1 d2 b5 b6 hk => ?_
        exact hQ s₁.heap.objs.size x1 x2 h' tk ⟨y1, y2⟩ (.inl ⟨_, b5, rfl, _, rfl⟩) ⟨hk _ _ S.TIz S.TITO S.TIi1 S.TIi2 hTI, d1, d2, .inr ⟨s₁.heap.objs.size, false, _, b1, b5, lt hz, m1, m2, Nat.ne_of_gt hds⟩⟩
          fun c o hc e => hk c o (fun x => hc (by simp [x])) (fun x => hc (by simp [x])) (fun x => hc (by simp [x])) (fun x => hc (by simp [x])) e
      · refine zh_nextI S E1 E2 hz hT hTI s1 s2 l1 l2 fun x1 x2 h' tk y1 y2 b1 d1 d2 b5 hk => ?_
        exact hQ s₁.heap.objs.size x1 x2 h' tk ⟨y1, y2⟩ (.inl ⟨_, b5, rfl, _, rfl⟩) ⟨hk _ _ S.TIz S.TIi1 S.TIi2 hTI, d1, d2, .inr ⟨T, true, oT, b1, hk _ _ r1 r2 r3 hT, r1, r2, r3, r4⟩⟩
          fun c o hc e => hk c o (fun x => hc (by simp [x])) (fun x => hc (by simp [x])) (fun x => hc (by simp [x])) e
    · obtain ⟨hTI, s1, s2, hz⟩ := st
      have hend : min n1 n2 = n1 ∨ min n1 n2 = n2 := by omega
      rcases hz with ⟨hz, a, b, hTO⟩ | ⟨T, f, oT, hz, hT, r1, r2, r3, r4⟩
      · exact wpAny_pyNext_zipD2_end S E1 E2 hz hTI hTO s1 s2 (Nat.min_le_left ..) (Nat.min_le_right ..) hend fun h' tk hk => hQ h' tk fun c o hc e => hk c o (fun x => hc (by simp [x])) (fun x => hc (by simp [x])) (fun x => hc (by simp [x])) (fun x => hc (by simp [x])) e
      · exact zh_nextE S E1 E2 hz hT hTI s1 s2 (Nat.min_le_left ..) (Nat.min_le_right ..) hend fun h' tk hk => hQ h' tk fun c o hc e => hk c o (fun x => hc (by simp [x])) (fun x => hc (by simp [x])) (fun x => hc (by simp [x])) e
end
/-- a list or a tuple, as what zip takes -/
theorem row_at {prog : Program} {w : World} {l : Addr} {its : Array Value} {h : Heap} (hl : h.IsList l its ∨ h.IsTuple l its) :
    ∃ (o : Obj) (H : Heap → Prop) (St : Addr → Nat → Heap → Prop), Begins (.ref l) o H ∧ H h ∧ (∀ it, l ≠ it → (∀ A : Around, A.handled = none → Draws prog w A it [it, l] its.size (fun i v => its[i]? = some v) (St it)) ∧
      (∀ h', h'.get? it = some o → H h' → St it 0 h') ∧ ∀ h', St it 0 h' → ∀ b ∈ [it, l], ∃ u, h'.get? b = some u) := by
  rcases hl with hl | hl
  · refine ⟨_, _, fun it i h => h.IsListIter it l i ∧ h.IsList l its, begins_list l its, hl, fun it hne => ⟨fun A hA => Draws.list hA it l hne its, fun h' e hH => ⟨⟨_, e, rfl, rfl⟩, hH⟩, fun h' st b hb => ?_⟩⟩
    have hb' : b = it ∨ b = l := by simpa using hb
    obtain ⟨⟨o1, e1, _⟩, ⟨o2, e2, _⟩⟩ := st
    rcases hb' with rfl | rfl
    · exact ⟨_, e1⟩
    · exact ⟨_, e2⟩
  · refine ⟨_, _, fun it i h => h.IsTupleIter it l i ∧ h.IsTuple l its, begins_tuple l its, hl, fun it hne => ⟨fun A hA => Draws.tuple hA it l hne its, fun h' e hH => ⟨⟨_, e, rfl, rfl⟩, hH⟩, fun h' st b hb => ?_⟩⟩
    have hb' : b = it ∨ b = l := by simpa using hb
    obtain ⟨⟨o1, e1, _⟩, ⟨o2, e2, _⟩⟩ := st
    rcases hb' with rfl | rfl
    · exact ⟨_, e1⟩
    · exact ⟨_, e2⟩
theorem dict_zip {prog : Program} {w : World} {A : Around} {E : Value → Shared → Prop} {s : Shared} {l1 l2 : Addr} {xs ys : Array Value} {kvs : List (Key × Value)} {Q : Value → Shared → Prop} (hh : A.handled = none)
    (h1 : s.heap.IsList l1 xs ∨ s.heap.IsTuple l1 xs) (h2 : s.heap.IsList l2 ys ∨ s.heap.IsTuple l2 ys) (hk : kvs.length = min xs.size ys.size) (hkv : ∀ (i : Nat) key v, xs[i]? = some key → ys[i]? = some v → ∃ k, kvs[i]? = some (k, v) ∧ (mixKind prog w).is k key = true) (hsz : kvs.length ≤ sizeLine)
    (h : ∀ h' tk p, h'.DictOf (mixKind prog w) p (merged [] kvs) → s.heap.objs.size ≤ p → (∀ b o, s.heap.get? b = some o → h'.get? b = some o) → Q (.ref p) { s with heap := h', toks := tk }) :
    wpAny (model prog w) A (call (.type "zip") [.ref l1, .ref l2]) (fun v s1 => wpAny (model prog w) A (call (.type "dict") [v]) Q E s1) E s := by
  obtain ⟨o1, H1, St1, B1, k1, d1⟩ := row_at (prog := prog) (w := w) h1
  obtain ⟨o2, H2, St2, B2, k2, d2⟩ := row_at (prog := prog) (w := w) h2
  have lt : ∀ {l : Addr} {zs : Array Value}, (s.heap.IsList l zs ∨ s.heap.IsTuple l zs) → l < s.heap.objs.size := fun h => by
    rcases h with ⟨o, e, _⟩ | ⟨o, e, _⟩ <;> exact Heap.lt_size e
  have lt1 := lt h1
  have lt2 := lt h2
  obtain ⟨a1, a2, a3⟩ := d1 s.heap.objs.size (Nat.ne_of_lt lt1)
  obtain ⟨b1, b2, b3⟩ := d2 (s.heap.objs.size + 1) (Nat.ne_of_lt (Nat.lt_succ_of_lt lt2))
  refine zip_begins2 B1 B2 k1 k2 fun h' hz hTI hTO e1 e2 hs keep => ?_
  have S : ZipSep2 (s.heap.objs.size + 4) (s.heap.objs.size + 2) (s.heap.objs.size + 3) s.heap.objs.size (s.heap.objs.size + 1) [s.heap.objs.size, l1] [s.heap.objs.size + 1, l2] :=
    zip_sep2 (fp1 := [l1]) (fp2 := [l2]) (by intro b hb; simp at hb; subst hb; exact lt1) (by intro b hb; simp at hb; subst hb; exact lt2)
  refine call_dict_pairs (knd := mixKind prog w) (kvs := kvs) (zipArg S (fun h s1 s2 b hb => ?_) (fun A hA => a1 A.in1 (by simp [hA])) (fun A hA => b1 A.in1 (by simp [hA]))) hh ⟨hz, hTI, ⟨_, _, hTO⟩, a2 h' e1 (B1.keeps _ _ k1 keep), b2 h' e2 (B2.keeps _ _ k2 keep)⟩ ⟨hk, fun i key v hr => hkv i key v hr.1 hr.2⟩ (by rw [← hk]; exact hsz) fun g tk hd gk => ?_
  · rcases List.mem_append.mp hb with hb | hb
    · exact a3 h s1 b hb
    · exact b3 h s2 b hb
  · refine h g tk _ hd (by show s.heap.objs.size ≤ h'.objs.size; rw [hs]; omega) fun b o e => gk b o (fun hm => ?_) (keep b o e)
    have hb := Heap.lt_size e
    have hm' : (b : Nat) = s.heap.objs.size + 4 ∨ (b : Nat) = s.heap.objs.size + 3 ∨ (b : Nat) = s.heap.objs.size ∨ (b : Nat) = s.heap.objs.size + 1 := by simpa using hm
    have key : ∀ m : Nat, ¬ (s.heap.objs.size + m < s.heap.objs.size) := fun m => by omega
    rcases hm' with e | e | e | e
    · exact key 4 (e ▸ hb)
    · exact key 3 (e ▸ hb)
    · exact key 0 (e ▸ hb)
    · exact key 1 (e ▸ hb)
section
variable {T : Tb} {W : WX} {X : Cx} {C : Cal}
theorem kv_zip {ks : List Key} : ∀ {xs : List V} {us : List Value}, Vals xs us → KV (ks.zip xs) (ks.zip us) := by
  induction ks with
  | nil => intro xs us _; simp; exact .nil
  | cons k r ih =>
    intro xs us h
    cases h with
    | nil => simp; exact .nil
    | cons a b => rw [List.zip_cons_cons, List.zip_cons_cons]; exact .cons ⟨rfl, a⟩ (ih b)
theorem pe_dictzip {a b : Expr} {ta tb : TE} {p p2 q pos : Pos} (hc : X.calm = true) (hg : Gl X "dict") (hm : X.mg "dict" = none) (hg2 : Gl X "zip") (hm2 : X.mg "zip" = none) (ha : PE X a ta) (hb : PE X b tb)
    (na : starEach [a, b] X.env = (false, eval a X.env) :: starEach [b] X.env) (nb : starEach [b] X.env = (false, eval b X.env) :: starEach [] X.env) :
    PE X (.Call (.Name "dict" p) [.Call (.Name "zip" p2) [a, b] [] q] [] pos) (fun σ H Q => ta σ H fun x H1 => tb σ H1 fun y H2 => ∃ (l1 l2 : Addr) (ss : List Str) (ys : List V), x = .ref l1 ∧ y = .ref l2 ∧ (SqL X.K H2 l1 (ss.map V.str) ∨ SqT X.K H2 l1 (ss.map V.str)) ∧ (SqL X.K H2 l2 ys ∨ SqT X.K H2 l2 ys) ∧
      (∀ z, H2 z = none → Q (.ref z) (upd H2 z (.dK (mergeK [] ((ss.map Sum.inr).zip ys)))))) := by
  refine ⟨fun pins s σ H Q I hq => Call_ (ld_blt I hg hm boot_dict (PyProof.Rows.callWith_type1 (PyProof.Rows.args_cons (Call_ (ld_blt I hg2 hm2 boot_zip ?_)) rfl) rfl rfl))⟩
  refine PyProof.Rows.callWith_type1 (PyProof.Rows.args_cons (thn (ha.run pins s σ H _ I hq) fun v1 s1 ⟨x, H1, I1, r1, q1⟩ => PyProof.Rows.args_cons (thn (hb.run pins s1 σ H1 _ I1 q1) fun v2 s2 ⟨y, H2, I2, r2, q2⟩ => PyProof.Rows.args_nil ?_) nb) na) na (by rw [nb]; rfl)
  obtain ⟨l1, l2, ss, ys, rfl, rfl, hx, hy, q2⟩ := q2
  cases r1
  cases r2
  have row : ∀ {l : Addr} {zs : List V}, (SqL X.K H2 l zs ∨ SqT X.K H2 l zs) → ∃ its : List Value, Vals zs its ∧ (s2.heap.IsList l its.toArray ∨ s2.heap.IsTuple l its.toArray) ∧ zs.length ≤ sizeLine := fun {l zs} h => by
    rcases h with h | h
    · obtain ⟨its, r, pl, hz⟩ := I2.list h
      obtain ⟨o, n, ho, hc, hd, hdat⟩ := pl
      exact ⟨its, r, .inl ⟨o, ho, hc, n, hdat⟩, hz⟩
    · obtain ⟨its, r, pl, hz⟩ := I2.tuple h
      exact ⟨its, r, .inr pl, hz⟩
  obtain ⟨us, ru, hu, lu⟩ := row hx
  obtain ⟨vs, rv, hv, lv⟩ := row hy
  have el : us.length = ss.length := by rw [← ru.length, List.length_map]
  have evl : vs.length = ys.length := rv.length.symm
  refine wpAny_mono (dict_zip (Q := EP X pins σ Q) (kvs := (ss.map Sum.inr).zip vs) (I2.ok.hd hc) hu hv (by simp [el]) (fun i key v e1 e2 => ?_) (by rw [List.length_zip, List.length_map] at *; omega) fun h' tk z hd hz keep => ?_) (fun v s3 h3 => PyProof.Rows.args_nil h3) fun _ _ h => h
  · have e1' : us[i]? = some key := by simpa using e1
    have e2' : vs[i]? = some v := by simpa using e2
    obtain ⟨hi, e3⟩ := List.getElem?_eq_some_iff.mp e1'
    have his : i < ss.length := by omega
    refine ⟨.inr ss[i], ?_, ?_⟩
    · rw [List.getElem?_zip_eq_some]
      exact ⟨by simp [his], e2'⟩
    · obtain ⟨u', hu', ru'⟩ := ru.get (i := i) (x := V.str ss[i]) (by simp [his])
      rw [e1'] at hu'
      cases hu'
      obtain ⟨t, rfl⟩ := ru'
      exact mixKind_str _ _ _ _
  · have hm0 : (z == sysModules) = false := beq_eq_false_iff_ne.mpr (Nat.ne_of_gt (Nat.lt_of_lt_of_le I2.big hz))
    have kv : KV ((ss.map Sum.inr).zip ys) ((ss.map (Sum.inr : Str → Key)).zip vs) := kv_zip rv
    have hlen : (mergeK [] ((ss.map Sum.inr).zip ys)).length ≤ sizeLine := by
      refine Nat.le_trans (length_mergeK _ []) ?_
      rw [List.length_nil, List.length_zip, List.length_map] at *
      omega
    exact ⟨.ref z, _, I2.laid (t' := tk) keep hz (show ObjOk X.prog X.w _ _ _ (.dK _) from ⟨hlen, hm0, merged [] _, KV.merge kv .nil, hd⟩), rfl, q2 z (I2.hok.fresh hz)⟩
theorem take_zip {α β : Type} : ∀ (xs : List α) (ys : List β), xs.zip ys = (xs.take ys.length).zip (ys.take xs.length)
  | [], _ => by simp
  | _ :: _, [] => by simp
  | x :: xs, y :: ys => by simp [take_zip xs ys]
theorem s_dictzip (hK : X.K = T.K) {m : Bool} {a b : E} {x y : Expr} {p p2 q pos : Pos} (hc : X.calm = true) (hg : Gl X "dict") (hm : X.mg "dict" = none) (hg2 : Gl X "zip") (hm2 : X.mg "zip" = none) (ha : PE X x (tI T W (ev C a))) (hb : PE X y (tI T W (ev C b)))
    (na : starEach [x, y] X.env = (false, eval x X.env) :: starEach [y] X.env) (nb : starEach [y] X.env = (false, eval y X.env) :: starEach [] X.env) :
    PE X (.Call (.Name "dict" p) [.Call (.Name "zip" p2) [x, y] [] q] [] pos) (tI T W (ev C (.dictzip m a b))) := by
  have pd := pe_dictzip (p := p) (p2 := p2) (q := q) (pos := pos) hc hg hm hg2 hm2 ha hb na nb
  rw [hK] at pd
  refine PE.imp pd fun σ H Q ⟨g, S, e, s, r, q⟩ => ?_
  simp only [ev] at q
  refine ⟨g, S, e, s, r, (GoR.bind q).imp fun g1 H1 v d S1 l1 s1 rd _ q1 => ⟨g1, S1, e, s1, r.mono l1, (GoR.bind q1).imp fun g2 H2 u d2 S2 l2 s2 rd2 _ q2 => ?_⟩⟩
  obtain ⟨xs, hxs, q3⟩ := orNo_ok q2
  obtain ⟨ys, hys, q4⟩ := orNo_ok q3
  obtain ⟨hl, q5⟩ := ite_ok q4
  have hl := of_decide_eq_true hl
  cases e1 : asQ S2 d with
  | none => rw [e1] at hxs; cases hxs
  | some zs =>
    rw [e1] at hxs
    obtain ⟨k1, us, rfl, h1, rs⟩ := asQ_ok s2 (RD.mono T.K l2 rd) e1
    obtain ⟨k2, vs, rfl, h2, rv⟩ := asQ_ok s2 rd2 hys
    obtain rfl := rs.strs (ns := xs) hxs
    refine ⟨k1, k2, xs, vs, rfl, rfl, h1, h2, fun z hz => ?_⟩
    have lv := rv.length
    obtain ⟨zs', f1, f2, f3⟩ := merge_zip (K := T.K) (g := g2) (ks := []) (xs := []) (ds := []) (js := (xs.map (Sum.inr : Str → Key)).take ys.length) (ys := vs.take xs.length) (es := ys.take xs.length) rfl .nil (by simp; omega) (rv.take _)
    have e2 : (xs.map (Sum.inr : Str → Key)).zip vs = ((xs.map (Sum.inr : Str → Key)).take ys.length).zip (vs.take xs.length) := by
      rw [take_zip, List.length_map, lv]
    rw [e2]
    have f1' : mergeK [] (((xs.map (Sum.inr : Str → Key)).take ys.length).zip (vs.take xs.length)) = _ := f1
    rw [f1']
    exact mkD_ok s2 f2 f3 q5 z hz
end
end CT

end
section
set_option maxHeartbeats 4000000
/-! callturn proofs, part re: list.count, dict.update -/
namespace CT
open PySem PySem.Spec PyProof.Rows L2
section
variable {X : Cx}
def rCount (K : PySem.W.Frag) : V → List V → Hp → VK → Prop := fun x xs H Q => ∃ (a : Addr) (ys : List V) (y : V), x = V.ref a ∧ xs = [y] ∧ SqL K H a ys ∧ flatV y = true ∧ ys.all flatV = true ∧ Q (.int (ys.countP (fun z => L2.eqV z y) : Nat)) H
theorem count_vals {y : V} : ∀ {ys : List V} {us : List Value}, Vals ys us → ys.all flatV = true → us.countP (eqU y) = ys.countP fun z => L2.eqV z y
  | _, _, .nil, _ => rfl
  | z :: zs, u :: us, .cons r t, f => by
    rw [List.all_cons, Bool.and_eq_true] at f
    rw [List.countP_cons, List.countP_cons, count_vals t f.2, eqU_of r f.1]
theorem mt_countL : MtR X "list.count" (rCount X.K) := by
  intro pins s σ H x xs v us Q I rx rxs h
  obtain ⟨a, ys, y, rfl, rfl, hs, fy, fys, q⟩ := h
  cases rx
  cases rxs with
  | cons ry rt =>
    rename_i uy ut
    cases rt
    obtain ⟨its, rv, ⟨⟨cls, dd, data, sl⟩, n, ho, hc, hdn, hd⟩, hlen⟩ := I.list hs
    simp only at hc hd
    subst hc hd
    refine call_meets PySem.F.slot_list_count ⟨_, ho, rfl⟩ PySem.F.entry_list_count (PySem.F.args_list_count_2 _ _)
      (SeqAt.list_countAt a its.toArray n dd sl uy (eqU y)) ⟨ho, fun u' hu' => mem_eqAt ry fy rv fys u' (by simpa using hu'), ?_⟩
    refine ⟨.int (ys.countP (fun z => L2.eqV z y) : Nat), H, I.tok _, ⟨s.toks, ?_⟩, q⟩
    rw [← count_vals rv fys]
/-- d.update(e) -/
def rUpdate : V → List V → Hp → VK → Prop := fun x xs H Q => ∃ (a o : Addr) (kvs more : List (Key × V)), x = V.ref a ∧ xs = [V.ref o] ∧ a ≠ o ∧ H a = some (.dK kvs) ∧ H o = some (.dK more) ∧ kvs.length + more.length ≤ sizeLine ∧ Q .non (upd H a (.dK (mergeK kvs more)))
theorem mt_update : MtR X "dict.update" rUpdate := by
  intro pins s σ H x xs v us Q I rx rxs h
  obtain ⟨a, o, kvs, more, rfl, rfl, hao, ha, ho, hsz, q⟩ := h
  cases rx
  cases rxs with
  | cons ry rt =>
    cases rt
    cases ry
    obtain ⟨z1, m1, vs, kv, da⟩ := I.hok a _ ha
    obtain ⟨z2, m2, ws, kw, dO⟩ := I.hok o _ ho
    have l1 : vs.length = kvs.length := (Paired.length kv).symm
    have l2 : ws.length = more.length := (Paired.length kw).symm
    refine call_meetsIn PySem.F.slot_dict_update da.typeIs PySem.F.entry_dict_update (PySem.F.args_dict_update_2 _ _) (meets_dict_update (mixKind X.prog X.w) a o hao m2) ⟨vs, ws, da, dO, by omega, fun h' h1 h2 sb => ?_⟩
    have hlen : (mergeK kvs more).length ≤ sizeLine := Nat.le_trans (length_mergeK _ _) (by omega)
    refine ⟨.non, upd H a (.dK (mergeK kvs more)), I.write (e := a) (t' := s.toks) (by rw [ha]; trivial) (.inl rfl) (fun b u hb hu => ?_) ?_ (show ObjOk X.prog X.w _ _ _ (.dK _) from ⟨hlen, m1, merged vs ws, KV.merge kw kv, h1⟩), rfl, q⟩
    · exact (sb.2 b hb).trans hu
    · obtain ⟨ob, _, _, e, _⟩ := h1; exact ⟨_, e⟩
end
section
variable {T : Tb} {W : WX} {X : Cx} {C : Cal}
theorem dctAt_re {g : Gh} {S : Sto} {H : Hp} {a : Addr} {n : Nat} {ks : List Key} {ds : List CT.D} (s : T.Sim g S H) (q : g.ρ[n]? = some a) (h : S[n]? = some (.dct ks ds)) : ∃ xs, H a = some (.dK (ks.zip xs)) ∧ ks.length = xs.length ∧ T.RDs g xs ds := by
  obtain ⟨_, ho, y2, y3⟩ := s.obj n _ _ q h (by simp)
  cases y3 with
  | dct l r => exact ⟨_, y2, l, r⟩
theorem count_flat {g : Gh} {y : V} {dy : D} (ry : T.RD g y dy) (hy : flat dy = true) : ∀ {ys : List V} {ds : List D}, T.RDs g ys ds → ds.all flat = true → ys.all flatV = true ∧ ys.countP (fun z => L2.eqV z y) = ds.countP fun z => eqv z dy
  | _, _, .nil, _ => ⟨rfl, rfl⟩
  | v :: vs, d :: ds, .cons r rs, h => by
    rw [List.all_cons, Bool.and_eq_true] at h
    obtain ⟨a, b⟩ := count_flat ry hy rs h.2
    obtain ⟨c, e⟩ := flat_of r h.1
    refine ⟨by rw [List.all_cons, c, a]; rfl, ?_⟩
    rw [List.countP_cons, List.countP_cons, b, e y dy ry hy]
theorem s_count (hK : X.K = T.K) {a b : E} {o y : Expr} {apos cpos : Pos} (ho : PE X o (tI T W (ev C a))) (hb : PE X y (tI T W (ev C b))) (m : Bm X o "count" apos cpos y []) : PE X (.Call (.Attribute o "count" apos) [y] [] cpos) (tI T W (ev C (.count a b))) := by
  have pb := pe_bm PySem.F.plainAttrs_list PySem.F.slot_list_count PySem.F.type_list_count mt_countL ho (pa_cons hb pa_nil m.hs) m.base m.few m.line m.hs m.plain
  rw [hK] at pb
  refine PE.imp pb fun σ H Q ⟨g, S, e, s, r, q⟩ => ?_
  simp only [ev] at q
  refine ⟨g, S, e, s, r, (GoR.bind q).imp fun g1 H1 v d S1 l1 s1 rd _ q1 => ?_⟩
  obtain ⟨p, hp, q1⟩ := orNo_ok q1
  obtain ⟨a1, xs1, rfl, h1, _⟩ := asL_ok s1 rd hp
  refine ⟨.inl ⟨rfl, xs1, h1⟩, g1, S1, e, s1, r.mono l1, (GoR.bind q1).imp fun g2 H2 u d2 S2 l2 s2 rd2 _ q2 => ?_⟩
  obtain ⟨zs, hz, q3⟩ := orNo_ok q2
  obtain ⟨hc, q4⟩ := ite_ok q3
  obtain ⟨hc1, hc2⟩ := (Bool.and_eq_true _ _).mp hc
  obtain ⟨a2, xs, e3, h2, rs⟩ := asL_ok s2 (RD.mono T.K l2 rd) hz
  cases e3
  obtain ⟨f1, f2⟩ := count_flat rd2 hc1 rs hc2
  refine ⟨_, xs, u, rfl, rfl, h2, (flat_of rd2 hc1).1, f1, ?_⟩
  rw [f2]
  exact q4.now s2 (.int _)
theorem s_update (hK : X.K = T.K) {a b : E} {o y : Expr} {apos cpos : Pos} (ho : PE X o (tI T W (ev C a))) (hb : PE X y (tI T W (ev C b))) (m : Bm X o "update" apos cpos y []) : PE X (.Call (.Attribute o "update" apos) [y] [] cpos) (tI T W (ev C (.update a b))) := by
  have pb := pe_bm PySem.F.plainAttrs_dict PySem.F.slot_dict_update PySem.F.type_dict_update mt_update ho (pa_cons hb pa_nil m.hs) m.base m.few m.line m.hs m.plain
  rw [hK] at pb
  refine PE.imp pb fun σ H Q ⟨g, S, e, s, r, q⟩ => ?_
  simp only [ev] at q
  refine ⟨g, S, e, s, r, (GoR.bind q).imp fun g1 H1 v d S1 l1 s1 rd _ q1 => ?_⟩
  obtain ⟨p, hp, q1⟩ := orNo_ok q1
  have hloc : ∃ n, d = .loc n ∧ S1[n]? = some (.dct p.2.1 p.2.2) := by
    cases d with
    | loc n =>
      simp only [dctAt] at hp
      cases e1 : S1[n]? with
      | none => rw [e1] at hp; cases hp
      | some ob =>
        rw [e1] at hp
        cases ob with
        | dct ks ds => simp only [Option.some.injEq] at hp; subst hp; exact ⟨n, rfl, e1⟩
        | _ => cases hp
    | _ => simp [dctAt] at hp
  obtain ⟨n, rfl, hS1⟩ := hloc
  cases rd with
  | @loc a1 _ hρ =>
    obtain ⟨xs1, h1, _, _⟩ := dctAt_re s1 hρ hS1
    refine ⟨.inr (.inr (.inl ⟨rfl, .inl ⟨_, h1⟩⟩)), g1, S1, e, s1, r.mono l1, (GoR.bind q1).imp fun g2 H2 u d2 S2 l2 s2 rd2 _ q2 => ?_⟩
    obtain ⟨p2, hp2, q3⟩ := orNo_ok q2
    obtain ⟨p3, hp3, q4⟩ := orNo_ok q3
    obtain ⟨hf, q5⟩ := ite_ok q4
    have hS2 : p2.1 = n ∧ S2[n]? = some (.dct p2.2.1 p2.2.2) := by
      simp only [dctAt] at hp2
      cases e1 : S2[n]? with
      | none => rw [e1] at hp2; cases hp2
      | some ob =>
        rw [e1] at hp2
        cases ob with
        | dct ks ds => simp only [Option.some.injEq] at hp2; subst hp2; exact ⟨rfl, rfl⟩
        | _ => cases hp2
    obtain ⟨en, hS2⟩ := hS2
    have hρ2 := l2.at hρ
    obtain ⟨xs, h2, lx, rs⟩ := dctAt_re s2 hρ2 hS2
    cases rd2 with
    | @dct o ks ys ds qo ly rys =>
      simp only [D.dct?, Option.some.injEq] at hp3
      subst hp3
      obtain ⟨y1, _⟩ := s2.obj n _ _ hρ2 hS2 (by simp)
      have hao : a1 ≠ o := fun e => by rw [e, qo] at y1; cases y1
      obtain ⟨zs, m1, m2, m3⟩ := merge_zip lx rs ly rys
      have hsz : (p2.2.1.zip xs).length + (ks.zip ys).length ≤ sizeLine := by
        rw [List.length_zip, List.length_zip, ← lx, ← ly, Nat.min_self, Nat.min_self]
        exact fits_le hf
      refine ⟨a1, o, p2.2.1.zip xs, ks.zip ys, rfl, rfl, hao, h2, s2.sub _ _ qo, hsz, ?_⟩
      rw [m1]
      rw [en] at q5
      exact q5.now (s2.put hρ2 hS2 (by simp) (.dct m2 m3)) .non
    | _ => simp [D.dct?] at hp3
end
end CT

end
section
set_option maxHeartbeats 4000000
/-! callturn proofs, part rf: k in d, d[k], d[k] = v, k a nested tuple -/
namespace CT
open PySem PySem.Spec PyProof.Rows L2
section
variable {T : Tb} {W : WX} {X : Cx} {C : Cal}
theorem nkT_ok {g : Gh} {x : V} {d : D} {k : NestedKey} (r : T.RD g x d) (h : nkeyT d = some k) : ∃ a, x = .ref a ∧ NKV T.K g.Hf x k ∧ k.depth ≤ 8 := by
  cases d with
  | tup ds =>
    simp only [nkeyT, Option.bind_eq_some_iff] at h
    obtain ⟨ks, h1, h2⟩ := h
    split at h2
    · rename_i hd
      injection h2 with h2
      subst h2
      have hn : nkey (.tup ds) = some (.tup ks) := by simp only [nkey, h1, Option.map_some]
      have nk := RD.nkv T.K r hn
      cases r with
      | tup q _ _ => exact ⟨_, rfl, nk, of_decide_eq_true hd⟩
    · cases h2
  | _ => simp [nkeyT] at h
/-- what stands at a key -/
theorem natk_ok {g : Gh} {k : NestedKey} : ∀ {xs : List (NestedKey × Addr × Value)} {vs : List V} {ds : List D}, Vals vs (xs.map (·.2.2)) → T.RDs g vs ds →
    (dgetN (xs.map (·.1)) ds k = none ∧ atKey xs k = none) ∨ ∃ d v p, dgetN (xs.map (·.1)) ds k = some d ∧ atKey xs k = some p ∧ RelV v p.2 ∧ T.RD g v d
  | [], _, _, v, r => by cases v; cases r; exact .inl ⟨rfl, rfl⟩
  | (j, a, u) :: xs, _, _, .cons v vs, .cons r rs => by
    by_cases e : j = k
    · subst e
      exact .inr ⟨_, _, (a, u), by simp [dgetN], by simp [atKey], v, r⟩
    · rcases natk_ok (k := k) (xs := xs) vs rs with ⟨h1, h2⟩ | ⟨d, w, p, h1, h2, h3, h4⟩
      · exact .inl ⟨by simp [dgetN, e, h1], by simpa [atKey, e] using h2⟩
      · exact .inr ⟨d, w, p, by simp [dgetN, e, h1], by simpa [atKey, e] using h2, h3, h4⟩
theorem nd_up {g : Gh} {S : Sto} {H : Hp} (hK : X.K = T.K) (sm : T.Sim g S H) {xs : List (NestedKey × Addr × Value)} (h : ∀ y ∈ xs, NKV T.K g.Hf (.ref y.2.1) y.1 ∧ y.1.depth ≤ 8) : ∀ y ∈ xs, NKV X.K H (.ref y.2.1) y.1 ∧ y.1.depth ≤ 8 :=
  fun y hy => ⟨by rw [hK]; exact NKV.mono T.K sm.sub (h y hy).1, (h y hy).2⟩
theorem op_inK (hK : X.K = T.K) (hw : T.nh = fun k => k.hash X.w) (hu : X.A.units + 65 < cLine) : OpR X (compareOp .In) (rTwo T W inK) := by
  intro pins s σ H x y v u Q I rx ry ⟨g, S, dx, dy, σ', sm, rdx, rdy, q⟩
  simp only [inK] at q
  obtain ⟨k, hk, q⟩ := orNo_ok q
  obtain ⟨⟨ks, ds⟩, hn, q⟩ := orNo_ok q
  obtain ⟨a, n, xs, vs, _, _, rfl, h1, rfl, hz, hkk, hv, rs⟩ := asN_ok sm rdy hn
  obtain ⟨b, rfl, nk, hd⟩ := nkT_ok rdx hk
  cases rx; cases ry
  obtain ⟨hm, hD⟩ := nd_dict hw I h1 (nd_up hK sm hkk)
  have nk' : NKV X.K H (.ref b) k := by rw [hK]; exact NKV.mono T.K sm.sub nk
  have hkey : (nestedKind X.prog X.w).is s.heap k b := ⟨NKV.is I nk' (show L2.RelV (.ref b) (.ref b) from rfl), hd⟩
  refine wpAny_in_heap (knd := nestedKind X.prog X.w) (by show X.A.in1.units + 8 < cLine; show X.A.units + 1 + 8 < cLine; omega) hkey hm hD ?_
  refine ⟨.bl (atKey xs k).isSome, H, I.tok _, rfl, ?_⟩
  have e : (atKey xs k).isSome = (dgetN (xs.map (·.1)) ds k).isSome := by
    rcases natk_ok (k := k) hv rs with ⟨h1, h2⟩ | ⟨_, _, _, h1, h2, _⟩ <;> rw [h1, h2] <;> rfl
  rw [e]
  exact q.now sm (.bl _)
theorem ix_sbK (hK : X.K = T.K) (hw : T.nh = fun k => k.hash X.w) (hu : X.A.units + 65 < cLine) : IxR X (rTwo T W sbK) := by
  intro value slice pins s σ H x y v u Q I rx ry ⟨g, S, dx, dy, σ', sm, rdx, rdy, q⟩ hs
  simp only [sbK] at q
  obtain ⟨k, hk, q1⟩ := orNo_ok q
  obtain ⟨⟨ks, ds⟩, hn, q2⟩ := orNo_ok q1
  obtain ⟨d, hg, q3⟩ := orNo_ok q2
  obtain ⟨a, n, xs, vs, _, _, rfl, h1, rfl, hz, hkk, hv, rs⟩ := asN_ok sm rdx hn
  obtain ⟨b, rfl, nk, hd⟩ := nkT_ok rdy hk
  cases rx; cases ry
  obtain ⟨hm, hD⟩ := nd_dict hw I h1 (nd_up hK sm hkk)
  have nk' : NKV X.K H (.ref b) k := by rw [hK]; exact NKV.mono T.K sm.sub nk
  have hkey : (nestedKind X.prog X.w).is s.heap k b := ⟨NKV.is I nk' (show L2.RelV (.ref b) (.ref b) from rfl), hd⟩
  rcases natk_ok (k := k) hv rs with ⟨e1, _⟩ | ⟨d', w, p, e1, e2, rw', rd'⟩
  · simp only at hg; rw [e1] at hg; cases hg
  · simp only at hg
    rw [e1] at hg
    cases hg
    have hT := hD.typeIs
    have qq : Q w H := GoR.now (k := fun _ H' v _ _ => Q v H') q3 sm rd'
    have go : wpAny (model X.prog X.w) X.A (subscripted slice false (.ref a) (.ref b))
        (fun r s3 => wpAny (model X.prog X.w) X.A (letTemporaryGo value (.ref a) r >>= fun _ => pure r) (EP X pins σ Q) X.xe s3) X.xe s := by
      rw [hs]
      refine wpAny_operating (wpAny_getItem_heap (knd := nestedKind X.prog X.w) (by show X.A.in1.units + 8 < cLine; show X.A.units + 1 + 8 < cLine; omega) hkey hD e2 ?_)
      exact wpAny_bind (wpAny_letTemporaryGo (wpAny_pure ⟨w, H, I.tok _, rw', qq⟩))
    unfold subscriptTail
    refine wpAny_bind ?_
    rw [getitemInPython_of_ne hT.not_modules]
    refine wpAny_bind (wpAny_specialOf hT PySem.F.slot_dict_getitem.lookup ?_)
    first
      | exact wpAny_pure (wpAny_bind go)
      | exact wpAny_bind (wpAny_pure (wpAny_bind go))
      | exact wpAny_bind go
theorem s_ink (hK : X.K = T.K) (hw : T.nh = fun k => k.hash X.w) (hu : X.A.units + 65 < cLine) {a b : E} {x y : Expr} {pos : Pos} (ha : PE X x (tI T W (ev C a))) (hb : PE X y (tI T W (ev C b))) (hm : behindInMarks .In y = false) : PE X (.Compare x [.In] [y] pos) (tI T W (ev C (.ink a b))) :=
  PE.imp (pe_cmpR (op_inK hK hw hu) ha hb hm) fun σ H Q h => two_of (f := inK) (by simpa only [ev] using h)
theorem inK_bl {x y : D} {S S' : Sto} {d : D} (h : inK x y S = .ok d S') : ∃ b, d = .bl b := by
  unfold inK at h
  cases e1 : nkeyT x with
  | none => rw [e1] at h; cases h
  | some k =>
    rw [e1] at h
    simp only [orNo] at h
    cases e2 : asN S y with
    | none => rw [e2] at h; cases h
    | some p => rw [e2] at h; cases h; exact ⟨_, rfl⟩
theorem t_ink (hK : X.K = T.K) (hw : T.nh = fun k => k.hash X.w) (hu : X.A.units + 65 < cLine) {a b : E} {x y : Expr} {pos : Pos} (ha : PE X x (tI T W (ev C a))) (hb : PE X y (tI T W (ev C b))) (hm : behindInMarks .In y = false) : PT X (.Compare x [.In] [y] pos) (tIT T W (tst C (.ink a b))) := by
  refine PT.imp (pt_cmpR (op_inK (W := W) hK hw hu) ha hb hm) fun σ H Q ⟨g, S, e, s, r, q⟩ => ?_
  simp only [tst, ev, R.bind_assoc] at q
  refine ⟨g, S, e, s, r, (GoR.bind q).imp fun g1 H1 v d S1 l1 s1 rd1 _ q1 => ?_⟩
  refine ⟨g1, S1, e, s1, r.mono l1, (GoR.bind q1).imp fun g2 H2 u d2 S2 l2 s2 rd2 _ q2 => ?_⟩
  refine ⟨g2, S2, d, d2, σ, s2, RD.mono T.K l2 rd1, rd2, (GoR.bind q2).imp fun g3 H3 v3 d3 S3 l3 s3 rd3 e3 q3 => ?_⟩
  obtain ⟨t, rfl⟩ := inK_bl e3
  cases rd3
  exact ⟨t, rfl, GoR.now q3 s3 rfl⟩
theorem s_sbk (hK : X.K = T.K) (hw : T.nh = fun k => k.hash X.w) (hu : X.A.units + 65 < cLine) {a b : E} {x y : Expr} {pos : Pos} (ha : PE X x (tI T W (ev C a))) (hb : PE X y (tI T W (ev C b))) (hs : PlainIx y) : PE X (.Subscript x y pos) (tI T W (ev C (.sbk a b))) :=
  PE.imp (pe_ix (ix_sbK hK hw hu) ha hb hs) fun σ H Q h => two_of (f := sbK) (by simpa only [ev] using h)
/-! ### d[k] = v -/
theorem put_keys {k : NestedKey} {a : Addr} {u : Value} {xs : List (NestedKey × Addr × Value)} : ∀ y ∈ storedH xs k a u, y = (k, a, u) ∨ ∃ z ∈ xs, y.1 = z.1 ∧ y.2.1 = z.2.1 := by
  intro y hy
  unfold storedH at hy
  split at hy
  · obtain ⟨z, hz, rfl⟩ := List.mem_map.mp hy
    right
    refine ⟨z, hz, ?_⟩
    unfold putAt
    split <;> exact ⟨rfl, rfl⟩
  · rcases List.mem_append.mp hy with h | h
    · exact .inr ⟨y, h, rfl, rfl⟩
    · exact .inl (by simpa using h)
theorem put_map {k : NestedKey} {u : Value} {v : V} {g : Gh} {d : D} (rv : L2.RelV v u) (rd : T.RD g v d) : ∀ {xs : List (NestedKey × Addr × Value)} {vs : List V} {ds : List D}, Vals vs (xs.map (·.2.2)) → T.RDs g vs ds →
    ∃ ws, (xs.map (putAt k u)).map (·.1) = xs.map (·.1) ∧ Vals ws ((xs.map (putAt k u)).map (·.2.2)) ∧ T.RDs g ws (dsetN (xs.map (·.1)) ds k d)
  | [], _, _, .nil, .nil => ⟨[], rfl, .nil, .nil⟩
  | (j, b, z) :: xs, y :: ys, _, .cons p ps, .cons r rs => by
    obtain ⟨ws, h1, h2, h3⟩ := put_map (k := k) rv rd ps rs
    by_cases e : j = k
    · refine ⟨v :: ws, ?_, ?_, ?_⟩
      · simp only [List.map_cons, putAt, e, if_true]; rw [← h1]
      · simp only [List.map_cons, putAt, e, if_true]; exact .cons rv h2
      · simp only [List.map_cons, dsetN, e, if_true]; exact .cons rd h3
    · refine ⟨y :: ws, ?_, ?_, ?_⟩
      · simp only [List.map_cons, putAt, e, if_false]; rw [← h1]
      · simp only [List.map_cons, putAt, e, if_false]; exact .cons p h2
      · simp only [List.map_cons, dsetN, e, if_false]; exact .cons r h3
theorem put_ok {k : NestedKey} {a : Addr} {u : Value} {v : V} {g : Gh} {d : D} (rv : L2.RelV v u) (rd : T.RD g v d) {xs : List (NestedKey × Addr × Value)} {vs : List V} {ds : List D} (hv : Vals vs (xs.map (·.2.2))) (rs : T.RDs g vs ds) :
    ∃ ws, (storedH xs k a u).map (·.1) = (dputN (xs.map (·.1)) ds k d).1 ∧ Vals ws ((storedH xs k a u).map (·.2.2)) ∧ T.RDs g ws (dputN (xs.map (·.1)) ds k d).2 ∧ (storedH xs k a u).length ≤ xs.length + 1 := by
  have hany : ((xs.map (·.1)).any fun j => decide (j = k)) = (atKey xs k).isSome := by
    clear hv rs
    induction xs with
    | nil => rfl
    | cons x xs ih =>
      by_cases e : x.1 = k
      · simp [atKey, e]
      · simpa [atKey, e] using ih
  unfold dputN storedH
  rw [hany]
  cases h : (atKey xs k).isSome with
  | true =>
    obtain ⟨ws, h1, h2, h3⟩ := put_map (k := k) rv rd hv rs
    simp only [if_true]
    exact ⟨ws, h1, h2, h3, by simp⟩
  | false =>
    simp only [Bool.false_eq_true, if_false]
    refine ⟨vs ++ [v], by simp, ?_, rs.append (.cons rd .nil), by simp⟩
    rw [List.map_append]
    exact Vals.append hv (.cons rv .nil)
end
end CT

end
section
set_option maxHeartbeats 4000000
/-! callturn proofs, part rg: tuple.index; dict of pairs whose keys are nested tuples -/
namespace CT
open PySem PySem.Spec PyProof.Rows L2
section
variable {X : Cx}
theorem strsAre_of : ∀ {ss : List Str} {us : List Value}, Vals (ss.map V.str) us → StrsAre us ss
  | [], _, .nil => .nil
  | z :: ss, _, .cons r rs => by
    obtain ⟨t, rfl⟩ := r
    exact .cons z t (strsAre_of rs)
/-- the place of a text in a tuple -/
def rTidx (K : PySem.W.Frag) : V → List V → Hp → VK → Prop := fun x xs H Q => ∃ (a : Addr) (ss : List Str) (z : Str), x = V.ref a ∧ xs = [.str z] ∧ SqT K H a (ss.map V.str) ∧ z ∈ ss ∧ Q (.int (ss.idxOf z : Nat)) H
theorem mt_tidx : MtR X "tuple.index" (rTidx X.K) := by
  intro pins s σ H x xs v us Q I rx rxs h
  obtain ⟨a, ss, z, rfl, rfl, hs, hz, q⟩ := h
  cases rx
  obtain ⟨u, rfl, ru⟩ := Vals.one rxs
  obtain ⟨t, rfl⟩ := ru
  obtain ⟨its, rv, ht, _⟩ := I.tuple hs
  exact SeqAt.tuple_index_strs ht (strsAre_of rv) hz ⟨.int (ss.idxOf z : Nat), H, I.tok _, ⟨_, rfl⟩, q⟩
theorem noD_at {pins : List (Addr × Obj)} {σ : LSt} {H : Hp} {s : Shared} {a : Addr} (I : Inv X pins σ H s) (h : NoD X.K H a) : ∃ o, s.heap.get? a = some o ∧ o.dict = none := by
  rcases h with ⟨o, u, h, d⟩ | ⟨o, h, d⟩
  · obtain ⟨e, _⟩ := I.hok a _ h
    exact ⟨o, e, d⟩
  · exact ⟨o, I.kIn a o h, d⟩
def tBMt (K : PySem.W.Frag) (r : V → List V → Hp → VK → Prop) (to : TE) (t : TA) : TE := fun σ H Q => to σ H fun x H1 => (∃ a xs, x = .ref a ∧ SqN K H1 a xs) ∧ t σ H1 fun xs H2 => r x xs H2 Q
theorem pe_bmT {o e : Expr} {to : TE} {t : TA} {apos cpos : Pos} {r : V → List V → Hp → VK → Prop} (hm : MtR X "tuple.index" r) (ho : PE X o to) (ha : PA X [e] t) (m : Bm X o "index" apos cpos e []) : PE X (.Call (.Attribute o "index" apos) [e] [] cpos) (tBMt X.K r to t) := by
  refine ⟨fun pins s σ H Q I h => ?_⟩
  refine wpAny_Call_method_late m.base m.few m.line rfl (thn (ho.run pins s σ H _ I h) fun v s1 ⟨x, H1, I1, r1, ty, q1⟩ => ?_)
  obtain ⟨a, xs, rfl, hs, hd⟩ := ty
  cases r1
  obtain ⟨its, _, ht, _⟩ := I1.tuple hs
  refine ⟨"tuple", "tuple.index", PySem.F.plainAttrs_tuple, PySem.F.slot_tuple_index, PySem.F.type_tuple_index, ht.typeIs, fun b eb => ?_, ?_⟩
  · cases eb; exact noD_at I1 hd
  · have hA := ha.run cpos pins s1 σ H1 _ I1 q1
    have hs := m.hs
    have hp := m.plain
    rw [hs] at hA ⊢
    refine Calls.callWith_builtin (by show (false || (backTo cpos (starEach [] X.env)).any (·.1)) = false; rw [hp] <;> rfl) (Calls.evalArgs_plain ?_)
    exact thn hA fun us s2 hh => by
      obtain ⟨vs, H2, I2, r2, q2⟩ := hh
      exact hm pins s2 σ H2 _ vs _ us Q I2 (show L2.RelV (.ref a) (.ref a) from rfl) r2 q2
end
section
variable {T : Tb} {W : WX} {X : Cx} {C : Cal}
theorem s_tidx (hK : X.K = T.K) {a b : E} {o y : Expr} {apos cpos : Pos} (ho : PE X o (tI T W (ev C a))) (hb : PE X y (tI T W (ev C b))) (m : Bm X o "index" apos cpos y []) : PE X (.Call (.Attribute o "index" apos) [y] [] cpos) (tI T W (ev C (.tidx a b))) := by
  have pb := pe_bmT mt_tidx ho (pa_cons hb pa_nil m.hs) m
  rw [hK] at pb
  refine PE.imp pb fun σ H Q ⟨g, S, e, s, r, q⟩ => ?_
  simp only [ev] at q
  refine ⟨g, S, e, s, r, (GoR.bind q).imp fun g1 H1 v d S1 l1 s1 rd _ q1 => ?_⟩
  obtain ⟨p, hp, q1⟩ := orNo_ok q1
  cases rd with
  | @tup a1 xs ds qx lx rx =>
    refine ⟨⟨a1, xs, rfl, sqN_mono s1.sub qx⟩, g1, S1, e, s1, r.mono l1, (GoR.bind q1).imp fun g2 H2 u d2 S2 l2 s2 rd2 _ q2 => ?_⟩
    obtain ⟨ss, hss, q3⟩ := orNo_ok q2
    obtain ⟨z, hz, q4⟩ := orNo_ok q3
    obtain ⟨hc, q5⟩ := ite_ok q4
    obtain ⟨rfl, _⟩ := str?_ok rd2 hz
    have rx2 := RDs.mono T.K l2 rx
    obtain rfl := rx2.strs (ns := ss) (by simpa [D.tup?] using hss)
    exact ⟨a1, ss, z, rfl, rfl, sqT_mono (fun b o z => s2.sub b o (l2.Hf b o z)) qx.1, by simpa using hc, q5.now s2 (.int _)⟩
  | _ => simp [D.tup?] at hp
/-! ### dict([((..), v), ..]) -/
theorem nprs_ok {g : Gh} : ∀ {ys : List V} {ds : List D} {ks : List NestedKey} {es : List D}, T.RDs g ys ds → nprs ds = some (ks, es) →
    ∃ zs : List (Addr × NestedKey × Addr × V), ys = zs.map (fun z => V.ref z.1) ∧ ks = zs.map (·.2.1) ∧ T.RDs g (zs.map (·.2.2.2)) es ∧ ∀ z ∈ zs, SqT T.K g.Hf z.1 [.ref z.2.2.1, z.2.2.2] ∧ NKV T.K g.Hf (.ref z.2.2.1) z.2.1 ∧ z.2.1.depth ≤ 8
  | _, _, ks, es, .nil, h => by
    simp only [nprs, Option.some.injEq, Prod.mk.injEq] at h
    obtain ⟨rfl, rfl⟩ := h
    exact ⟨[], rfl, rfl, .nil, by simp⟩
  | _, _, ks, es, .cons (ds := drest) r rs, h => by
    cases r with
    | @tup p _ _ q _ rt =>
      cases rt with
      | nil => simp [nprs] at h
      | @cons v1 d1 _ _ r1 rt =>
        cases rt with
        | nil => simp [nprs] at h
        | @cons v2 d2 _ _ r2 rt =>
          cases rt with
          | cons _ _ => simp [nprs] at h
          | nil =>
            simp only [nprs] at h
            cases ek : nkeyT d1 with
            | none => rw [ek] at h; cases h
            | some k =>
              rw [ek] at h
              cases ep : nprs drest with
              | none => rw [ep] at h; cases h
              | some pr =>
                obtain ⟨ks', es'⟩ := pr
                rw [ep] at h
                simp only [Option.some.injEq, Prod.mk.injEq] at h
                obtain ⟨rfl, rfl⟩ := h
                obtain ⟨zs, e1, e2, e3, e4⟩ := nprs_ok rs ep
                obtain ⟨b, rfl, nk, hd⟩ := nkT_ok r1 ek
                refine ⟨(p, k, b, v2) :: zs, by rw [e1]; rfl, by rw [e2]; rfl, .cons r2 e3, fun z hz => ?_⟩
                rcases List.mem_cons.mp hz with rfl | hz
                · exact ⟨q.1, nk, hd⟩
                · exact e4 z hz
    | _ => simp [nprs] at h
/-- the pairs, told by the heap -/
theorem pairs_at {pins : List (Addr × Obj)} {s : Shared} {σ : LSt} {H : Hp} (I : Inv X pins σ H s) : ∀ {zs : List (Addr × NestedKey × Addr × V)}, (∀ z ∈ zs, SqT X.K H z.1 [.ref z.2.2.1, z.2.2.2] ∧ NKV X.K H (.ref z.2.2.1) z.2.1 ∧ z.2.1.depth ≤ 8) →
    ∃ qs : List (NestedKey × Addr × Value), qs.length = zs.length ∧ qs.map (·.1) = zs.map (·.2.1) ∧ Vals (zs.map (·.2.2.2)) (qs.map (·.2.2)) ∧ (∀ q ∈ qs, ∃ z ∈ zs, q.1 = z.2.1 ∧ q.2.1 = z.2.2.1) ∧
      ∀ (j : Nat) q z, qs[j]? = some q → zs[j]? = some z → PairAt s.heap z.1 (.ref q.2.1) q.2.2
  | [], _ => ⟨[], rfl, rfl, .nil, by simp, by simp⟩
  | z :: zs, h => by
    obtain ⟨qs, h1, h2, h3, h4, h5⟩ := pairs_at I (zs := zs) fun y hy => h y (by simp [hy])
    obtain ⟨hs, _, _⟩ := h z (by simp)
    obtain ⟨its, rv, ht, _⟩ := I.tuple hs
    cases rv with
    | cons r1 rv =>
      cases rv with
      | cons r2 rv =>
        cases rv
        cases r1
        rename_i u
        refine ⟨(z.2.1, z.2.2.1, u) :: qs, by simp [h1], by simp [h2], .cons r2 h3, fun q hq => ?_, fun j q y hj hy => ?_⟩
        · rcases List.mem_cons.mp hq with rfl | hq
          · exact ⟨z, by simp, rfl, rfl⟩
          · obtain ⟨y, hy, e⟩ := h4 q hq; exact ⟨y, by simp [hy], e⟩
        · cases j with
          | zero => simp at hj hy; subst hj; subst hy; exact .inl ht
          | succ j => exact h5 j q y (by simpa using hj) (by simpa using hy)
theorem storedAll_ok {g : Gh} : ∀ {ps : List (NestedKey × Addr × Value)} {es : List D} {ws : List V} {xs : List (NestedKey × Addr × Value)} {vs : List V} {ds : List D}, Vals ws (ps.map (·.2.2)) → T.RDs g ws es → Vals vs (xs.map (·.2.2)) → T.RDs g vs ds →
    ∃ us, (storedAllH xs ps).map (·.1) = (dmergeN (xs.map (·.1)) ds (ps.map (·.1)) es).1 ∧ Vals us ((storedAllH xs ps).map (·.2.2)) ∧ T.RDs g us (dmergeN (xs.map (·.1)) ds (ps.map (·.1)) es).2 ∧ (storedAllH xs ps).length ≤ xs.length + ps.length ∧
      ∀ y ∈ storedAllH xs ps, (∃ z ∈ xs, y.1 = z.1 ∧ y.2.1 = z.2.1) ∨ ∃ z ∈ ps, y.1 = z.1 ∧ y.2.1 = z.2.1
  | [], es, ws, xs, vs, ds, hw, hq, hv, hr => by
    cases hw
    cases hq
    exact ⟨vs, rfl, hv, hr, by simp [storedAllH], fun y hy => .inl ⟨y, hy, rfl, rfl⟩⟩
  | (k, a, u) :: ps, es, ws, xs, vs, ds, hw, hq, hv, hr => by
    cases hw with
    | cons r rs =>
    cases hq with
    | cons q qs =>
    obtain ⟨us1, a1, a2, a3, a4⟩ := put_ok (k := k) (a := a) (u := u) r q hv hr
    obtain ⟨us, b1, b2, b3, b4, b5⟩ := storedAll_ok (ps := ps) (xs := storedH xs k a u) rs qs a2 a3
    have e : storedAllH xs ((k, a, u) :: ps) = storedAllH (storedH xs k a u) ps := rfl
    rw [e]
    refine ⟨us, by rw [b1, a1]; rfl, b2, by rw [a1] at b3; exact b3, by simp only [List.length_cons]; omega, fun y hy => ?_⟩
    rcases b5 y hy with ⟨z, hz, e1, e2⟩ | ⟨z, hz, e1, e2⟩
    · rcases put_keys z hz with rfl | ⟨z', hz', e3, e4⟩
      · exact .inr ⟨_, by simp, e1, e2⟩
      · exact .inl ⟨z', hz', e1.trans e3, e2.trans e4⟩
    · exact .inr ⟨z, by simp [hz], e1, e2⟩
theorem refs_eq : ∀ {zs : List (Addr × NestedKey × Addr × V)} {its : List Value}, Vals (zs.map fun z => V.ref z.1) its → its = zs.map fun z => Value.ref z.1
  | [], _, .nil => rfl
  | _ :: _, _, .cons r rs => by cases r; rw [refs_eq rs]; rfl
def dpkf (x : D) (S : Sto) : R D := orNo ((asM S x).bind nprs) fun p => .ok (.loc S.length) (S ++ [.dcn (dmergeN [] [] p.1 p.2).1 (dmergeN [] [] p.1 p.2).2])
theorem c_dpk (hK : X.K = T.K) (hw : T.nh = fun k => k.hash X.w) (hc : X.calm = true) (hu : X.A.units + 65 < cLine) : CallR X (.type "dict") (rCall1 T W dpkf) := by
  intro pins s σ H xs us Q I rx ⟨x, ex, g, S, d, σ', sm, rd, q⟩
  subst ex
  simp only [dpkf] at q
  obtain ⟨p, ys, ds, ⟨ks, es⟩, rfl, h1, rs, hf, q'⟩ := asM_via (f := nprs) (k := fun p : List NestedKey × List D => R.ok (.loc S.length) (S ++ [.dcn (dmergeN [] [] p.1 p.2).1 (dmergeN [] [] p.1 p.2).2])) sm rd q
  obtain ⟨zs, rfl, rfl, e3, e4⟩ := nprs_ok rs hf
  obtain ⟨u, rfl, ru⟩ := Vals.one rx
  cases ru
  obtain ⟨its, rv, pl, hz⟩ := I.list (SqL.of h1)
  rw [List.length_map] at hz
  have e4' : ∀ z ∈ zs, SqT X.K H z.1 [.ref z.2.2.1, z.2.2.2] ∧ NKV X.K H (.ref z.2.2.1) z.2.1 ∧ z.2.1.depth ≤ 8 := fun z hz => by
    obtain ⟨a1, a2, a3⟩ := e4 z hz
    rw [hK]
    exact ⟨sqT_mono sm.sub a1, NKV.mono T.K sm.sub a2, a3⟩
  obtain ⟨qs, l1, l2, l3, l4, l5⟩ := pairs_at I e4'
  obtain rfl := refs_eq rv
  have hok : PlainSeq "list" s.heap p (zs.map fun z => Value.ref z.1).toArray ∧ PairItems s.heap (zs.map fun z => Value.ref z.1).toArray (fun j => (zs.map (·.1)).getD j 0) (qs.map fun q => (Value.ref q.2.1, q.2.2)) := by
    obtain ⟨o, n, ho, hcl, hdn, hdt⟩ := pl
    refine ⟨⟨o, n, ho, hcl, hdn, hdt⟩, by simp [l1], fun j k v hj => ?_⟩
    rw [List.getElem?_map] at hj
    cases hq : qs[j]? with
    | none => rw [hq] at hj; cases hj
    | some q0 =>
      rw [hq] at hj
      simp only [Option.map_some, Option.some.injEq, Prod.mk.injEq] at hj
      obtain ⟨rfl, rfl⟩ := hj
      have hlt : j < zs.length := by rw [← l1]; exact (List.getElem?_eq_some_iff.mp hq).1
      have hzj : zs[j]? = some zs[j] := by simp [hlt]
      have eT : (zs.map (·.1)).getD j 0 = zs[j].1 := by simp [List.getD_eq_getElem?_getD, hlt]
      show _ = some (Value.ref ((zs.map (·.1)).getD j 0)) ∧ PairAt _ ((zs.map (·.1)).getD j 0) _ _
      rw [eT]
      refine ⟨by simp [hlt], l5 j q0 _ hq hzj⟩
  have hP := PairArg.list (prog := X.prog) (w := X.w) p (zs.map fun z => Value.ref z.1).toArray (fun j => (zs.map (·.1)).getD j 0) (qs.map fun q => (Value.ref q.2.1, q.2.2))
  have his : ∀ q ∈ qs, (nestedKind X.prog X.w).is s.heap q.1 q.2.1 := fun q hq => by
    obtain ⟨z, hz, a1, a2⟩ := l4 q hq
    obtain ⟨_, b2, b3⟩ := e4' z hz
    rw [a1, a2]
    exact ⟨NKV.is I b2 (show L2.RelV (.ref z.2.2.1) (.ref z.2.2.1) from rfl), b3⟩
  refine call_dict_pairsH (knd := nestedKind X.prog X.w) (ps := qs) hP (I.ok.hd hc) (by show X.A.in1.in1.units + 8 < cLine; show X.A.units + 1 + 1 + 8 < cLine; omega) hok ⟨by simp, fun i key v hr => ?_⟩ (fun h' hk x hx => ?_) (by rw [List.length_map, l1]; exact hz) fun h' tk hd' hk => ?_
  · have hr' : (qs.map fun q => (Value.ref q.2.1, q.2.2))[i]? = some (key, v) := hr
    rw [List.getElem?_map] at hr'
    cases hq : qs[i]? with
    | none => rw [hq] at hr'; cases hr'
    | some q0 =>
      rw [hq] at hr'
      simp only [Option.map_some, Option.some.injEq, Prod.mk.injEq] at hr'
      obtain ⟨rfl, rfl⟩ := hr'
      exact ⟨q0.1, q0.2.1, rfl, rfl⟩
  · exact nestedKind_stays.stays (fun b o vs n e _ => hk b o (Nat.ne_of_lt (Heap.lt_size e)) (by simp) e) (his x hx)
  · obtain ⟨ws, c1, c2, c3, c4, c5⟩ := storedAll_ok (ps := qs) (xs := []) (vs := []) (ds := []) l3 e3 .nil .nil
    have hm : (s.heap.objs.size == sysModules) = false := beq_eq_false_iff_ne.mpr (Nat.ne_of_gt I.big)
    have hfresh := I.hok.fresh (Nat.le_refl s.heap.objs.size)
    have hlen : (storedAllH [] qs).length ≤ sizeLine := by simp only [List.length_nil] at c4; omega
    have hkeys : ∀ y ∈ storedAllH [] qs, NKV T.K g.Hf (.ref y.2.1) y.1 ∧ y.1.depth ≤ 8 := fun y hy => by
      rcases c5 y hy with ⟨z, hz, _⟩ | ⟨z, hz, f1, f2⟩
      · simp at hz
      · obtain ⟨z', hz', f3, f4⟩ := l4 z hz
        obtain ⟨_, b2, b3⟩ := e4 z' hz'
        rw [f1, f2, f3, f4]; exact ⟨b2, b3⟩
    obtain ⟨s', l, el⟩ := sm.lay hfresh (ObR.dcn (K := T.K) (cA := T.cA) (nh := T.nh) hlen hkeys c2 c3)
    obtain ⟨o, es', ep, g1, g2, g3, g4, _, g6⟩ := hd'
    refine ⟨.ref s.heap.objs.size, upd H s.heap.objs.size (NDO T.nh s.heap.objs.size (storedAllH [] qs)), I.laid (t' := tk) (fun b u e => hk b u (by simp) e) (Nat.le_refl _) ?_, rfl, ?_⟩
    · refine ⟨⟨hm, o, es', ep, g1, g2, g3, ?_, g6⟩, ⟨o, g1⟩, ?_⟩
      · rw [g4, hw]; rfl
      · rintro h1 h2 ⟨z0, o2, es2, ep2, k1, k2⟩ hst
        exact ⟨z0, o2, es2, ep2, hst _ k1, k2⟩
    · rw [l2] at c1 c3
      have el' : (S ++ [Ob.dcn ((storedAllH [] qs).map (·.1)) (dmergeN [] [] (zs.map (·.2.1)) es).2]) = S ++ [Ob.dcn (dmergeN [] [] (zs.map (·.2.1)) es).1 (dmergeN [] [] (zs.map (·.2.1)) es).2] := by
        rw [c1]; rfl
      have q2 := q'
      simp only at q2
      rw [← el'] at q2
      rw [l2] at s'
      exact q2.to l s' (RD.loc el)
theorem s_dpk (hK : X.K = T.K) (hw : T.nh = fun k => k.hash X.w) (hc : X.calm = true) (hu : X.A.units + 65 < cLine) {a : E} {x : Expr} {p pos : Pos} (hg : Gl X "dict") (hm : X.mg "dict" = none) (ha : PE X x (tI T W (ev C a))) (hst : starEach [x] X.env = (false, eval x X.env) :: starEach [] X.env) :
    PE X (.Call (.Name "dict" p) [x] [] pos) (tI T W (ev C (.dpk a))) := by
  refine PE.imp (pe_callTy (c_dpk (W := W) hK hw hc hu) hg hm (by decide +kernel) (pa_cons ha pa_nil hst) (by decide) (by decide) hst) fun σ H Q h => ?_
  obtain ⟨g, S, e, s, r, q⟩ := one_of (f := dpkf) (by simpa only [ev, dpkf] using h)
  exact ⟨g, S, e, s, r, q.imp fun g1 H1 v d S1 l1 s1 rd _ q1 => ⟨v, rfl, q1⟩⟩
end
end CT

end
section
set_option maxHeartbeats 4000000
/-! callturn proofs, part rh: slices laid in the store; join, split, f-strings -/
namespace CT
open PySem PySem.Spec PyProof.Rows L2
section
variable {T : Tb} {W : WX} {X : Cx} {C : Cal}
def rSlM (T : Tb) (W : WX) : V → Option Int → Option Int → Hp → VK → Prop := fun x lo hi H Q => ∃ g S d σ, T.Sim g S H ∧ T.RD g x d ∧ GoR T T.RD W g σ (sliceM d lo hi S) fun _ H' v _ _ => Q v H'
theorem slm_ok (hK : X.K = T.K) : SlR X (rSlM T W) := by
  have c2 : SlR X (rSlL T.K) := hK ▸ sl_list
  intro pins s σ H x v vl vu lo hi sl Q I rx hs pl pu h
  obtain ⟨g, S, d, σ', sm, rd, q⟩ := h
  obtain ⟨ds, ea, q'⟩ := orNo_ok q
  obtain ⟨p, xs, rfl, h1, rs⟩ := asM_ok sm rd ea
  have lx : xs.length ≤ sizeLine := (I.hok p _ h1).1
  exact c2 pins s σ H _ v vl vu lo hi sl Q I rx hs pl pu ⟨p, xs, rfl, SqL.of h1, mkL_ok sm (Nat.le_trans (cutV_length xs lo hi) lx) (cut_ok rs lo hi) q'⟩
theorem s_slm (hK : X.K = T.K) {a : E} {lo hi : List E} {x : Expr} {l h : Option Expr} {p2 pos : Pos} (ha : PE X x (tI T W (ev C a)))
    (hl : PO X l (tIP T W fun e S => (evs C lo e S).bind fun l S => orNo (part l) fun i => .ok i S)) (hh : PO X h (tIP T W fun e S => (evs C hi e S).bind fun l S => orNo (part l) fun i => .ok i S)) :
    PE X (.Subscript x (.Slice l h none p2) pos) (tI T W (ev C (.slm a lo hi))) := by
  refine PE.imp (pe_slice (slm_ok (W := W) hK) ha hl hh) fun σ H Q ⟨g, S, e, s, r, q⟩ => ?_
  simp only [ev] at q
  refine ⟨g, S, e, s, r, (GoR.bind q).imp fun g1 H1 v d S1 l1 s1 rd _ q1 => ?_⟩
  have q1' : GoR T T.RD W g1 σ (((evs C lo e S1).bind fun l S => orNo (part l) fun i => .ok i S).bind fun i S => (((evs C hi e S).bind fun l S => orNo (part l) fun i => .ok i S).bind fun j S => sliceM d i j S)) fun _ H' v _ _ => Q v H' := by
    cases h1 : evs C lo e S1 with
    | ok ls S2 =>
      rw [h1] at q1
      simp only [R.bind] at q1 ⊢
      obtain ⟨i, hi', q2⟩ := orNo_ok q1
      rw [hi']
      simp only [orNo]
      cases h2 : evs C hi e S2 with
      | ok hs S3 =>
        rw [h2] at q2
        simp only at q2 ⊢
        obtain ⟨j, hj', q3⟩ := orNo_ok q2
        rw [hj']
        exact q3
      | ex c S3 => rw [h2] at q2; exact q2
      | no => rw [h2] at q2; exact q2
    | ex c S2 => rw [h1] at q1; simpa only [R.bind] using q1
    | no => rw [h1] at q1; simpa only [R.bind] using q1
  refine ⟨g1, S1, e, s1, r.mono l1, (GoR.bind q1').imp fun g2 H2 i i' S2 l2 s2 ei _ q2 => ?_⟩
  refine ⟨g2, S2, e, s2, r.mono (l1.trans l2), (GoR.bind q2).imp fun g3 H3 j j' S3 l3 s3 ej _ q3 => ?_⟩
  subst ei ej
  exact ⟨g3, S3, d, σ, s3, RD.mono T.K (l2.trans l3) rd, q3⟩
theorem fits_n {n : Nat} (h : fits n = true) : n ≤ 16777216 := Nat.le_of_ble_eq_true h
theorem s_join {a b : E} {o y : Expr} {apos cpos : Pos} (ho : PE X o (tI T W (ev C a))) (hb : PE X y (tI T W (ev C b))) (hs : starEach [y] X.env = [(false, eval y X.env)])
    (hbase : attributeBase o "join" X.env (eval o X.env) = eval o X.env) (hline : (apos.endLine == cpos.line) = true) : PE X (.Call (.Attribute o "join" apos) [y] [] cpos) (tI T W (ev C (.join a b))) := by
  refine PE.imp (pe_m1 F.slot_str_join F.type_str_join mt_join ho hb hs hbase hline) fun σ H Q ⟨g, S, e, s, r, q⟩ => ?_
  simp only [ev] at q
  refine ⟨g, S, e, s, r, (GoR.bind q).imp fun g1 H1 v d S1 l1 s1 rd _ q1 => ?_⟩
  obtain ⟨a0, ha0, q1⟩ := orNo_ok q1
  obtain ⟨rfl, _⟩ := str?_ok rd ha0
  refine ⟨⟨_, rfl⟩, g1, S1, e, s1, r.mono l1, (GoR.bind q1).imp fun g2 H2 u d2 S2 l2 s2 rd2 _ q2 => ?_⟩
  obtain ⟨ys, hys, q3⟩ := orNo_ok q2
  obtain ⟨hf, q4⟩ := ite_ok q3
  obtain ⟨zs, hz, hs⟩ := Option.bind_eq_some_iff.mp hys
  obtain ⟨p, xs, rfl, h1, rs⟩ := asM_ok s2 rd2 hz
  obtain rfl := rs.strs (ns := ys) hs
  exact ⟨a0, p, ys, rfl, rfl, .inl (SqL.of h1), fits_n hf, q4.now s2 (.str _)⟩
theorem s_split {a b : E} {o y : Expr} {apos cpos : Pos} (ho : PE X o (tI T W (ev C a))) (hb : PE X y (tI T W (ev C b))) (hs : starEach [y] X.env = [(false, eval y X.env)])
    (hbase : attributeBase o "split" X.env (eval o X.env) = eval o X.env) (hline : (apos.endLine == cpos.line) = true) : PE X (.Call (.Attribute o "split" apos) [y] [] cpos) (tI T W (ev C (.split a b))) := by
  refine PE.imp (pe_m1 F.slot_str_split F.type_str_split mt_split ho hb hs hbase hline) fun σ H Q ⟨g, S, e, s, r, q⟩ => ?_
  simp only [ev] at q
  refine ⟨g, S, e, s, r, (GoR.bind q).imp fun g1 H1 v d S1 l1 s1 rd _ q1 => ?_⟩
  obtain ⟨a0, ha0, q1⟩ := orNo_ok q1
  obtain ⟨rfl, _⟩ := str?_ok rd ha0
  refine ⟨⟨_, rfl⟩, g1, S1, e, s1, r.mono l1, (GoR.bind q1).imp fun g2 H2 u d2 S2 l2 s2 rd2 _ q2 => ?_⟩
  obtain ⟨b0, hb0, q3⟩ := orNo_ok q2
  obtain ⟨rfl, _⟩ := str?_ok rd2 hb0
  obtain ⟨hf, q4⟩ := ite_ok q3
  obtain ⟨hf1, hf2⟩ := (Bool.and_eq_true _ _).mp hf
  have h2 := fits_n hf2
  have hl : (PySem.Txt.split a0 b0).length ≤ sizeLine := by
    have := PyProof.Rows.split_le a0 b0
    rw [sizeLine_eq]; omega
  refine ⟨a0, b0, rfl, rfl, by simpa using hf1, by rw [sizeLine_eq]; omega, ?_⟩
  exact mkL_ok (m := false) s2 (by rw [List.length_map]; exact hl) (rds_strs _ _) (by simpa only [mkL, Bool.false_eq_true, if_false] using q4)
/-! ### f-strings -/
def partT (T : Tb) (W : WX) (C : Cal) (a : E) (x : Expr) : TE := match x with
  | .FormattedValue _ _ _ _ => tFmt (tI T W (ev C a))
  | _ => tI T W (ev C a)
theorem tI_mono {f : Ev → Sto → R D} {σ : LSt} {H : Hp} {Q Q' : VK} (h : tI T W f σ H Q) (k : ∀ v H, Q v H → Q' v H) : tI T W f σ H Q' := by
  obtain ⟨g, S, e, s, r, q⟩ := h
  exact ⟨g, S, e, s, r, q.imp fun _ H' v _ _ _ _ _ _ q => k v H' q⟩
def okF (a : E) (x : Expr) : Bool := match x with
  | .FormattedValue _ _ _ _ => true
  | _ => match a with
    | .str _ => true
    | _ => false
theorem parts_run : ∀ (es : List E) (xs : List Expr), es.length = xs.length → (∀ p ∈ es.zip xs, okF p.1 p.2 = true) → ∀ (acc : Str) (σ : LSt) (H : Hp) (Q : Str → Hp → Prop) (g : Gh) (S : Sto) (e : Ev), T.Sim g S H → T.EnvR g σ e →
    GoR T (fun _ (b : Str) d => b = d) W g σ (evFs C es acc e S) (fun _ H' v _ _ => Q v H') → tJs ((es.zip xs).map fun p => partT T W C p.1 p.2) acc σ H Q
  | [], [], _, _, acc, σ, H, Q, g, S, e, s, r, q => by
    simp only [evFs] at q
    exact q.now s rfl
  | [], _ :: _, h, _, _, _, _, _, _, _, _, _, _, _ => by simp at h
  | _ :: _, [], h, _, _, _, _, _, _, _, _, _, _, _ => by simp at h
  | a :: es, x :: xs, h, hok, acc, σ, H, Q, g, S, e, s, r, q => by
    simp only [evFs] at q
    simp only [List.length_cons, Nat.add_right_cancel_iff] at h
    have key : tI T W (ev C a) σ H fun v H1 => ∃ y : Str, (v = .str y ∧ y.length ≤ sizeLine ∨ ∃ i : Int, v = .int i ∧ i.natAbs < 1000000000000 ∧ y = Str.ofString (ToString.toString i)) ∧ (acc ++ y).length ≤ sizeLine ∧ tJs ((es.zip xs).map fun p => partT T W C p.1 p.2) (acc ++ y) σ H1 Q := by
      refine ⟨g, S, e, s, r, (GoR.bind q).imp fun g1 H1 v d S1 l1 s1 rd _ q1 => ?_⟩
      obtain ⟨y, hy, q2⟩ := orNo_ok q1
      obtain ⟨hf, q3⟩ := ite_ok q2
      have hz : (acc ++ y).length ≤ sizeLine := by
        have h1 := fits_n hf
        have h2 : (acc ++ y).length = acc.length + y.length := by
          show (acc.cps ++ y.cps).size = _
          rw [Array.size_append]; rfl
        rw [h2, sizeLine_eq]; exact h1
      refine ⟨y, ?_, hz, parts_run es xs h (fun p hp => hok p (by simp [hp])) _ σ H1 Q g1 S1 e s1 (r.mono l1) q3⟩
      cases rd with
      | str z =>
        simp only [textOf] at hy
        split at hy
        · rename_i hfz
          simp only [Option.some.injEq] at hy
          subst hy
          exact .inl ⟨rfl, by rw [sizeLine_eq]; exact fits_n hfz⟩
        · cases hy
      | int i =>
        simp only [textOf] at hy
        split at hy
        · rename_i hi
          simp only [Option.some.injEq] at hy
          subst hy
          exact .inr ⟨i, rfl, of_decide_eq_true hi, rfl⟩
        · cases hy
      | _ => simp [textOf] at hy
    show partT T W C a x σ H fun v H1 => ∃ y : Str, v = .str y ∧ (acc ++ y).length ≤ sizeLine ∧ tJs ((es.zip xs).map fun p => partT T W C p.1 p.2) (acc ++ y) σ H1 Q
    have ho := hok (a, x) (by simp)
    unfold partT
    split
    · refine tI_mono key fun v H1 ⟨y, hv, hz, hk⟩ => ?_
      rcases hv with ⟨rfl, hy⟩ | ⟨i, rfl, hi, rfl⟩
      · exact .inl ⟨y, rfl, hy, y, rfl, hz, hk⟩
      · exact .inr ⟨i, rfl, log_small hi, _, rfl, hz, hk⟩
    · rename_i hx
      have hs : ∃ z, a = .str z := by
        unfold okF at ho
        cases x with
        | FormattedValue a1 a2 a3 a4 => exact (hx a1 a2 a3 a4 rfl).elim
        | _ =>
          cases a with
          | str z => exact ⟨z, rfl⟩
          | _ => cases ho
      obtain ⟨z, rfl⟩ := hs
      obtain ⟨g, S, e, s, r, q⟩ := key
      simp only [ev] at q
      refine ⟨g, S, e, s, r, ?_⟩
      simp only [ev]
      intro g' H' v l s' rd
      obtain ⟨y, hv, hz, hk⟩ := q g' H' v l s' rd
      rcases hv with ⟨rfl, _⟩ | ⟨i, rfl, _⟩
      · exact ⟨y, rfl, hz, hk⟩
      · cases rd
theorem s_fstr {es : List E} {xs : List Expr} {pos : Pos} (hl : es.length = xs.length) (h2 : 2 ≤ xs.length) (ho : ∀ p ∈ es.zip xs, okF p.1 p.2 = true) (hp : PJ X xs ((es.zip xs).map fun p => partT T W C p.1 p.2)) : PE X (.JoinedStr xs pos) (tI T W (ev C (.fstr es))) := by
  cases xs with
  | nil => simp at h2
  | cons x xs =>
    cases xs with
    | nil => simp at h2
    | cons y xs =>
      refine PE.imp (pe_joined hp) fun σ H Q ⟨g, S, e, s, r, q⟩ => ?_
      simp only [ev] at q
      refine parts_run es _ hl ho Str.empty σ H _ g S e s r ((GoR.bind q).imp fun g1 H1 v d S1 l1 s1 ed _ q1 => ?_)
      subst ed
      exact q1.now s1 (.str _)
end
end CT

end
section
set_option maxHeartbeats 4000000
/-! callturn proofs, part s: does a term of the small language tell this text? -/
namespace CT
open PySem PySem.Spec PyProof.Rows L2
mutual
theorem D.beq_eq : ∀ {a b : D}, D.beq a b = true → a = b
  | .non, b, h => by cases b <;> first | rfl | (simp [D.beq] at h)
  | .bl x, b, h => by cases b <;> simp [D.beq] at h; subst h; rfl
  | .int x, b, h => by cases b <;> simp [D.beq] at h; subst h; rfl
  | .str x, b, h => by cases b <;> simp [D.beq] at h; subst h; rfl
  | .tup x, b, h => by cases b <;> simp [D.beq] at h; rw [beqs_eq h]
  | .lst x, b, h => by cases b <;> simp [D.beq] at h; rw [beqs_eq h]
  | .dct k x, b, h => by
    cases b <;> simp [D.beq] at h
    obtain ⟨h1, h2⟩ := h
    rw [h1, beqs_eq h2]
  | .loc x, b, h => by cases b <;> simp [D.beq] at h; subst h; rfl
  | .scr x, b, h => by cases b <;> simp [D.beq] at h; subst h; rfl
theorem beqs_eq : ∀ {a b : List D}, beqs a b = true → a = b
  | [], [], _ => rfl
  | [], _ :: _, h => by simp [beqs] at h
  | _ :: _, [], h => by simp [beqs] at h
  | a :: x, b :: y, h => by
    simp [beqs] at h
    rw [D.beq_eq h.1, beqs_eq h.2]
end
theorem Ob.beq_eq {a b : Ob} (h : Ob.beq a b = true) : a = b := by
  cases a <;> cases b <;> simp [Ob.beq] at h
  · rw [beqs_eq h]
  · rw [h.1, beqs_eq h.2]
  · rw [h.1.1, h.1.2, beqs_eq h.2]
  · rfl
  · rw [h.1, beqs_eq h.2]
theorem obeqs_eq : ∀ {a b : List Ob}, obeqs a b = true → a = b
  | [], [], _ => rfl
  | [], _ :: _, h => by simp [obeqs] at h
  | _ :: _, [], h => by simp [obeqs] at h
  | a :: x, b :: y, h => by
    simp [obeqs] at h
    rw [Ob.beq_eq h.1, obeqs_eq h.2]

abbrev Nks := List (Str × NameKind)
/-- the names of the def's slots; the module's names, its constants, its defs -/
structure Yx where
  N : List Str
  mgn : List Str
  cst : List (Str × D)
  fns : List (Str × Nat)
  xs : List (Str × Nat)
  cds : List (Str × List Key × List D)
  flds : List Str
  mths : List ((Nat × Str) × Nat)
  mks : List (Str × Nat)
def gl (ns : Nks) (x : Str) : Bool := decide (ns.lookup x = some .globalImplicit)
def bltOk (Y : Yx) (ns : Nks) (x : Str) : Bool := gl ns x && Y.mgn.contains x
def plainName (x : Str) : Bool := !(x == ("__debug__" : Str)) && !(x == ("__classdict__" : Str))
def notStar : Expr → Bool
  | .Starred _ _ => false
  | _ => true
def noSup : Expr → Bool
  | .Call _ _ _ _ => false
  | _ => true
def plainIx : Expr → Bool
  | .Slice _ _ _ _ => false
  | _ => true
def notSet : Expr → Bool
  | .Set _ _ _ => false
  | _ => true
def bopc : BOp → Operator → Bool
  | .add, .Add => true | .sub, .Sub => true | .mul, .Mult => true | .mod, .Mod => true | .fdiv, .FloorDiv => true
  | _, _ => false
def copc : COp → CmpOp → Bool
  | .eq, .Eq => true | .ne, .NotEq => true | .lt, .Lt => true | .le, .LtE => true | .gt, .Gt => true | .ge, .GtE => true
  | .is, .Is => true | .isn, .IsNot => true | .isin, .In => true | .nin, .NotIn => true
  | _, _ => false
def b1nm : B1 → Option Str
  | .len => some "len" | .tuple => some "tuple" | .list => some "list" | .dict => some "dict" | .all => some "all" | .any => some "any"
  | .sum => some "sum" | .max => some "max" | .int => some "int" | .str => some "str" | .sorted => some "sorted" | .min => some "min"
/-- the names of a block, its own and those around it -/
def relN (ns inner : Nks) : Nks := inner.map fun y => if (y.2 == .free && ns.lookup y.1 == some .cell) then (y.1, .cell) else y
def blkc (N : List Str) (ns : Nks) (sc : Scope) (own : List Nat) : Bool :=
  decide (sc.kind = .function) && (sc.names.all (fun y => decide (sc.names.lookup y.1 = some y.2)) && (own.all (fun i => decide (i < N.length)) &&
    (sc.names.all (fun y => !decide (y.2 = .free) || (decide (ns.lookup y.1 = some .cell) || decide (ns.lookup y.1 = some .free))) &&
      sc.names.all (fun y => !(decide (y.2 = .local) || decide (y.2 = .cell)) || (own.any (fun i => decide (N[i]? = some y.1)) || !N.contains y.1)))))
/-- a name that may be set: here, in a block -/
def slotc (N : List Str) (ns : Nks) (i : Nat) (x : Str) : Bool := decide (N[i]? = some x) && (decide (ns.lookup x = some .local) || decide (ns.lookup x = some .cell))
def slotcs (N : List Str) (ns : Nks) : List Nat → List Expr → Bool
  | [], [] => true
  | i :: is, .Name x _ :: es => slotc N ns i x && slotcs N ns is es
  | _, _ => false
def tgc (N : List Str) (ns : Nks) (tg : Tg) (x : Expr) : Bool :=
  match tg, x with
  | .one i, .Name x _ => slotc N ns i x
  | .many is, .Tuple es _ _ => slotcs N ns is es
  | _, _ => false
/-- in a block: a local's slot, or a cell of the block's own -/
def bslot (N : List Str) (ns inner : Nks) (own : List Nat) (i : Nat) (x : Str) : Bool := slotc N ns i x && ((decide (ns.lookup x = some .local) || decide (inner.lookup x = some .cell)) && own.contains i)
def bslots (N : List Str) (ns inner : Nks) (own : List Nat) : List Nat → List Expr → Bool
  | [], [] => true
  | i :: is, .Name x _ :: es => bslot N ns inner own i x && bslots N ns inner own is es
  | _, _ => false
def btg (N : List Str) (ns inner : Nks) (own : List Nat) (tg : Tg) (x : Expr) : Bool :=
  match tg, x with
  | .one i, .Name x _ => bslot N ns inner own i x
  | .many is, .Tuple es _ _ => bslots N ns inner own is es
  | _, _ => false
def isTup : Expr → Bool
  | .Tuple _ _ _ => true
  | _ => false
def plT : Expr → Bool
  | .UnaryOp .Not _ _ => false
  | .BoolOp _ _ _ => false
  | .Compare _ _ _ _ => false
  | .IfExp _ _ _ _ => false
  | _ => true
mutual
/-- may it be a test? -/
def okT : E → Expr → Bool
  | .not a, z => match z with
    | .UnaryOp .Not y _ => okT a y
    | _ => false
  | .and es, z => match z with
    | .BoolOp .And ys _ => okTs es ys
    | _ => false
  | .or es, z => match z with
    | .BoolOp .Or ys _ => okTs es ys
    | _ => false
  | .cmp _ _ _, _ => true
  | .ink _ _, _ => true
  | .chain _ _ _ _ _, _ => true
  | _, z => plT z
def okTs : List E → List Expr → Bool
  | [], _ => true
  | a :: as, z => match z with
    | x :: xs => okT a x && okTs as xs
    | _ => false
end
def isS : E → Option Str
  | .str s => some s
  | _ => none
def isZero : Expr → Bool
  | .Constant (.int 0) _ _ => true
  | _ => false
mutual
def chk (Y : Yx) : E → Nks → Expr → Bool
  | .var i, ns, z => match z with
    | .Name x _ => decide (Y.N[i]? = some x) && ((decide (ns.lookup x = some .local) || (decide (ns.lookup x = some .cell) || decide (ns.lookup x = some .free))) && plainName x)
    | _ => false
  | .glo _ d, ns, z => match z with
    | .Name y _ => gl ns y && ((match Y.cst.lookup y with | some d' => D.beq d' d | none => false) && plainName y)
    | _ => false
  | .int i, _, z => match z with
    | .Constant (.int j) _ _ => decide (i = j)
    | _ => false
  | .bl i, _, z => match z with
    | .Constant (.bool j) _ _ => decide (i = j)
    | _ => false
  | .non, _, z => match z with
    | .Constant .none _ _ => true
    | _ => false
  | .str i, _, z => match z with
    | .Constant (.str j) _ _ => decide (i = j)
    | _ => false
  | .bin o _ a b, ns, z => match z with
    | .BinOp x op y _ => bopc o op && (chk Y a ns x && chk Y b ns y)
    | _ => false
  | .neg a, ns, z => match z with
    | .UnaryOp .USub x _ => chk Y a ns x
    | _ => false
  | .not a, ns, z => match z with
    | .UnaryOp .Not x _ => chk Y a ns x
    | _ => false
  | .and es, ns, z => match z with
    | .BoolOp .And xs _ => !es.isEmpty && chkE Y es ns xs
    | _ => false
  | .or es, ns, z => match z with
    | .BoolOp .Or xs _ => !es.isEmpty && chkE Y es ns xs
    | _ => false
  | .ite c a b, ns, z => match z with
    | .IfExp x y w _ => okT c x && (chk Y c ns x && (chk Y a ns y && chk Y b ns w))
    | _ => false
  | .cmp o a b, ns, z => match z with
    | .Compare x [op] [y] _ => copc o op && (notSet y && (chk Y a ns x && chk Y b ns y))
    | _ => false
  | .ink a b, ns, z => match z with
    | .Compare x [op] [y] _ => copc .isin op && (notSet y && (chk Y a ns x && chk Y b ns y))
    | _ => false
  | .sbk a b, ns, z => match z with
    | .Subscript x y _ => plainIx y && (chk Y a ns x && chk Y b ns y)
    | _ => false
  | .chain o o' a b c, ns, z => match z with
    | .Compare x [op, op'] [y, w] _ => (copc o op && copc o' op') && (notSet w && (chk Y a ns x && (chk Y b ns y && chk Y c ns w)))
    | _ => false
  | .call f as, ns, z => match z with
    | .Call (.Name x _) (y :: ys) [] _ => gl ns x && (decide (Y.fns.lookup x = some f) && (plainName x && chks Y as ns (y :: ys)))
    | _ => false
  | .isi a t, ns, z => match z with
    | .Call (.Name x _) [y, .Name w _] [] _ => decide (x = "isinstance") && (bltOk Y ns "isinstance" && (decide (w = Str.ofString (tyS t)) && (bltOk Y ns w && (notStar y && chk Y a ns y))))
    | _ => false
  | .b1 b _ a, ns, z => match z with
    | .Call (.Name x _) [y] [] _ => decide (b1nm b = some x) && (bltOk Y ns x && (notStar y && chk Y a ns y))
    | _ => false
  | .lenset a, ns, z => match z with
    | .Call (.Name x _) [.Call (.Name x2 _) [y] [] _] [] _ => (decide (x = "len") && decide (x2 = "set")) && ((bltOk Y ns "len" && bltOk Y ns "set") && (notStar y && chk Y a ns y))
    | _ => false
  | .sortset a, ns, z => match z with
    | .Call (.Name x _) [.Call (.Name x2 _) [y] [] _] [] _ => (decide (x = "sorted") && decide (x2 = "set")) && ((bltOk Y ns "sorted" && bltOk Y ns "set") && (notStar y && chk Y a ns y))
    | _ => false
  | .join a b, ns, z => match z with
    | .Call (.Attribute o m ap) [y] [] cp => (decide (m = "join") && (ap.endLine == cp.line)) && ((noSup o && notStar y) && (chk Y a ns o && chk Y b ns y))
    | _ => false
  | .split a b, ns, z => match z with
    | .Call (.Attribute o m ap) [y] [] cp => (decide (m = "split") && (ap.endLine == cp.line)) && ((noSup o && notStar y) && (chk Y a ns o && chk Y b ns y))
    | _ => false
  | .fstr es, ns, z => match z with
    | .JoinedStr xs _ => decide (2 ≤ xs.length) && chkF Y es ns xs
    | _ => false
  | .append a b, ns, z => match z with
    | .Call (.Attribute o m ap) [y] [] cp => (decide (m = "append") && (ap.endLine == cp.line)) && ((noSup o && notStar y) && (chk Y a ns o && chk Y b ns y))
    | _ => false
  | .extend a b, ns, z => match z with
    | .Call (.Attribute o m ap) [y] [] cp => (decide (m = "extend") && (ap.endLine == cp.line)) && ((noSup o && notStar y) && (chk Y a ns o && chk Y b ns y))
    | _ => false
  | .pop a, ns, z => match z with
    | .Call (.Attribute o m ap) [] [] cp => (decide (m = "pop") && (ap.endLine == cp.line)) && (noSup o && chk Y a ns o)
    | _ => false
  | .pop0 a, ns, z => match z with
    | .Call (.Attribute o m ap) [y] [] cp => (decide (m = "pop") && (ap.endLine == cp.line)) && ((noSup o && notStar y) && (chk Y a ns o && isZero y))
    | _ => false
  | .get1 a b, ns, z => match z with
    | .Call (.Attribute o m ap) [y] [] cp => (decide (m = "get") && (ap.endLine == cp.line)) && ((noSup o && notStar y) && (chk Y a ns o && chk Y b ns y))
    | _ => false
  | .get2 a b c, ns, z => match z with
    | .Call (.Attribute o m ap) [y, w] [] cp => (decide (m = "get") && (ap.endLine == cp.line)) && ((noSup o && (notStar y && notStar w)) && (chk Y a ns o && (chk Y b ns y && chk Y c ns w)))
    | _ => false
  | .dictzip _ a b, ns, z => match z with
    | .Call (.Name x _) [.Call (.Name x2 _) [y, w] [] _] [] _ => (decide (x = "dict") && decide (x2 = "zip")) && ((bltOk Y ns "dict" && bltOk Y ns "zip") && ((notStar y && notStar w) && (chk Y a ns y && chk Y b ns w)))
    | _ => false
  | .index a b, ns, z => match z with
    | .Call (.Attribute o m ap) [y] [] cp => (decide (m = "index") && (ap.endLine == cp.line)) && ((noSup o && notStar y) && (chk Y a ns o && chk Y b ns y))
    | _ => false
  | .tidx a b, ns, z => match z with
    | .Call (.Attribute o m ap) [y] [] cp => (decide (m = "index") && (ap.endLine == cp.line)) && ((noSup o && notStar y) && (chk Y a ns o && chk Y b ns y))
    | _ => false
  | .dpk a, ns, z => match z with
    | .Call (.Name x _) [y] [] _ => decide (x = "dict") && (bltOk Y ns "dict" && (notStar y && chk Y a ns y))
    | _ => false
  | .count a b, ns, z => match z with
    | .Call (.Attribute o m ap) [y] [] cp => (decide (m = "count") && (ap.endLine == cp.line)) && ((noSup o && notStar y) && (chk Y a ns o && chk Y b ns y))
    | _ => false
  | .update a b, ns, z => match z with
    | .Call (.Attribute o m ap) [y] [] cp => (decide (m = "update") && (ap.endLine == cp.line)) && ((noSup o && notStar y) && (chk Y a ns o && chk Y b ns y))
    | _ => false
  | .max2 a b, ns, z => match z with
    | .Call (.Name x _) [y, w] [] _ => decide (x = "max") && (bltOk Y ns "max" && ((notStar y && notStar w) && (chk Y a ns y && chk Y b ns w)))
    | _ => false
  | .min2 a b, ns, z => match z with
    | .Call (.Name x _) [y, w] [] _ => decide (x = "min") && (bltOk Y ns "min" && ((notStar y && notStar w) && (chk Y a ns y && chk Y b ns w)))
    | _ => false
  | .gsub ks ds b, ns, z => match z with
    | .Subscript (.Name x _) y _ => gl ns x && ((match Y.cds.lookup x with | some p => decide (p.1 = ks) && beqs p.2 ds | none => false) && (plainName x && (plainIx y && chk Y b ns y)))
    | _ => false
  | .attr a f, ns, z => match z with
    | .Attribute x g _ => decide (f = g) && (Y.flds.contains f && (noSup x && chk Y a ns x))
    | _ => false
  | .make c as, ns, z => match z with
    | .Call (.Name x _) (y :: ys) [] _ => gl ns x && (decide (Y.mks.lookup x = some c) && (plainName x && chks Y as ns (y :: ys)))
    | _ => false
  | .meth i c m a as, ns, z => match z with
    | .Call (.Attribute o g ap) ys [] cp => (decide (m = g) && (decide (Y.mths.lookup (c, m) = some i) && ((ap.endLine == cp.line) && decide (ys.length < 20)))) && (noSup o && (chk Y a ns o && chks Y as ns ys))
    | _ => false
  | .sub a b, ns, z => match z with
    | .Subscript x y _ => plainIx y && (chk Y a ns x && chk Y b ns y)
    | _ => false
  | .sl a lo hi, ns, z => match z with
    | .Subscript x (.Slice l h none _) _ => chk Y a ns x && (chkO Y lo ns l && chkO Y hi ns h)
    | _ => false
  | .slm a lo hi, ns, z => match z with
    | .Subscript x (.Slice l h none _) _ => chk Y a ns x && (chkO Y lo ns l && chkO Y hi ns h)
    | _ => false
  | .rev a, ns, z => match z with
    | .Subscript x (.Slice none none (some (.UnaryOp .USub (.Constant (.int i) _ _) _)) _) _ => decide (i = 1) && chk Y a ns x
    | _ => false
  | .tup es, ns, z => match z with
    | .Tuple xs _ _ => chks Y es ns xs
    | _ => false
  | .lst _ es, ns, z => match z with
    | .List xs _ => chks Y es ns xs
    | _ => false
  | .dct _ kvs, ns, z => match z with
    | .Dict ks vs _ => decide (ks.length ≤ 15) && chkP Y kvs ns ks vs
    | _ => false
  | .comp _ el tg ik its cs own, ns, z => match z with
    | .ListComp elt [⟨t, iter, ifs, k⟩] sc _ => (decide (k = 0) && notSet iter) && (blkc Y.N ns sc own && (btg Y.N (relN ns sc.names) sc.names own tg t && (chk Y el (relN ns sc.names) elt &&
        (chkI Y its ik ns t iter && chkC Y cs (relN ns sc.names) ifs))))
    | _ => false
  | .frz a, ns, z => chk Y a ns z
def chkI (Y : Yx) : List E → IK → Nks → Expr → Expr → Bool
  | [a], ik, ns, t, z => match ik with
    | .seq => chk Y a ns z
    | .range1 => match z with
      | .Call (.Name x _) [y] [] _ => decide (x = "range") && (bltOk Y ns "range" && (notStar y && chk Y a ns y))
      | _ => false
    | .enum => match z with
      | .Call (.Name x _) [y] [] _ => isTup t && (decide (x = "enumerate") && (bltOk Y ns "enumerate" && (notStar y && chk Y a ns y)))
      | _ => false
    | _ => false
  | [a, b], ik, ns, t, z => match ik with
    | .range2 => match z with
      | .Call (.Name x _) [y, w] [] _ => decide (x = "range") && (bltOk Y ns "range" && ((notStar y && notStar w) && (chk Y a ns y && chk Y b ns w)))
      | _ => false
    | .zip => match z with
      | .Call (.Name x _) [y, w] [] _ => isTup t && (decide (x = "zip") && (bltOk Y ns "zip" && ((notStar y && notStar w) && (chk Y a ns y && chk Y b ns w))))
      | _ => false
    | _ => false
  | _, _, _, _, _ => false
def chkC (Y : Yx) : List E → Nks → List Expr → Bool
  | [], _, z => z.isEmpty
  | [c], ns, z => match z with
    | [x] => okT c x && chk Y c ns x
    | _ => false
  | _, _, _ => false
def chks (Y : Yx) : List E → Nks → List Expr → Bool
  | [], _, z => match z with
    | [] => true
    | _ => false
  | a :: as, ns, z => match z with
    | x :: xs => notStar x && (chk Y a ns x && chks Y as ns xs)
    | _ => false
def chkF (Y : Yx) : List E → Nks → List Expr → Bool
  | [], _, z => match z with
    | [] => true
    | _ => false
  | a :: as, ns, z => match z with
    | .FormattedValue x c sp _ :: xs => (decide (c = -1) && sp.isNone) && (chk Y a ns x && chkF Y as ns xs)
    | .Constant (.str j) w u :: xs => decide (isS a = some j) && (chk Y a ns (.Constant (.str j) w u) && chkF Y as ns xs)
    | _ => false
def chkE (Y : Yx) : List E → Nks → List Expr → Bool
  | [], _, z => match z with
    | [] => true
    | _ => false
  | a :: as, ns, z => match z with
    | x :: xs => chk Y a ns x && chkE Y as ns xs
    | _ => false
def chkO (Y : Yx) : List E → Nks → Option Expr → Bool
  | [], _, z => match z with
    | none => true
    | _ => false
  | a :: as, ns, z => match z with
    | some x => as.isEmpty && chk Y a ns x
    | _ => false
def chkP (Y : Yx) : List E → Nks → List (Option Expr) → List Expr → Bool
  | [], _, ks, vs => match ks, vs with
    | [], [] => true
    | _, _ => false
  | [_], _, _, _ => false
  | a :: b :: r, ns, ks, vs => match ks, vs with
    | some k :: ks, v :: vs => chk Y a ns k && (chk Y b ns v && chkP Y r ns ks vs)
    | _, _ => false
end
end CT

end
section
set_option maxHeartbeats 4000000
/-! callturn proofs, part t: what the checker lets by is sound, expressions -/
namespace CT
open PySem PySem.Spec PyProof.Rows L2
theorem and2 {a b : Bool} (h : (a && b) = true) : a = true ∧ b = true := by cases a <;> cases b <;> simp_all
theorem dec {p : Prop} [Decidable p] (h : decide p = true) : p := of_decide_eq_true h
theorem star_cons {x : Expr} {xs : List Expr} {env : Env} (h : notStar x = true) : starEach (x :: xs) env = (false, eval x env) :: starEach xs env := by cases x <;> first | rfl | (simp [notStar] at h)
theorem ab_plain {o : Expr} {m : Str} {env : Env} (h : noSup o = true) : attributeBase o m env (eval o env) = eval o env := by cases o <;> first | rfl | (simp [noSup] at h)
theorem ix_plain {y : Expr} (h : plainIx y = true) : PlainIx y := by intro o i; cases y <;> first | rfl | (simp [plainIx] at h)
theorem mark_no {op : CmpOp} {y : Expr} (h : notSet y = true) : behindInMarks op y = false := by cases y <;> first | rfl | (simp [notSet] at h)
theorem fold_no {x : Expr} {env : Env} (h : notSet x = true) : ∀ v, foldedSetIterable x env v = pure v := by intro v; cases x <;> first | rfl | (simp [notSet] at h)
theorem bm_of {X : Cx} {o y : Expr} {m : Str} {ap cp : Pos} (h1 : noSup o = true) (h2 : notStar y = true) (h3 : (ap.endLine == cp.line) = true) : Bm X o m ap cp y [] :=
  ⟨ab_plain h1, by rw [star_cons h2]; rfl, h3, star_cons h2, rfl⟩
theorem m1_of {X : Cx} {o y : Expr} {m : Str} {ap cp : Pos} (h1 : noSup o = true) (h2 : notStar y = true) (h3 : (ap.endLine == cp.line) = true) : M1 X o m ap y cp :=
  ⟨ab_plain h1, by rw [star_cons h2]; rfl, h3, by rw [star_cons h2]; rfl⟩
theorem m2_of {X : Cx} {o y z : Expr} {m : Str} {ap cp : Pos} (h1 : noSup o = true) (h2 : notStar y = true) (h4 : notStar z = true) (h3 : (ap.endLine == cp.line) = true) : M2 X o m ap y z cp :=
  ⟨ab_plain h1, by rw [star_cons h2, star_cons h4]; rfl, h3, by rw [star_cons h2, star_cons h4]; rfl⟩
theorem plT_true {x : Expr} {env : Env} (h : plT x = true) : ∀ whole, isTrue x env whole = (do let v ← whole; standAt x.pos; holding [v] (truthy v)) := by
  intro whole
  cases x with
  | UnaryOp op y p => cases op <;> first | rfl | (simp [plT] at h)
  | _ => first | rfl | (simp [plT] at h)

/-- what a def promises: as its run says -/
def spF (T : Tb) (C : Cal) (i : Nat) : Sp := fun vs H Q E => ∃ g S ds, T.Sim g S H ∧ T.RDs g vs ds ∧ GoR T T.RD (fun cls d _ H => E cls d H) g [] (C.fn i ds S) fun _ H' v _ _ => Q v H'

/-- the classes and tables of the text -/
structure Bx (T : Tb) (C : Cal) (Y : Yx) (n : Nat) (prog : Program) (w : World) (K : PySem.W.Frag) (mg : Str → Option Value) (base : Heap) : Prop where
  cds : ∀ x ks ds, Y.cds.lookup x = some (ks, ds) → ∃ t es k, mg x = some (.ref t) ∧ KDict K w t es k ∧ ∀ z d, dget ks ds (.inr z) = some d → ∃ u v, PySem.W.nsIn K t z = some (some u) ∧ RelV v u ∧ ∀ g, T.RD g v d
  flds : ∀ f, Y.flds.contains f = true → ∀ c, Cls K (T.cA c) ∧ NoAttr K (T.cA c) f
  mths : ∀ c m i, Y.mths.lookup (c, m) = some i → ∃ f fd ps, Cls K (T.cA c) ∧ Meth K (T.cA c) m f ∧ Binds K fd ps [] ∧ FnF prog w K mg base n f fd ps (spF T C i)
  mks : ∀ x c, Y.mks.lookup x = some c → mg x = some (.ref (T.cA c)) ∧ PySem.W.keepIn K (.ref (T.cA c)) = true ∧ ((∀ ds S, C.mak c ds S = .no) ∨ ∃ f fd ps i C' n', n = n' + 1 ∧ (∀ ds S, C.mak c ds S = mkRun C' i c ds S) ∧ Mk K (T.cA c) f ∧ Binds K fd ps [] ∧ FnF prog w K mg base n' f fd ps (spF T C' i))
/-- all that an expression's text leans on -/
structure Bd (T : Tb) (C : Cal) (Y : Yx) (n : Nat) (ns : Nks) (X : Cx) (F : Addr) (W : WX) : Prop where
  K : X.K = T.K
  calm : X.calm = true
  N : X.N = Y.N
  nd : Y.N.Nodup
  nm : X.env.scope.names = ns
  kd : X.env.scope.kind = .function
  tk : TakF X F W
  fr : X.env.frame = some F
  st : ∃ e0 out, X.stack = e0 :: out ∧ e0.frame = some F
  room : Rm n X.A
  mgb : ∀ x, Y.mgn.contains x = true → X.mg x = none
  cst : ∀ x d, Y.cst.lookup x = some d → ∃ v u, X.mg x = some u ∧ RelV v u ∧ ∀ g, T.RD g v d
  fns : ∀ x i, Y.fns.lookup x = some i → ∃ f fd ps, X.mg x = some (.ref f) ∧ PySem.W.keepIn X.K (.ref f) = true ∧ Binds X.K fd ps [] ∧ FnF X.prog X.w X.K X.mg X.base n f fd ps (spF T C i)
  x : Bx T C Y n X.prog X.w X.K X.mg X.base
  nh : T.nh = fun k => k.hash X.w
section
variable {T : Tb} {W : WX} {X : Cx} {C : Cal} {Y : Yx} {n : Nat} {ns : Nks} {F : Addr}
theorem Bd.gl (B : Bd T C Y n ns X F W) {x : Str} (h : gl ns x = true) : Gl X x := by
  show X.env.scope.names.lookup x = _
  rw [B.nm]; exact dec h
theorem Bd.blt (B : Bd T C Y n ns X F W) {x : Str} (h : bltOk Y ns x = true) : Gl X x ∧ X.mg x = none := by
  obtain ⟨h1, h2⟩ := and2 h
  exact ⟨B.gl h1, B.mgb x h2⟩
theorem Bd.u65 (B : Bd T C Y n ns X F W) : X.A.units + 65 < cLine := by have := B.room.un; omega
theorem Bd.u1 (B : Bd T C Y n ns X F W) : X.A.units + 1 < cLine := by have := B.room.un; omega
theorem Bd.blk (B : Bd T C Y n ns X F W) {W' : WX} {s : Shared} {H : Hp} {sc : Scope} {cl : List (Str × Addr)} {A : Addr} {fp : List Addr} {EB : Value → Shared → Prop} (hk : sc.kind = .function)
    (tk : TakF ((X.blk s H sc (compEnvC sc cl A X.env) fp).wish EB) F W') : Bd T C Y n (relN ns sc.names) ((X.blk s H sc (compEnvC sc cl A X.env) fp).wish EB) F W' where
  K := B.K
  calm := B.calm
  N := B.N
  nd := B.nd
  nm := by
    show sc.names.map _ = sc.names.map _
    apply List.map_congr_left
    intro y _
    have e : X.env.kindOf y.1 = ns.lookup y.1 := by show X.env.scope.names.lookup y.1 = _; rw [B.nm]
    have ek : (X.env.scope.kind == ScopeKind.function) = true := by rw [B.kd]; rfl
    simp only [e, ek, Bool.and_true]
  kd := hk
  tk := tk
  fr := B.fr
  st := B.st
  room := B.room
  mgb := B.mgb
  cst := B.cst
  fns := B.fns
  x := B.x
  nh := B.nh
/-- a block's names -/
theorem blk_ok {sc : Scope} {own : List Nat} (h : blkc Y.N ns sc own = true) (hN : X.N = Y.N) (hn : X.env.scope.names = ns) : BlkOk X.N X.env.scope sc (own.map fun i => (Y.N.getD i default, i)) ∧ sc.kind = .function := by
  obtain ⟨h1, h⟩ := and2 h
  obtain ⟨h2, h⟩ := and2 h
  obtain ⟨h3, h⟩ := and2 h
  obtain ⟨h4, h5⟩ := and2 h
  have h1 := dec h1
  refine ⟨⟨h1, fun y hy => dec (List.all_eq_true.mp h2 y hy), fun p hp => ?_, fun y hy e => ?_, fun y hy e => ?_⟩, h1⟩
  · obtain ⟨i, hi, rfl⟩ := List.mem_map.mp hp
    have hl := dec (List.all_eq_true.mp h3 i hi)
    rw [hN]
    simp [List.getD_eq_getElem?_getD, hl]
  · have := List.all_eq_true.mp h4 y hy
    rw [e] at this
    simp only [decide_true, Bool.not_true, Bool.false_or, Bool.or_eq_true, decide_eq_true_eq] at this
    rw [hn]; exact this
  · have := List.all_eq_true.mp h5 y hy
    have e' : (decide (y.2 = NameKind.local) || decide (y.2 = NameKind.cell)) = true := by
      rcases e with e | e <;> simp [e]
    rw [e'] at this
    simp only [Bool.not_true, Bool.false_or, Bool.or_eq_true, List.any_eq_true, decide_eq_true_eq] at this
    rcases this with ⟨i, hi, he⟩ | h
    · left
      refine List.mem_map.mpr ⟨(Y.N.getD i default, i), List.mem_map.mpr ⟨i, hi, rfl⟩, ?_⟩
      simp [List.getD_eq_getElem?_getD, he]
    · right
      rw [hN]
      simpa using h
theorem own_back (own : List Nat) : (own.map fun i => (Y.N.getD i (default : Str), i)).map (·.2) = own := by
  rw [List.map_map]; simp [Function.comp_def]
theorem slot_ok (B : Bd T C Y n ns X F W) {i : Nat} {x : Str} (h : slotc Y.N ns i x = true) : X.N[i]? = some x ∧ Loc X.env.scope x := by
  obtain ⟨h1, h2⟩ := and2 h
  refine ⟨by rw [B.N]; exact dec h1, ?_⟩
  unfold L2.Loc
  rw [B.nm]
  simpa using h2
/-- a block's target -/
theorem bslot_ok (B : Bd T C Y n ns X F W) {inner : Nks} {own : List Nat} {i : Nat} {x : Str} (hf : ∀ x, inner.lookup x = some .cell → X.fn x = true) (h : bslot Y.N ns inner own i x = true) : X.N[i]? = some x ∧ Loc X.env.scope x ∧ (X.fn x = true ∨ X.env.scope.names.lookup x = some .local) ∧ i ∈ own := by
  obtain ⟨h1, h2⟩ := and2 h
  obtain ⟨h2, h3⟩ := and2 h2
  obtain ⟨a, b⟩ := slot_ok B h1
  refine ⟨a, b, ?_, by simpa using h3⟩
  rw [B.nm]
  simp only [Bool.or_eq_true, decide_eq_true_eq] at h2
  rcases h2 with h2 | h2
  · exact .inr h2
  · exact .inl (hf x h2)
theorem bslots_ok (B : Bd T C Y n ns X F W) {inner : Nks} {own : List Nat} (hf : ∀ x, inner.lookup x = some .cell → X.fn x = true) : ∀ {is : List Nat} {es : List Expr}, bslots Y.N ns inner own is es = true → Nms X es is ∧ ∀ i ∈ is, i ∈ own
  | [], [], _ => ⟨.nil, by simp⟩
  | [], _ :: _, h => by simp [bslots] at h
  | _ :: _, [], h => by simp [bslots] at h
  | i :: is, e :: es, h => by
    cases e with
    | Name x p =>
      obtain ⟨h1, h2⟩ := and2 (show (bslot Y.N ns inner own i x && bslots Y.N ns inner own is es) = true from h)
      obtain ⟨a, b, c, d⟩ := bslot_ok B hf h1
      obtain ⟨r1, r2⟩ := bslots_ok B hf h2
      refine ⟨.cons a b c r1, fun j hj => ?_⟩
      rcases List.mem_cons.mp hj with e | e
      · exact e ▸ d
      · exact r2 j e
    | _ => simp [bslots] at h
theorem btg_ok (B : Bd T C Y n ns X F W) {inner : Nks} {own : List Nat} (hf : ∀ x, inner.lookup x = some .cell → X.fn x = true) {tg : Tg} {x : Expr} (h : btg Y.N ns inner own tg x = true) : PG X x (tTgO T (isTup x) tg own) := by
  have nd : X.N.Nodup := by rw [B.N]; exact B.nd
  cases tg with
  | one i =>
    cases x with
    | Name y p =>
      obtain ⟨a, b, c, d⟩ := bslot_ok B hf (show bslot Y.N ns inner own i y = true from h)
      exact go_one nd a b c d
    | _ => simp [btg] at h
  | many is =>
    cases x with
    | Tuple es k p =>
      obtain ⟨a, b⟩ := bslots_ok B hf (show bslots Y.N ns inner own is es = true from h)
      exact go_many B.K B.calm nd a b
    | _ => simp [btg] at h
theorem s_call (B : Bd T C Y n ns X F W) {i : Nat} {as : List E} {x : Str} {y : Expr} {ys : List Expr} {p pos : Pos} (hg : gl ns x = true) (hf : Y.fns.lookup x = some i) (hd : (x == ("__debug__" : Str)) = false) (ha : PA X (y :: ys) (tIs T W (evs C as)))
    (hs : starEach (y :: ys) X.env = (false, eval y X.env) :: starEach ys X.env) (hp : (backTo pos (starEach ys X.env)).any (·.1) = false) : PE X (.Call (.Name x p) (y :: ys) [] pos) (tI T W (ev C (.call i as))) := by
  obtain ⟨f, fd, ps, h1, h2, h3, h4⟩ := B.fns x i hf
  refine PE.imp (pe_callF (E := fun σ cls d H => W cls d σ H) h4 B.room (B.gl hg) h1 h2 h3 (fun σ => B.tk.passes σ _ fun _ _ _ h => h) ha hd hs hp) fun σ H Q ⟨g, S, e, s, r, q⟩ => ?_
  simp only [ev] at q
  refine ⟨g, S, e, s, r, (GoR.bind q).imp fun g1 H1 vs ds S1 l1 s1 rd _ q1 => ?_⟩
  refine ⟨g1, S1, ds, s1, rd, ?_⟩
  revert q1
  cases C.fn i ds S1 <;> exact fun q => q
theorem s_make' (B : Bd T C Y n ns X F W) {c : Nat} {as : List E} {x : Str} {y : Expr} {ys : List Expr} {p pos : Pos} (hg : gl ns x = true) (hf : Y.mks.lookup x = some c) (hd : (x == ("__debug__" : Str)) = false) (ha : PA X (y :: ys) (tIs T W (evs C as)))
    (hs : starEach (y :: ys) X.env = (false, eval y X.env) :: starEach ys X.env) (hp : (backTo pos (starEach ys X.env)).any (·.1) = false) : PE X (.Call (.Name x p) (y :: ys) [] pos) (tI T W (ev C (.make c as))) := by
  obtain ⟨h1, h0, h2⟩ := B.x.mks x c hf
  rcases h2 with h2 | ⟨f, fd, ps, i, C', n', en, hC, M, hb, F'⟩
  · refine ⟨fun pins z σ H Q I ⟨g, S, e, s, r, q⟩ => wpAny_Call_Name_kw (ld_glob I (B.gl hg) h1 ?_ hd)⟩
    simp only [ev] at q
    have q' : tIs T W (evs C as) σ H (fun _ _ => False) := ⟨g, S, e, s, r, (GoR.bind q).imp fun g1 H1 vs ds S1 l1 s1 rd _ q1 => by rw [h2] at q1; exact q1⟩
    exact PySem.W.callWith_K (h₀ := X.base) I.ok.mod.kin h0 (thn (ha.run pos pins z σ H _ I q') fun us z1 ⟨vs, H1, I1, r, q⟩ => q.elim) hs hp
  · subst en
    exact s_make hC M F' B.room hb (fun σ => B.tk.passes σ _ fun _ _ _ h => h) (B.gl hg) h1 ha hd hs hp
theorem stars_hd {as : List E} {ns : Nks} {y : Expr} {ys : List Expr} (h : chks Y as ns (y :: ys) = true) : notStar y = true ∧ ∃ as', chks Y as' ns ys = true := by
  cases as with
  | nil => unfold chks at h; cases h
  | cons a as =>
    unfold chks at h
    obtain ⟨h1, h2⟩ := and2 h
    exact ⟨h1, as, (and2 h2).2⟩
theorem stars_all : ∀ {as : List E} {ns : Nks} {xs : List Expr} {env : Env} {pos : Pos}, chks Y as ns xs = true → (backTo pos (starEach xs env)).all (fun x => !x.1) = true
  | [], _, xs, _, _, h => by
    cases xs with
    | nil => rfl
    | cons _ _ => unfold chks at h; cases h
  | a :: as, _, xs, _, _, h => by
    cases xs with
    | nil => unfold chks at h; cases h
    | cons x xs =>
      obtain ⟨h1, h2⟩ := and2 (by unfold chks at h; exact h)
      obtain ⟨_, h3⟩ := and2 h2
      rw [star_cons h1]
      exact stars_all h3
theorem stars_any : ∀ {as : List E} {ns : Nks} {xs : List Expr} {env : Env} {pos : Pos}, chks Y as ns xs = true → (backTo pos (starEach xs env)).any (·.1) = false
  | [], _, xs, _, _, h => by
    cases xs with
    | nil => rfl
    | cons _ _ => unfold chks at h; cases h
  | a :: as, _, xs, _, _, h => by
    cases xs with
    | nil => unfold chks at h; cases h
    | cons x xs =>
      obtain ⟨h1, h2⟩ := and2 (by unfold chks at h; exact h)
      obtain ⟨_, h3⟩ := and2 h2
      rw [star_cons h1]
      exact stars_any h3
end
end CT

end
section
set_option maxHeartbeats 8000000
/-! callturn proofs, part u: what the checker lets by is sound, expressions: the proof -/
namespace CT
open PySem PySem.Spec PyProof.Rows L2
section
variable {T : Tb} {C : Cal} {Y : Yx} {n : Nat} {F : Addr}
theorem pn {x : Str} (h : plainName x = true) : (x == ("__debug__" : Str)) = false ∧ (x == ("__classdict__" : Str)) = false := by
  obtain ⟨h1, h2⟩ := and2 h
  exact ⟨by simpa using h1, by simpa using h2⟩
theorem b1_ok {X : Cx} {ns : Nks} {W : WX} (B : Bd T C Y n ns X F W) {b : B1} {m : Bool} {a : E} {x : Str} {y : Expr} {p pos : Pos} (hb : b1nm b = some x) (hx : bltOk Y ns x = true) (hy : notStar y = true) (ha : PE X y (tI T W (ev C a))) : PE X (.Call (.Name x p) [y] [] pos) (tI T W (ev C (.b1 b m a))) := by
  obtain ⟨g1, g2⟩ := B.blt hx
  have st : starEach [y] X.env = (false, eval y X.env) :: starEach [] X.env := star_cons hy
  cases b with
  | len => cases hb; exact s_b1 (c_len B.K m) g1 g2 (by decide +kernel) ha (by decide) (by decide) st
  | tuple => cases hb; exact s_b1T (c_tuple B.K m) g1 g2 (by decide +kernel) ha (by decide) (by decide) st
  | list => cases hb; exact s_b1T (c_list B.K m) g1 g2 (by decide +kernel) ha (by decide) (by decide) st
  | dict => cases hb; exact s_b1T (c_dict B.K B.calm m) g1 g2 (by decide +kernel) ha (by decide) (by decide) st
  | all => cases hb; exact s_b1 (c_all B.K B.calm m) g1 g2 (by decide +kernel) ha (by decide) (by decide) st
  | any => cases hb; exact s_b1 (c_any B.K B.calm m) g1 g2 (by decide +kernel) ha (by decide) (by decide) st
  | sum => cases hb; exact s_b1 (c_sum B.K B.calm m) g1 g2 (by decide +kernel) ha (by decide) (by decide) st
  | max => cases hb; exact s_b1 (c_max B.K B.calm m) g1 g2 (by decide +kernel) ha (by decide) (by decide) st
  | int => cases hb; exact s_b1T (c_int m) g1 g2 (by decide +kernel) ha (by decide) (by decide) st
  | str => cases hb; exact s_b1T (c_str m) g1 g2 (by decide +kernel) ha (by decide) (by decide) st
  | sorted => cases hb; exact s_b1 (c_sorted B.K B.calm B.u65 m) g1 g2 (by decide +kernel) ha (by decide) (by decide) st
  | min => cases hb; exact s_b1 (c_min B.K B.calm m) g1 g2 (by decide +kernel) ha (by decide) (by decide) st
theorem cop_ok {X : Cx} {ns : Nks} {W : WX} (B : Bd T C Y n ns X F W) {o : COp} {op : CmpOp} (h : copc o op = true) : OpR X (compareOp op) (rTwo T W (cmpop o)) :=
  o_cmp B.K B.u65 (by cases o <;> cases op <;> first | rfl | (simp [copc] at h))
theorem bop_ok {X : Cx} {ns : Nks} {W : WX} (B : Bd T C Y n ns X F W) {o : BOp} {op : Operator} {m : Bool} (h : bopc o op = true) : OpR X (binaryOp op) (rTwo T W (binop o m)) :=
  o_bin B.K m (by cases o <;> cases op <;> first | rfl | (simp [bopc] at h))
theorem marks_no {o o' : CmpOp} {y w : Expr} (h : notSet w = true) : lastMarks [o, o'] [y, w] = false := by
  show behindInMarks o' w = false
  exact mark_no h
/-- as a value; as a test -/
theorem in_op {op : CmpOp} (h : copc .isin op = true) : op = .In := by
  cases op <;> first | rfl | (simp [copc] at h)
structure Bo (T : Tb) (C : Cal) (a : E) (x : Expr) (X : Cx) (W : WX) : Prop where
  e : PE X x (tI T W (ev C a))
  t : okT a x = true → PT X x (tIT T W (tst C a))
theorem mkBo {X : Cx} {ns : Nks} {W : WX} (B : Bd T C Y n ns X F W) {a : E} {x : Expr} (h : PE X x (tI T W (ev C a))) (e : okT a x = plT x) : Bo T C a x X W :=
  ⟨h, fun o => t_truth B.K h (plT_true (e ▸ o))⟩
mutual
theorem snd : ∀ (a : E) {ns : Nks} {x : Expr} {X : Cx} {W : WX}, Bd T C Y n ns X F W → chk Y a ns x = true → Bo T C a x X W
  | .var i, ns, x, X, W, B, h => by
    unfold chk at h
    split at h
    · rename_i y p
      obtain ⟨h1, h2⟩ := and2 h
      obtain ⟨h2, h3⟩ := and2 h2
      obtain ⟨d1, d2⟩ := pn h3
      have vs : Vis X.env.scope y := by
        unfold Vis
        rw [B.nm]
        simpa using h2
      exact mkBo B (s_var (by rw [B.N]; exact dec h1) vs d1 d2) rfl
    · cases h
  | .glo _ d, ns, x, X, W, B, h => by
    unfold chk at h
    split at h
    · rename_i y p
      obtain ⟨h2, g3⟩ := and2 h
      obtain ⟨h3, h4⟩ := and2 g3
      cases hc : Y.cst.lookup y with
      | none => rw [hc] at h3; cases h3
      | some d' =>
        rw [hc] at h3
        have e := D.beq_eq h3
        subst e
        obtain ⟨v, u, m1, m2, m3⟩ := B.cst y _ hc
        exact mkBo B (s_glo (B.gl h2) m1 m2 m3 (pn h4).1) rfl
    · cases h
  | .int i, ns, x, X, W, B, h => by
    unfold chk at h
    split at h
    · have e := dec h; subst e; exact mkBo B (s_int) rfl
    · cases h
  | .bl i, ns, x, X, W, B, h => by
    unfold chk at h
    split at h
    · have e := dec h; subst e; exact mkBo B (s_bl) rfl
    · cases h
  | .non, ns, x, X, W, B, h => by
    unfold chk at h
    split at h
    · exact mkBo B (s_non) rfl
    · cases h
  | .str i, ns, x, X, W, B, h => by
    unfold chk at h
    split at h
    · have e := dec h; subst e; exact mkBo B (s_str) rfl
    · cases h
  | .bin o m a b, ns, x, X, W, B, h => by
    unfold chk at h
    split at h
    · obtain ⟨h1, h2⟩ := and2 h
      obtain ⟨h2, h3⟩ := and2 h2
      exact mkBo B (s_bin (bop_ok B h1) (snd a B h2).e (snd b B h3).e) rfl
    · cases h
  | .neg a, ns, x, X, W, B, h => by
    unfold chk at h
    split at h
    · exact mkBo B (s_neg (snd a B h).e) rfl
    · cases h
  | .not a, ns, x, X, W, B, h => by
    unfold chk at h
    split at h
    · exact ⟨s_not B.K (snd a B h).e, fun o => t_not ((snd a B h).t (by unfold okT at o; exact o))⟩
    · cases h
  | .and es, ns, x, X, W, B, h => by
    unfold chk at h
    split at h
    · obtain ⟨h1, h2⟩ := and2 h
      have k := sndA es B (by intro e; rw [e] at h1; cases h1) h2
      exact ⟨PE.imp (k.1 _) fun σ H Q q => by obtain ⟨g, S, e, s, r, q⟩ := q; exact ⟨g, S, e, s, r, by simpa only [ev] using q⟩, fun o => t_ands (k.2 (by unfold okT at o; exact o) _)⟩
    · cases h
  | .or es, ns, x, X, W, B, h => by
    unfold chk at h
    split at h
    · obtain ⟨h1, h2⟩ := and2 h
      have k := sndO es B (by intro e; rw [e] at h1; cases h1) h2
      exact ⟨PE.imp (k.1 _) fun σ H Q q => by obtain ⟨g, S, e, s, r, q⟩ := q; exact ⟨g, S, e, s, r, by simpa only [ev] using q⟩, fun o => t_ors (k.2 (by unfold okT at o; exact o) _)⟩
    · cases h
  | .ite c a b, ns, x, X, W, B, h => by
    unfold chk at h
    split at h
    · obtain ⟨h0, h1⟩ := and2 h
      obtain ⟨h1, h2⟩ := and2 h1
      obtain ⟨h2, h3⟩ := and2 h2
      exact mkBo B (s_ite ((snd c B h1).t h0) (snd a B h2).e (snd b B h3).e) rfl
    · cases h
  | .cmp o a b, ns, x, X, W, B, h => by
    unfold chk at h
    split at h
    · obtain ⟨h0, h1⟩ := and2 h
      obtain ⟨h1, h2⟩ := and2 h1
      obtain ⟨h2, h3⟩ := and2 h2
      exact ⟨s_cmp (cop_ok B h0) (snd a B h2).e (snd b B h3).e (mark_no h1), fun _ => t_cmp (cop_ok B h0) (snd a B h2).e (snd b B h3).e (mark_no h1)⟩
    · cases h
  | .ink a b, ns, x, X, W, B, h => by
    unfold chk at h
    split at h
    · obtain ⟨h0, h1⟩ := and2 h
      obtain ⟨h1, h2⟩ := and2 h1
      obtain ⟨h2, h3⟩ := and2 h2
      obtain rfl := in_op h0
      exact ⟨s_ink B.K B.nh B.u65 (snd a B h2).e (snd b B h3).e (mark_no h1), fun _ => t_ink B.K B.nh B.u65 (snd a B h2).e (snd b B h3).e (mark_no h1)⟩
    · cases h
  | .sbk a b, ns, x, X, W, B, h => by
    unfold chk at h
    split at h
    · obtain ⟨h1, h2⟩ := and2 h
      obtain ⟨h2, h3⟩ := and2 h2
      exact mkBo B (s_sbk B.K B.nh B.u65 (snd a B h2).e (snd b B h3).e (ix_plain h1)) rfl
    · cases h
  | .chain o o' a b c, ns, x, X, W, B, h => by
    unfold chk at h
    split at h
    · obtain ⟨h0, h1⟩ := and2 h
      obtain ⟨h0, h0'⟩ := and2 h0
      obtain ⟨h1, h2⟩ := and2 h1
      obtain ⟨h2, h3⟩ := and2 h2
      obtain ⟨h3, h4⟩ := and2 h3
      exact ⟨s_chain (cop_ok B h0) (cop_ok B h0') (snd a B h2).e (snd b B h3).e (snd c B h4).e (marks_no h1), fun _ => t_chain (cop_ok B h0) (cop_ok B h0') (snd a B h2).e (snd b B h3).e (snd c B h4).e (marks_no h1)⟩
    · cases h
  | .call f as, ns, x, X, W, B, h => by
    unfold chk at h
    split at h
    · obtain ⟨h0, g1⟩ := and2 h
      obtain ⟨h1, g2⟩ := and2 g1
      obtain ⟨h2, h3⟩ := and2 g2
      obtain ⟨k1, as', k3⟩ := stars_hd h3
      exact mkBo B (s_call B h0 (dec h1) (pn h2).1 (sndL as B h3) (star_cons k1) (stars_any k3)) rfl
    · cases h
  | .isi a t, ns, x, X, W, B, h => by
    unfold chk at h
    split at h
    · obtain ⟨h0, h1⟩ := and2 h
      obtain ⟨h1, h2⟩ := and2 h1
      obtain ⟨h2, h3⟩ := and2 h2
      obtain ⟨h3, h4⟩ := and2 h3
      obtain ⟨h4, h5⟩ := and2 h4
      have e := dec h0
      subst e
      obtain ⟨g1, g2⟩ := B.blt h1
      obtain ⟨g3, g4⟩ := B.blt h3
      exact mkBo B (s_isi B.K (dec h2) g1 g2 g3 g4 (snd a B h5).e (star_cons h4)) rfl
    · cases h
  | .b1 b m a, ns, x, X, W, B, h => by
    unfold chk at h
    split at h
    · obtain ⟨h0, h1⟩ := and2 h
      obtain ⟨h1, h2⟩ := and2 h1
      obtain ⟨h2, h3⟩ := and2 h2
      exact mkBo B (b1_ok B (dec h0) h1 h2 (snd a B h3).e) rfl
    · cases h
  | .lenset a, ns, x, X, W, B, h => by
    unfold chk at h
    split at h
    · obtain ⟨h0, h1⟩ := and2 h
      obtain ⟨h0, h0'⟩ := and2 h0
      obtain ⟨h1, h2⟩ := and2 h1
      obtain ⟨h1, h1'⟩ := and2 h1
      obtain ⟨h2, h3⟩ := and2 h2
      have e := dec h0
      have e' := dec h0'
      subst e; subst e'
      obtain ⟨g1, g2⟩ := B.blt h1
      obtain ⟨g3, g4⟩ := B.blt h1'
      exact mkBo B (s_lenset B.K B.calm g1 g2 g3 g4 (snd a B h3).e (star_cons h2)) rfl
    · cases h
  | .sortset a, ns, x, X, W, B, h => by
    unfold chk at h
    split at h
    · obtain ⟨h0, h1⟩ := and2 h
      obtain ⟨h0, h0'⟩ := and2 h0
      obtain ⟨h1, h2⟩ := and2 h1
      obtain ⟨h1, h1'⟩ := and2 h1
      obtain ⟨h2, h3⟩ := and2 h2
      have e := dec h0
      have e' := dec h0'
      subst e; subst e'
      obtain ⟨g1, g2⟩ := B.blt h1
      obtain ⟨g3, g4⟩ := B.blt h1'
      exact mkBo B (s_sortset B.K B.calm B.u65 g1 g2 g3 g4 (snd a B h3).e (star_cons h2)) rfl
    · cases h
  | .join a b, ns, x, X, W, B, h => by
    unfold chk at h
    split at h
    · obtain ⟨h0, h1⟩ := and2 h
      obtain ⟨h0, hl⟩ := and2 h0
      obtain ⟨h1, h2⟩ := and2 h1
      obtain ⟨h1, h1'⟩ := and2 h1
      obtain ⟨h2, h3⟩ := and2 h2
      have e := dec h0
      subst e
      exact mkBo B (s_join (snd a B h2).e (snd b B h3).e (star_cons h1') (ab_plain h1) hl) rfl
    · cases h
  | .split a b, ns, x, X, W, B, h => by
    unfold chk at h
    split at h
    · obtain ⟨h0, h1⟩ := and2 h
      obtain ⟨h0, hl⟩ := and2 h0
      obtain ⟨h1, h2⟩ := and2 h1
      obtain ⟨h1, h1'⟩ := and2 h1
      obtain ⟨h2, h3⟩ := and2 h2
      have e := dec h0
      subst e
      exact mkBo B (s_split (snd a B h2).e (snd b B h3).e (star_cons h1') (ab_plain h1) hl) rfl
    · cases h
  | .fstr es, ns, x, X, W, B, h => by
    unfold chk at h
    split at h
    · obtain ⟨h0, h1⟩ := and2 h
      obtain ⟨f1, f2, f3⟩ := sndF es B h1
      exact mkBo B (s_fstr f1 (dec h0) f2 f3) rfl
    · cases h
  | .append a b, ns, x, X, W, B, h => by
    unfold chk at h
    split at h
    · obtain ⟨h0, h1⟩ := and2 h
      obtain ⟨h0, hl⟩ := and2 h0
      obtain ⟨h1, h2⟩ := and2 h1
      obtain ⟨h1, h1'⟩ := and2 h1
      obtain ⟨h2, h3⟩ := and2 h2
      have e := dec h0
      subst e
      exact mkBo B (s_append B.K (snd a B h2).e (snd b B h3).e (bm_of h1 h1' hl)) rfl
    · cases h
  | .extend a b, ns, x, X, W, B, h => by
    unfold chk at h
    split at h
    · obtain ⟨h0, h1⟩ := and2 h
      obtain ⟨h0, hl⟩ := and2 h0
      obtain ⟨h1, h2⟩ := and2 h1
      obtain ⟨h1, h1'⟩ := and2 h1
      obtain ⟨h2, h3⟩ := and2 h2
      have e := dec h0
      subst e
      exact mkBo B (s_extend B.K (snd a B h2).e (snd b B h3).e (bm_of h1 h1' hl)) rfl
    · cases h
  | .pop0 a, ns, x, X, W, B, h => by
    unfold chk at h
    split at h
    · obtain ⟨h0, h1⟩ := and2 h
      obtain ⟨h0, hl⟩ := and2 h0
      obtain ⟨p1, p2⟩ := and2 h1
      obtain ⟨q1, q1'⟩ := and2 p1
      obtain ⟨q2, q3⟩ := and2 p2
      have e := dec h0
      subst e
      have hp := snd a B q2
      have hb := bm_of (X := X) (m := "pop") q1 q1' hl
      clear p1 p2 q1 q1' q2 h1 h0 h
      unfold isZero at q3
      split at q3
      · exact mkBo B (s_pop0 B.K hp.e s_int hb) rfl
      · cases q3
    · cases h
  | .pop a, ns, x, X, W, B, h => by
    unfold chk at h
    split at h
    · obtain ⟨h0, h1⟩ := and2 h
      obtain ⟨h0, hl⟩ := and2 h0
      obtain ⟨h1, h2⟩ := and2 h1
      have e := dec h0
      subst e
      exact mkBo B (s_pop B.K (snd a B h2).e (ab_plain h1) hl) rfl
    · cases h
  | .get1 a b, ns, x, X, W, B, h => by
    unfold chk at h
    split at h
    · obtain ⟨h0, h1⟩ := and2 h
      obtain ⟨h0, hl⟩ := and2 h0
      obtain ⟨h1, h2⟩ := and2 h1
      obtain ⟨h1, h1'⟩ := and2 h1
      obtain ⟨h2, h3⟩ := and2 h2
      have e := dec h0
      subst e
      exact mkBo B (s_get1 B.u1 (snd a B h2).e (snd b B h3).e (m1_of h1 h1' hl)) rfl
    · cases h
  | .get2 a b c, ns, x, X, W, B, h => by
    unfold chk at h
    split at h
    · obtain ⟨h0, h1⟩ := and2 h
      obtain ⟨h0, hl⟩ := and2 h0
      obtain ⟨h1, h2⟩ := and2 h1
      obtain ⟨h1, h1'⟩ := and2 h1
      obtain ⟨h1', h1''⟩ := and2 h1'
      obtain ⟨h2, h3⟩ := and2 h2
      obtain ⟨h3, h4⟩ := and2 h3
      have e := dec h0
      subst e
      exact mkBo B (s_get2 B.u1 (snd a B h2).e (snd b B h3).e (snd c B h4).e (m2_of h1 h1' h1'' hl)) rfl
    · cases h
  | .dictzip m a b, ns, x, X, W, B, h => by
    unfold chk at h
    split at h
    · obtain ⟨h0, h1⟩ := and2 h
      obtain ⟨h0, h0'⟩ := and2 h0
      obtain ⟨h1, h2⟩ := and2 h1
      obtain ⟨h1, h1'⟩ := and2 h1
      obtain ⟨h2, h3⟩ := and2 h2
      obtain ⟨h2, h2'⟩ := and2 h2
      obtain ⟨h3, h4⟩ := and2 h3
      have e := dec h0
      have e' := dec h0'
      subst e; subst e'
      obtain ⟨g1, g2⟩ := B.blt h1
      obtain ⟨g3, g4⟩ := B.blt h1'
      exact mkBo B (s_dictzip B.K B.calm g1 g2 g3 g4 (snd a B h3).e (snd b B h4).e (star_cons h2) (star_cons h2')) rfl
    · cases h
  | .index a b, ns, x, X, W, B, h => by
    unfold chk at h
    split at h
    · obtain ⟨h0, h1⟩ := and2 h
      obtain ⟨h0, hl⟩ := and2 h0
      obtain ⟨h1, h2⟩ := and2 h1
      obtain ⟨h1, h1'⟩ := and2 h1
      obtain ⟨h2, h3⟩ := and2 h2
      have e := dec h0
      subst e
      exact mkBo B (s_index B.K (snd a B h2).e (snd b B h3).e (bm_of h1 h1' hl)) rfl
    · cases h
  | .tidx a b, ns, x, X, W, B, h => by
    unfold chk at h
    split at h
    · obtain ⟨h0, h1⟩ := and2 h
      obtain ⟨h0, hl⟩ := and2 h0
      obtain ⟨h1, h2⟩ := and2 h1
      obtain ⟨h1, h1'⟩ := and2 h1
      obtain ⟨h2, h3⟩ := and2 h2
      have e := dec h0
      subst e
      exact mkBo B (s_tidx B.K (snd a B h2).e (snd b B h3).e (bm_of h1 h1' hl)) rfl
    · cases h
  | .dpk a, ns, x, X, W, B, h => by
    unfold chk at h
    split at h
    · obtain ⟨h0, h1⟩ := and2 h
      obtain ⟨h1, h2⟩ := and2 h1
      obtain ⟨h2, h3⟩ := and2 h2
      have e := dec h0
      subst e
      obtain ⟨g1, g2⟩ := B.blt h1
      exact mkBo B (s_dpk B.K B.nh B.calm B.u65 g1 g2 (snd a B h3).e (star_cons h2)) rfl
    · cases h
  | .count a b, ns, x, X, W, B, h => by
    unfold chk at h
    split at h
    · obtain ⟨h0, h1⟩ := and2 h
      obtain ⟨h0, hl⟩ := and2 h0
      obtain ⟨h1, h2⟩ := and2 h1
      obtain ⟨h1, h1'⟩ := and2 h1
      obtain ⟨h2, h3⟩ := and2 h2
      have e := dec h0
      subst e
      exact mkBo B (s_count B.K (snd a B h2).e (snd b B h3).e (bm_of h1 h1' hl)) rfl
    · cases h
  | .update a b, ns, x, X, W, B, h => by
    unfold chk at h
    split at h
    · obtain ⟨h0, h1⟩ := and2 h
      obtain ⟨h0, hl⟩ := and2 h0
      obtain ⟨h1, h2⟩ := and2 h1
      obtain ⟨h1, h1'⟩ := and2 h1
      obtain ⟨h2, h3⟩ := and2 h2
      have e := dec h0
      subst e
      exact mkBo B (s_update B.K (snd a B h2).e (snd b B h3).e (bm_of h1 h1' hl)) rfl
    · cases h
  | .max2 a b, ns, x, X, W, B, h => by
    unfold chk at h
    split at h
    · obtain ⟨h0, h1⟩ := and2 h
      obtain ⟨h1, h2⟩ := and2 h1
      obtain ⟨h2, h3⟩ := and2 h2
      obtain ⟨h2, h2'⟩ := and2 h2
      obtain ⟨h3, h4⟩ := and2 h3
      have e := dec h0
      subst e
      obtain ⟨g1, g2⟩ := B.blt h1
      exact mkBo B (s_max2 B.calm g1 g2 (snd a B h3).e (snd b B h4).e (star_cons h2) (star_cons h2')) rfl
    · cases h
  | .min2 a b, ns, x, X, W, B, h => by
    unfold chk at h
    split at h
    · obtain ⟨h0, h1⟩ := and2 h
      obtain ⟨h1, h2⟩ := and2 h1
      obtain ⟨h2, h3⟩ := and2 h2
      obtain ⟨h2, h2'⟩ := and2 h2
      obtain ⟨h3, h4⟩ := and2 h3
      have e := dec h0
      subst e
      obtain ⟨g1, g2⟩ := B.blt h1
      exact mkBo B (s_min2 B.calm g1 g2 (snd a B h3).e (snd b B h4).e (star_cons h2) (star_cons h2')) rfl
    · cases h
  | .gsub ks ds b, ns, x, X, W, B, h => by
    unfold chk at h
    split at h
    · rename_i y p z q
      obtain ⟨h0, h1⟩ := and2 h
      obtain ⟨h1, h2⟩ := and2 h1
      obtain ⟨h2, h3⟩ := and2 h2
      obtain ⟨h3, h4⟩ := and2 h3
      cases hc : Y.cds.lookup y with
      | none => rw [hc] at h1; cases h1
      | some r =>
        rw [hc] at h1
        obtain ⟨e1, e2⟩ := and2 h1
        have e1 := dec e1
        have e2 := beqs_eq e2
        obtain ⟨t, es, k, m1, m2, m3⟩ := B.x.cds y r.1 r.2 hc
        rw [e1, e2] at m3
        exact mkBo B (s_gsub m2 m3 (B.gl h0) m1 (pn h2).1 (snd b B h4).e (ix_plain h3)) rfl
    · cases h
  | .attr a f, ns, x, X, W, B, h => by
    unfold chk at h
    split at h
    · obtain ⟨h0, h1⟩ := and2 h
      obtain ⟨h1, h2⟩ := and2 h1
      obtain ⟨h2, h3⟩ := and2 h2
      have e := dec h0
      subst e
      have hf := B.x.flds f h1
      exact mkBo B (s_attr (fun c => (hf c).1) (fun c => (hf c).2) (snd a B h3).e (ab_plain h2)) rfl
    · cases h
  | .make c as, ns, x, X, W, B, h => by
    unfold chk at h
    split at h
    · obtain ⟨h0, g1⟩ := and2 h
      obtain ⟨h1, g2⟩ := and2 g1
      obtain ⟨h2, h3⟩ := and2 g2
      obtain ⟨k1, as', k3⟩ := stars_hd h3
      exact mkBo B (s_make' B h0 (dec h1) (pn h2).1 (sndL as B h3) (star_cons k1) (stars_any k3)) rfl
    · cases h
  | .meth i c m a as, ns, x, X, W, B, h => by
    unfold chk at h
    split at h
    · rename_i o g ap ys cp
      obtain ⟨h0, h1⟩ := and2 h
      obtain ⟨h0, h2⟩ := and2 h0
      obtain ⟨h2, h3⟩ := and2 h2
      obtain ⟨k3, h4⟩ := and2 h3
      obtain ⟨k5, h7⟩ := and2 h1
      obtain ⟨k6, h6⟩ := and2 h7
      have e := dec h0
      subst e
      clear h1 h7 h
      obtain ⟨f, fd, ps, c1, c2, c3, c4⟩ := B.x.mths c m i (dec h2)
      have px := fun σ => B.tk.passes σ (fun cls d H => W cls d σ H) fun _ _ _ h => h
      have few : methodCallForm (ys.length + ([] : List Keyword).length) (backTo cp (starEach ys X.env)) (backToKw cp (keywordEach [] X.env)) = true := by
        have h20 := dec h4
        have hst := stars_all (pos := cp) (env := X.env) h6
        unfold methodCallForm
        rw [hst]
        have : decide (ys.length + ([] : List Keyword).length + (if (backToKw cp (keywordEach [] X.env)).isEmpty then 0 else 1) < 30) = true := by
          refine decide_eq_true ?_
          have : (if (backToKw cp (keywordEach [] X.env)).isEmpty = true then 0 else 1) ≤ 1 := by split <;> omega
          simp only [List.length_nil]; omega
        rw [this]; rfl
      cases ys with
      | nil =>
        cases as with
        | nil => exact mkBo B (s_meth0 c1 c2 c4 B.room c3 px (snd a B k6).e (meth_eq (ab_plain k5) few k3)) rfl
        | cons _ _ => unfold chks at h6; cases h6
      | cons y ys =>
        obtain ⟨k1, as', k9⟩ := stars_hd h6
        exact mkBo B (s_meth c1 c2 c4 B.room c3 px (snd a B k6).e (sndL as B h6) (star_cons k1) (stars_any k9) (meth_eq (ab_plain k5) few k3)) rfl
    · cases h
  | .sub a b, ns, x, X, W, B, h => by
    unfold chk at h
    split at h
    · obtain ⟨h1, h2⟩ := and2 h
      obtain ⟨h2, h3⟩ := and2 h2
      exact mkBo B (s_sub B.K B.u1 (snd a B h2).e (snd b B h3).e (ix_plain h1)) rfl
    · cases h
  | .sl a lo hi, ns, x, X, W, B, h => by
    unfold chk at h
    split at h
    · obtain ⟨h1, h2⟩ := and2 h
      obtain ⟨h2, h3⟩ := and2 h2
      exact mkBo B (s_sl B.K (snd a B h1).e (sndP lo B h2) (sndP hi B h3)) rfl
    · cases h
  | .slm a lo hi, ns, x, X, W, B, h => by
    unfold chk at h
    split at h
    · obtain ⟨h1, h2⟩ := and2 h
      obtain ⟨h2, h3⟩ := and2 h2
      exact mkBo B (s_slm B.K (snd a B h1).e (sndP lo B h2) (sndP hi B h3)) rfl
    · cases h
  | .rev a, ns, x, X, W, B, h => by
    unfold chk at h
    split at h
    · obtain ⟨h1, h2⟩ := and2 h
      have e := dec h1
      subst e
      exact mkBo B (s_rev B.K (snd a B h2).e) rfl
    · cases h
  | .tup es, ns, x, X, W, B, h => by
    unfold chk at h
    split at h
    · exact mkBo B (s_tup (sndL es B h)) rfl
    · cases h
  | .lst m es, ns, x, X, W, B, h => by
    unfold chk at h
    split at h
    · exact mkBo B (s_lst (sndL es B h)) rfl
    · cases h
  | .dct m kvs, ns, x, X, W, B, h => by
    unfold chk at h
    split at h
    · obtain ⟨h1, h2⟩ := and2 h
      obtain ⟨p1, p2, p3, p4⟩ := sndD kvs B h2
      cases kvs with
      | nil =>
        rename_i ks vs pos
        have e : ks = [] ∧ vs = [] := by
          unfold chkP at h2
          split at h2
          · exact ⟨rfl, rfl⟩
          · cases h2
        obtain ⟨rfl, rfl⟩ := e
        exact mkBo B (s_dct0) rfl
      | cons a r => exact mkBo B (s_dct (p1 _) p2 p3 (p4 (by simp)) (dec h1)) rfl
    · cases h
  | .comp m el tg ik its cs own, ns, x, X, W, B, h => by
    unfold chk at h
    split at h
    · rename_i elt t iter ifs k sc pos
      obtain ⟨h0, h1⟩ := and2 h
      obtain ⟨h0, h0'⟩ := and2 h0
      obtain ⟨h1, h2⟩ := and2 h1
      obtain ⟨h2, h3⟩ := and2 h2
      obtain ⟨h3, h4⟩ := and2 h3
      obtain ⟨h4, h5⟩ := and2 h4
      have e := dec h0
      subst e
      obtain ⟨bo, hk⟩ := blk_ok (X := X) h1 B.N B.nm
      obtain ⟨e0, out, st1, st2⟩ := B.st
      have nd : X.N.Nodup := by rw [B.N]; exact B.nd
      have hi := sndI its B h4
      have main := s_comp (C := C) (m := m) (el := el) (t := tg) (ik := ik) (its := its) (cs := cs) (elt := elt) (ifs := ifs) (tg := t) (iter := iter) (sc := sc) (pos := pos) B.calm nd hi bo B.tk st1 st2 B.fr (fun σ s H A cl fp EB tk => by
        have B' := B.blk hk tk
        rw [own_back]
        refine ⟨btg_ok B' (fun x hx => by show (sc.names.lookup x == some .cell) = true; rw [hx]; rfl) h2, ?_, (snd el B' h3).e⟩
        exact sndC cs B' h5) (fold_no h0')
      rw [own_back] at main
      exact mkBo B (main) rfl
    · cases h
  | .frz a, ns, x, X, W, B, h => mkBo B (s_frz (snd a B (by unfold chk at h; exact h)).e) rfl
theorem sndI : ∀ (its : List E) {ik : IK} {ns : Nks} {t z : Expr} {X : Cx} {W : WX}, Bd T C Y n ns X F W → chkI Y its ik ns t z = true → PI X t z (tW T W (isTup t) (wkf C ik its))
  | [a], ik, ns, t, z, X, W, B, h => by
    unfold chkI at h
    cases ik with
    | seq => exact p_seq B.K (snd a B h).e
    | range1 =>
      simp only at h
      split at h
      · obtain ⟨k1, k2⟩ := and2 h
        obtain ⟨k2, k3⟩ := and2 k2
        obtain ⟨k3, k4⟩ := and2 k3
        have e := dec k1
        subst e
        obtain ⟨g1, g2⟩ := B.blt k2
        exact p_range1 g1 g2 (snd a B k4).e (star_cons k3)
      · cases h
    | enum =>
      simp only at h
      split at h
      · obtain ⟨k0, k1⟩ := and2 h
        obtain ⟨k1, k2⟩ := and2 k1
        obtain ⟨k2, k3⟩ := and2 k2
        obtain ⟨k3, k4⟩ := and2 k3
        have e := dec k1
        subst e
        obtain ⟨g1, g2⟩ := B.blt k2
        cases t with
        | Tuple _ _ _ => exact p_enum B.K g1 g2 (snd a B k4).e (star_cons k3)
        | _ => simp [isTup] at k0
      · cases h
    | _ => cases h
  | [a, b], ik, ns, t, z, X, W, B, h => by
    unfold chkI at h
    cases ik with
    | range2 =>
      simp only at h
      split at h
      · obtain ⟨k1, k2⟩ := and2 h
        obtain ⟨k2, k3⟩ := and2 k2
        obtain ⟨k3, k4⟩ := and2 k3
        obtain ⟨k3, k3'⟩ := and2 k3
        obtain ⟨k4, k5⟩ := and2 k4
        have e := dec k1
        subst e
        obtain ⟨g1, g2⟩ := B.blt k2
        exact p_range2 g1 g2 (snd a B k4).e (snd b B k5).e (by rw [star_cons k3, star_cons k3']; rfl) (star_cons k3')
      · cases h
    | zip =>
      simp only at h
      split at h
      · obtain ⟨k0, k1⟩ := and2 h
        obtain ⟨k1, k2⟩ := and2 k1
        obtain ⟨k2, k3⟩ := and2 k2
        obtain ⟨k3, k4⟩ := and2 k3
        obtain ⟨k3, k3'⟩ := and2 k3
        obtain ⟨k4, k5⟩ := and2 k4
        have e := dec k1
        subst e
        obtain ⟨g1, g2⟩ := B.blt k2
        cases t with
        | Tuple _ _ _ => exact p_zip B.K g1 g2 (snd a B k4).e (snd b B k5).e (star_cons k3) (star_cons k3')
        | _ => simp [isTup] at k0
      · cases h
    | _ => cases h
  | [], _, _, _, _, _, _, _, h => by unfold chkI at h; cases h
  | _ :: _ :: _ :: _, _, _, _, _, _, _, _, h => by unfold chkI at h; cases h
theorem sndC : ∀ (cs : List E) {ns : Nks} {zs : List Expr} {X : Cx} {W : WX}, Bd T C Y n ns X F W → chkC Y cs ns zs = true → PTs X zs (tIT T W (tstf C cs))
  | [], ns, zs, X, W, B, h => by
    unfold chkC at h
    cases zs with
    | nil => exact q_nil
    | cons _ _ => cases h
  | [c], ns, zs, X, W, B, h => by
    unfold chkC at h
    split at h
    · obtain ⟨k1, k2⟩ := and2 h
      exact q_one ((snd c B k2).t k1)
    · cases h
  | _ :: _ :: _, _, _, _, _, _, h => by unfold chkC at h; cases h
theorem sndL : ∀ (as : List E) {ns : Nks} {xs : List Expr} {X : Cx} {W : WX}, Bd T C Y n ns X F W → chks Y as ns xs = true → PA X xs (tIs T W (evs C as))
  | [], ns, xs, X, W, B, h => by
    cases xs with
    | nil => exact s_nil
    | cons _ _ => unfold chks at h; cases h
  | a :: as, ns, xs, X, W, B, h => by
    cases xs with
    | nil => unfold chks at h; cases h
    | cons x xs =>
      unfold chks at h
      obtain ⟨k1, k2⟩ := and2 h
      obtain ⟨k2, k3⟩ := and2 k2
      exact s_cons (snd a B k2).e (sndL as B k3) (star_cons k1)
theorem sndF : ∀ (as : List E) {ns : Nks} {xs : List Expr} {X : Cx} {W : WX}, Bd T C Y n ns X F W → chkF Y as ns xs = true → as.length = xs.length ∧ (∀ p ∈ as.zip xs, okF p.1 p.2 = true) ∧ PJ X xs ((as.zip xs).map fun p => partT T W C p.1 p.2)
  | [], ns, xs, X, W, B, h => by
    cases xs with
    | nil => exact ⟨rfl, by simp, .nil⟩
    | cons _ _ => unfold chkF at h; cases h
  | a :: as, ns, xs, X, W, B, h => by
    unfold chkF at h
    split at h
    · rename_i x c sp u xs
      obtain ⟨k1, k2⟩ := and2 h
      obtain ⟨k1, k1'⟩ := and2 k1
      obtain ⟨k2, k3⟩ := and2 k2
      obtain ⟨f1, f2, f3⟩ := sndF as B k3
      have e := dec k1
      subst e
      cases sp with
      | some _ => cases k1'
      | none =>
        refine ⟨by simp [f1], fun p hp => ?_, PJ.cons (pe_fmt (snd a B k2).e) f3⟩
        rcases List.mem_cons.mp hp with rfl | hp
        · rfl
        · exact f2 p hp
    · rename_i j w u xs
      obtain ⟨k1, k2⟩ := and2 h
      obtain ⟨k2, k3⟩ := and2 k2
      obtain ⟨f1, f2, f3⟩ := sndF as B k3
      have e := dec k1
      refine ⟨by simp [f1], fun p hp => ?_, PJ.cons (snd a B k2).e f3⟩
      rcases List.mem_cons.mp hp with rfl | hp
      · cases a with
        | str z => rfl
        | _ => cases e
      · exact f2 p hp
    · cases h
theorem sndA : ∀ (as : List E) {ns : Nks} {xs : List Expr} {X : Cx} {W : WX}, Bd T C Y n ns X F W → as ≠ [] → chkE Y as ns xs = true → (∀ pos, PE X (.BoolOp .And xs pos) (tI T W (evAnd C as))) ∧ (okTs as xs = true → ∀ pos, PW X (.BoolOp .And xs pos) (tIT T W (tstf C as)))
  | [], _, _, _, _, _, h0, _ => (h0 rfl).elim
  | [a], ns, xs, X, W, B, _, h => by
    cases xs with
    | nil => unfold chkE at h; cases h
    | cons x xs =>
      unfold chkE at h
      obtain ⟨k1, k2⟩ := and2 h
      cases xs with
      | nil => exact ⟨fun pos => s_and1 (snd a B k1).e, fun o pos => t_and1 ((snd a B k1).t (and2 (by unfold okTs at o; exact o)).1)⟩
      | cons _ _ => cases k2
  | a :: b :: r, ns, xs, X, W, B, _, h => by
    cases xs with
    | nil => unfold chkE at h; cases h
    | cons x xs =>
      unfold chkE at h
      obtain ⟨k1, k2⟩ := and2 h
      cases xs with
      | nil => unfold chkE at k2; cases k2
      | cons y ys =>
        have k := sndA (b :: r) B (by simp) k2
        refine ⟨fun pos => s_and B.K (snd a B k1).e (k.1 pos), fun o pos => ?_⟩
        unfold okTs at o
        obtain ⟨o1, o2⟩ := and2 o
        exact t_and ((snd a B k1).t o1) (k.2 o2 pos)
theorem sndO : ∀ (as : List E) {ns : Nks} {xs : List Expr} {X : Cx} {W : WX}, Bd T C Y n ns X F W → as ≠ [] → chkE Y as ns xs = true → (∀ pos, PE X (.BoolOp .Or xs pos) (tI T W (evOr C as))) ∧ (okTs as xs = true → ∀ pos, PW X (.BoolOp .Or xs pos) (tIT T W (tsto C as)))
  | [], _, _, _, _, _, h0, _ => (h0 rfl).elim
  | [a], ns, xs, X, W, B, _, h => by
    cases xs with
    | nil => unfold chkE at h; cases h
    | cons x xs =>
      unfold chkE at h
      obtain ⟨k1, k2⟩ := and2 h
      cases xs with
      | nil => exact ⟨fun pos => s_or1 (snd a B k1).e, fun o pos => t_or1 ((snd a B k1).t (and2 (by unfold okTs at o; exact o)).1)⟩
      | cons _ _ => cases k2
  | a :: b :: r, ns, xs, X, W, B, _, h => by
    cases xs with
    | nil => unfold chkE at h; cases h
    | cons x xs =>
      unfold chkE at h
      obtain ⟨k1, k2⟩ := and2 h
      cases xs with
      | nil => unfold chkE at k2; cases k2
      | cons y ys =>
        have k := sndO (b :: r) B (by simp) k2
        refine ⟨fun pos => s_or B.K (snd a B k1).e (k.1 pos), fun o pos => ?_⟩
        unfold okTs at o
        obtain ⟨o1, o2⟩ := and2 o
        exact t_or ((snd a B k1).t o1) (k.2 o2 pos)
theorem sndP : ∀ (as : List E) {ns : Nks} {z : Option Expr} {X : Cx} {W : WX}, Bd T C Y n ns X F W → chkO Y as ns z = true → PO X z (tIP T W fun e S => (evs C as e S).bind fun l S => orNo (part l) fun i => .ok i S)
  | [], ns, z, X, W, B, h => by
    cases z with
    | none => exact p_none
    | some _ => unfold chkO at h; cases h
  | a :: as, ns, z, X, W, B, h => by
    cases z with
    | none => unfold chkO at h; cases h
    | some x =>
      unfold chkO at h
      obtain ⟨k1, k2⟩ := and2 h
      cases as with
      | nil => exact p_some (snd a B k2).e
      | cons _ _ => cases k1
theorem sndD : ∀ (as : List E) {ns : Nks} {ks : List (Option Expr)} {vs : List Expr} {X : Cx} {W : WX}, Bd T C Y n ns X F W → chkP Y as ns ks vs = true →
    (∀ pos, PPs X pos ks vs (trsOf T W C as)) ∧ ks.all (·.isSome) = true ∧ ks.length = vs.length ∧ (as ≠ [] → ks ≠ [])
  | [], ns, ks, vs, X, W, B, h => by
    unfold chkP at h
    split at h
    · exact ⟨fun _ => pps0, rfl, rfl, fun h => (h rfl).elim⟩
    · cases h
  | [_], _, _, _, _, _, _, h => by unfold chkP at h; cases h
  | a :: b :: r, ns, ks, vs, X, W, B, h => by
    unfold chkP at h
    split at h
    · obtain ⟨k1, k2⟩ := and2 h
      obtain ⟨k2, k3⟩ := and2 k2
      obtain ⟨p1, p2, p3, _⟩ := sndD r B k3
      exact ⟨fun pos => pps1 (snd a B k1).e (snd b B k2).e (p1 pos), by simp [p2], by simp [p3], by simp⟩
    · cases h
end
end
end CT

end
section
set_option maxHeartbeats 4000000
/-! callturn proofs, part v: statements -/
namespace CT
open PySem PySem.Spec PyProof.Rows L2
/-- an end of a statement, as the layer is to bear it -/
def GoS (T : Tb) (W : WX) (g : Gh) (D : Ends) (r : RS) : Prop :=
  match r with
  | .nx e S => ∀ g' H' σ', g.le g' → T.Sim g' S H' → T.EnvR g' σ' e → D.nx σ' H'
  | .ct e S => ∀ g' H' σ', g.le g' → T.Sim g' S H' → T.EnvR g' σ' e → D.ct σ' H'
  | .rt d S => ∀ g' H' v, g.le g' → T.Sim g' S H' → T.RD g' v d → D.rt v H'
  | .ex c e S => ∀ g' H' σ', g.le g' → T.Sim g' S H' → T.EnvR g' σ' e → W (.ref (T.eA c)) none σ' H'
  | .no => False
def tSI (T : Tb) (W : WX) (f : Ev → Sto → RS) : TS := fun D σ H => ∃ g S e, T.Sim g S H ∧ T.EnvR g σ e ∧ GoS T W g D (f e S)
theorem PS.imp {X : Cx} {e : Stmt} {t t' : TS} (h : PS X e t) (f : ∀ D σ H, t' D σ H → t D σ H) : PS X e t' := ⟨fun pins s σ H D I q => h.run pins s σ H D I (f D σ H q)⟩
theorem PSs.imp {X : Cx} {e : List Stmt} {t t' : TS} (h : PSs X e t) (f : ∀ D σ H, t' D σ H → t D σ H) : PSs X e t' := ⟨fun pins s σ H D I q => h.run pins s σ H D I (f D σ H q)⟩
section
variable {T : Tb} {W : WX} {X : Cx} {C : Cal} {D : Ends}
theorem GoS.mono {g g1 : Gh} {r : RS} (h : GoS T W g D r) (l : g.le g1) : GoS T W g1 D r := by
  cases r with
  | no => exact h
  | nx e S => exact fun g' H' σ' l' => h g' H' σ' (l.trans l')
  | ct e S => exact fun g' H' σ' l' => h g' H' σ' (l.trans l')
  | rt d S => exact fun g' H' v l' => h g' H' v (l.trans l')
  | ex c e S => exact fun g' H' σ' l' => h g' H' σ' (l.trans l')
theorem GoS.bind {α β : Type} {rel : Gh → β → α → Prop} {g : Gh} {σ : LSt} {e : Ev} {r : R α} {f : α → Sto → RS} (en : T.EnvR g σ e) (h : GoS T W g D (RS.bind e r f)) :
    GoR T rel W g σ r fun g1 _ _ d S => GoS T W g1 D (f d S) := by
  cases r with
  | no => exact h
  | ok d S => exact fun g' H' v l s q => GoS.mono h l
  | ex c S => exact fun g' H' l s => h g' H' σ l s (en.mono l)
theorem orNoS_ok {γ : Type} {g : Gh} {o : Option γ} {f : γ → RS} (h : GoS T W g D (orNoS o f)) : ∃ a, o = some a ∧ GoS T W g D (f a) := by
  cases o with
  | none => exact h.elim
  | some a => exact ⟨a, rfl, h⟩
theorem iteS_ok {g : Gh} {c : Bool} {r : RS} (h : GoS T W g D (if c = true then r else .no)) : c = true ∧ GoS T W g D r := by
  cases c with
  | true => exact ⟨rfl, h⟩
  | false => exact h.elim
theorem GoS.nx {g : Gh} {e : Ev} {S : Sto} {H : Hp} {σ : LSt} (h : GoS T W g D (.nx e S)) (s : T.Sim g S H) (en : T.EnvR g σ e) : D.nx σ H := h g H σ (.refl g) s en
/-! ### one by one -/
theorem ss_expr {a : E} {x : Expr} {pos : Pos} (ha : PE X x (tI T W (ev C a))) (hs : swapsWith x none pos.line X.env = pure false) : PS X (.Expr x pos) (tSI T W (ex C (.expr a))) := by
  refine PS.imp (ps_expr ha hs) fun D σ H ⟨g, S, e, s, r, q⟩ => ?_
  simp only [ex] at q
  exact ⟨g, S, e, s, r, (GoS.bind r q).imp fun g1 H1 v d S1 l1 s1 _ _ q1 => GoS.nx q1 s1 (r.mono l1)⟩
theorem ss_doc {x j pos pos'} : PS X (.Expr (.Constant (.str x) j pos) pos') (tSI T W (ex C .pass)) := by
  refine PS.imp ps_doc fun D σ H ⟨g, S, e, s, r, q⟩ => ?_
  simp only [ex] at q
  exact GoS.nx q s r
theorem ss_pass {pos} : PS X (.Pass pos) (tSI T W (ex C .pass)) := by
  refine PS.imp ps_pass fun D σ H ⟨g, S, e, s, r, q⟩ => ?_
  simp only [ex] at q
  exact GoS.nx q s r
theorem ss_cont {pos} : PS X (.Continue pos) (tSI T W (ex C .cont)) := by
  refine PS.imp ps_continue fun D σ H ⟨g, S, e, s, r, q⟩ => ?_
  simp only [ex] at q
  exact q g H σ (.refl g) s r
theorem ss_ret {a : E} {x : Expr} {pos : Pos} (ha : PE X x (tI T W (ev C a))) : PS X (.Return (some x) pos) (tSI T W (ex C (.ret a))) := by
  refine PS.imp (ps_ret ha) fun D σ H ⟨g, S, e, s, r, q⟩ => ?_
  simp only [ex] at q
  exact ⟨g, S, e, s, r, (GoS.bind r q).imp fun g1 H1 v d S1 l1 s1 rd _ q1 => q1 g1 H1 v (.refl _) s1 rd⟩
theorem ss_retN {pos : Pos} : PS X (.Return none pos) (tSI T W (ex C (.ret .non))) := by
  refine PS.imp ps_retN fun D σ H ⟨g, S, e, s, r, q⟩ => ?_
  simp only [ex, ev, RS.bind] at q
  exact q g H .non (.refl _) s .non
theorem ss_set {a : E} {tg : Tg} {x y : Expr} {pos : Pos} (ha : PE X x (tI T W (ev C a))) {wk : Bool} (hg : PG X y (tTg T wk tg)) (hs : swapsWithSole [y] x pos.line X.env = pure false) (hw : swappedStores [y] x X.env = pure none) (h1 : (assignEach [y] X.env).map (·.2) = [assign y X.env]) :
    PS X (.Assign [y] x pos) (tSI T W (ex C (.set tg a))) := by
  refine PS.imp (ps_asg ha hg hs hw h1) fun D σ H ⟨g, S, e, s, r, q⟩ => ?_
  simp only [ex] at q
  refine ⟨g, S, e, s, r, (GoS.bind r q).imp fun g1 H1 v d S1 l1 s1 rd _ q1 => ⟨g1, S1, e, d, s1, r.mono l1, .inl rd, ?_⟩⟩
  rcases evset_or e tg d S1 with ⟨e', he⟩ | he
  · rw [he] at q1 ⊢
    exact fun g' H' σ' l' s' en' => q1 g' H' σ' l' s' en'
  · rw [he] at q1; exact q1.elim
theorem exs_cons (s : CT.S) (r : List CT.S) (e : Ev) (S : Sto) : exs C (s :: r) e S = (ex C s e S).next fun e S => exs C r e S := by rw [exs]
theorem sss_nil : PSs X [] (tSI T W (exs C [])) := by
  refine PSs.imp pss_nil fun D σ H ⟨g, S, e, s, r, q⟩ => ?_
  simp only [exs] at q
  exact GoS.nx q s r
theorem sss_cons {a : CT.S} {as : List CT.S} {x : Stmt} {xs : List Stmt} (ha : PS X x (tSI T W (ex C a))) (hr : PSs X xs (tSI T W (exs C as))) : PSs X (x :: xs) (tSI T W (exs C (a :: as))) := by
  refine PSs.imp (pss_cons ha hr) fun D σ H ⟨g, S, e, s, r, q⟩ => ?_
  simp only [exs_cons] at q
  refine ⟨g, S, e, s, r, ?_⟩
  cases hv : ex C a e S with
  | nx e1 S1 =>
    rw [hv] at q
    exact fun g' H' σ' l' s' en' => ⟨g', S1, e1, s', en', GoS.mono q l'⟩
  | rt d S1 => rw [hv] at q; exact q
  | ct e1 S1 => rw [hv] at q; exact q
  | ex c e1 S1 => rw [hv] at q; exact q
  | no => rw [hv] at q; exact q
theorem ss_if {c : E} {as bs : List CT.S} {x : Expr} {xs ys : List Stmt} {pos : Pos} (hc : PT X x (tIT T W (tst C c))) (ha : PSs X xs (tSI T W (exs C as))) (hb : PSs X ys (tSI T W (exs C bs))) : PS X (.If x xs ys pos) (tSI T W (ex C (.ite c as bs))) := by
  refine PS.imp (ps_if hc ha hb) fun D σ H ⟨g, S, e, s, r, q⟩ => ?_
  have e1 : ex C (.ite c as bs) e S = RS.bind e (tst C c e S) fun t S => if t = true then exs C as e S else exs C bs e S := by
    simp only [ex, tst]
    cases ev C c e S with
    | ok v S1 => cases hv : truth S1 v <;> simp [RS.bind, CT.R.bind, orNo, orNoS, hv]
    | ex k S1 => rfl
    | no => rfl
  rw [e1] at q
  refine ⟨g, S, e, s, r, (GoS.bind r q).imp fun g1 H1 v d S1 l1 s1 rd _ q1 => ?_⟩
  have rd : v = d := rd
  subst rd
  cases v with
  | true => simp only [if_true] at q1 ⊢; exact ⟨g1, S1, e, s1, r.mono l1, q1⟩
  | false => simp only [Bool.false_eq_true, if_false] at q1 ⊢; exact ⟨g1, S1, e, s1, r.mono l1, q1⟩
theorem ss_while {c : E} {bs : List CT.S} {x : Expr} {xs : List Stmt} {pos : Pos} (hp : PassesOwn (model X.prog X.w) X.A X.env X.xe) (hc : PT X x (tIT T W (tst C c))) (hb : PSs X xs (tSI T W (exs C bs))) : PS X (.While x xs [] pos) (tSI T W (ex C (.while c bs))) := by
  refine PS.imp (ps_while hp hc hb) fun D σ H ⟨g, S, e, s, r, q⟩ => ?_
  have q' : GoS T W g D (whl (tst C c) (fun e S => exs C bs e S) C.wf e S) := by simp only [ex] at q; exact q
  refine ⟨fun m σ H => ∃ g S e, T.Sim g S H ∧ T.EnvR g σ e ∧ GoS T W g D (whl (tst C c) (fun e S => exs C bs e S) m e S), ⟨C.wf, g, S, e, s, r, q'⟩, ?_⟩
  rintro m σ1 H1 ⟨g1, S1, e1, s1, r1, q1⟩
  cases m with
  | zero => exact q1.elim
  | succ m =>
    refine ⟨g1, S1, e1, s1, r1, ?_⟩
    simp only [whl] at q1
    cases hv : tst C c e1 S1 with
    | no => rw [hv] at q1; exact q1
    | ex k S2 => rw [hv] at q1; exact fun g' H' l' s' => q1 g' H' σ1 l' s' (r1.mono l')
    | ok t S2 =>
      rw [hv] at q1
      intro g2 H2 t' l2 s2 et
      have et : t' = t := et
      subst et
      cases t' with
      | false =>
        simp only [Bool.false_eq_true, if_false] at q1 ⊢
        exact q1 g2 H2 σ1 l2 s2 (r1.mono l2)
      | true =>
        simp only [if_true] at q1 ⊢
        refine ⟨fun σ H => ∃ g S e, T.Sim g S H ∧ T.EnvR g σ e ∧ GoS T W g D (whl (tst C c) (fun e S => exs C bs e S) m e S), fun σ' H' h => ⟨m, Nat.lt_succ_self _, h⟩, g2, S2, e1, s2, r1.mono l2, ?_⟩
        cases hb : exs C bs e1 S2 with
        | nx e3 S3 => rw [hb] at q1; exact fun g' H' σ' l' s' en' => ⟨g', S3, e3, s', en', GoS.mono q1 (l2.trans l')⟩
        | ct e3 S3 => rw [hb] at q1; exact fun g' H' σ' l' s' en' => ⟨g', S3, e3, s', en', GoS.mono q1 (l2.trans l')⟩
        | rt d S3 => rw [hb] at q1; exact GoS.mono (D := D) (r := .rt d S3) q1 l2
        | ex k e3 S3 => rw [hb] at q1; exact GoS.mono (D := D) (r := .ex k e3 S3) q1 l2
        | no => rw [hb] at q1; exact q1
/-- one turn of a for -/
theorem for_step {tg : Tg} {bs : List CT.S} {g2 : Gh} {S : Sto} {H' : Hp} {σ : LSt} {e : Ev} {x : V} {d : CT.D} (s : T.Sim g2 S H') (en : T.EnvR g2 σ e) {wk : Bool} (rx : RDk T wk g2 x d) {N : LSt → Hp → Prop} {rest : Ev → Sto → RS}
    (q : GoS T W g2 D (match RS.bind e (evset e tg d S) (fun e S => exs C bs e S) with | .nx e S => rest e S | .ct e S => rest e S | x => x)) (hN : ∀ g' S' e' σ' H', g2.le g' → T.Sim g' S' H' → T.EnvR g' σ' e' → GoS T W g' D (rest e' S') → N σ' H') :
    tTg T wk tg x σ H' fun σ2 H2 => tSI T W (exs C bs) { D with nx := N, ct := N, bk := D.nx } σ2 H2 := by
  refine ⟨g2, S, e, d, s, en, rx, ?_⟩
  rcases evset_or e tg d S with ⟨e', he⟩ | he
  · rw [he] at q ⊢
    intro g3 H3 σ3 l3 s3 en3
    refine ⟨g3, S, e', s3, en3, ?_⟩
    simp only [RS.bind] at q
    cases hb : exs C bs e' S with
    | nx e4 S4 => rw [hb] at q; exact fun g' H' σ' l' s' en' => hN g' S4 e4 σ' H' (l3.trans l') s' en' (GoS.mono q (l3.trans l'))
    | ct e4 S4 => rw [hb] at q; exact fun g' H' σ' l' s' en' => hN g' S4 e4 σ' H' (l3.trans l') s' en' (GoS.mono q (l3.trans l'))
    | rt d S4 => rw [hb] at q; exact GoS.mono (D := D) (r := .rt d S4) q l3
    | ex k e4 S4 => rw [hb] at q; exact GoS.mono (D := D) (r := .ex k e4 S4) q l3
    | no => rw [hb] at q; exact q
  · rw [he] at q; exact q.elim
theorem RS.bind_assoc {α β : Type} (e : Ev) (r : R α) (f : α → Sto → R β) (h : β → Sto → RS) : RS.bind e (r.bind f) h = RS.bind e r fun a S => RS.bind e (f a S) h := by cases r <;> rfl
theorem ss_for {wk : Bool} {tg : Tg} {ik : IK} {its : List E} {bs : List CT.S} {t it : Expr} {xs : List Stmt} {pos : Pos} (hp : PassesOwn (model X.prog X.w) X.A X.env X.xe) (hc : X.calm = true) (hi : PI X t it (tW T W wk (wkf C ik its))) (hg : PG X t (tTg T wk tg)) (hb : PSs X xs (tSI T W (exs C bs))) (hs : ∀ x, foldedSetIterable it X.env x = pure x) :
    PS X (.For t it xs [] pos) (tSI T W (ex C (.for tg ik its bs))) := by
  refine PS.imp (ps_for hp hc hi hg hb hs) fun D σ H ⟨g, S, e, s, r, q⟩ => ?_
  simp only [ex] at q
  rw [← RS.bind_assoc] at q
  refine ⟨g, S, e, s, r, (GoS.bind r q).imp fun g1 H1 J w S1 l1 s1 wk _ q1 => ?_⟩
  have r1 := r.mono l1
  cases w with
  | row ds =>
    obtain ⟨hl, wk⟩ := wk
    refine ⟨fun i k σ H => k = ds.length - i ∧ i ≤ ds.length ∧ ∃ g S e, g1.le g ∧ T.Sim g S H ∧ T.EnvR g σ e ∧ GoS T W g D (forRow (fun d e S => RS.bind e (evset e tg d S) fun e S => exs C bs e S) (ds.drop i) e S), ⟨ds.length, rfl, Nat.zero_le _, g1, S1, e, .refl _, s1, r1, q1⟩, ?_⟩
    rintro i k σ H ⟨rfl, hi, g2, S2, e2, l2, s2, r2, q2⟩
    obtain ⟨w1, w2, w3⟩ := wk g2 S2 H l2.to s2
    by_cases hlt : i < ds.length
    · refine .inr ⟨w1 i hlt, fun σ H => ∃ g S e, g1.le g ∧ T.Sim g S H ∧ T.EnvR g σ e ∧ GoS T W g D (forRow (fun d e S => RS.bind e (evset e tg d S) fun e S => exs C bs e S) (ds.drop (i + 1)) e S), fun σ' H' p => ⟨ds.length - (i + 1), by omega, rfl, hlt, p⟩, fun x H' y => ?_⟩
      rw [List.drop_eq_getElem_cons hlt] at q2
      simp only [forRow] at q2
      obtain ⟨g3, l3, s3, r3⟩ := w3 i x H' ds[i] (by simp [hlt]) y
      exact for_step (rest := fun e S => forRow (fun d e S => RS.bind e (evset e tg d S) fun e S => exs C bs e S) (ds.drop (i + 1)) e S) s3 (r2.mono l3) r3 (GoS.mono q2 l3) fun g' S' e' σ' H' l' s' en' q' => ⟨g', S', e', (l2.trans l3).trans l', s', en', q'⟩
    · have ei : i = ds.length := by omega
      subst ei
      refine .inl ⟨w2, ?_⟩
      rw [List.drop_length] at q2
      exact GoS.nx q2 s2 r2
  | loc n =>
    refine ⟨fun i k σ H => ∃ g S e, g1.le g ∧ T.Sim g S H ∧ T.EnvR g σ e ∧ GoS T W g D (forLoc (fun d e S => RS.bind e (evset e tg d S) fun e S => exs C bs e S) n k i e S), ⟨C.wf, g1, S1, e, .refl _, s1, r1, q1⟩, ?_⟩
    rintro i k σ H ⟨g2, S2, e2, l2, s2, r2, q2⟩
    cases k with
    | zero => exact q2.elim
    | succ k =>
      simp only [forLoc] at q2
      cases hS : S2[n]? with
      | none => rw [hS] at q2; exact q2.elim
      | some o =>
        rw [hS] at q2
        cases o with
        | lst ds =>
          obtain ⟨w0, w1, w2, w3⟩ := wk g2 S2 H ds l2.to s2 hS
          cases hd : ds[i]? with
          | none =>
            simp only [hd] at q2
            exact .inl ⟨w2 i (List.getElem?_eq_none_iff.mp hd), GoS.nx q2 s2 r2⟩
          | some d =>
            simp only [hd] at q2
            have hlt : i < ds.length := (List.getElem?_eq_some_iff.mp hd).1
            refine .inr ⟨w1 i hlt, fun σ H => ∃ g S e, g1.le g ∧ T.Sim g S H ∧ T.EnvR g σ e ∧ GoS T W g D (forLoc (fun d e S => RS.bind e (evset e tg d S) fun e S => exs C bs e S) n k (i + 1) e S), fun σ' H' p => ⟨k, Nat.lt_succ_self _, p⟩, fun x H' y => ?_⟩
            obtain ⟨e3, r3⟩ := w3 i x H' d hd y
            subst e3
            exact for_step (rest := fun e S => forLoc (fun d e S => RS.bind e (evset e tg d S) fun e S => exs C bs e S) n k (i + 1) e S) s2 r2 (.inl r3) q2 fun g' S' e' σ' H' l' s' en' q' => ⟨g', S', e', l2.trans l', s', en', q'⟩
        | _ => exact q2.elim
/-- the store's dict -/
theorem dctAt_ok {g : Gh} {S : Sto} {H : Hp} {a : Addr} {n : Nat} {ks : List Key} {ds : List CT.D} (s : T.Sim g S H) (q : g.ρ[n]? = some a) (h : S[n]? = some (.dct ks ds)) : ∃ xs, H a = some (.dK (ks.zip xs)) ∧ ks.length = xs.length ∧ T.RDs g xs ds := by
  obtain ⟨_, ho, y2, y3⟩ := s.obj n _ _ q h (by simp)
  cases y3 with
  | dct l r => exact ⟨_, y2, l, r⟩
theorem ixn_same (n : Nat) (i : Int) : L2.ixN n i = CT.ixN n i := by
  unfold L2.ixN CT.ixN
  first | rfl | (split <;> split <;> simp_all <;> omega)
theorem ss_sub {o i a : E} {x y z : Expr} {p pos : Pos} (hu : X.A.units + 1 < cLine) (ho : PE X x (tI T W (ev C o))) (hi : PE X y (tI T W (ev C i))) (ha : PE X z (tI T W (ev C a))) (hs : swapsWith z (some (.Subscript x y p)) pos.line X.env = pure false) :
    PS X (.Assign [.Subscript x y p] z pos) (tSI T W (ex C (.sub o i a))) := by
  refine ⟨fun pins s σ H D I ⟨g, S, e, sm, r, q⟩ => ?_⟩
  simp only [ex] at q
  refine wpAny_Assign_Subscript (thn (ha.run pins s σ H (fun v H1 => ∃ g1 S1 d, T.Sim g1 S1 H1 ∧ T.EnvR g1 σ e ∧ T.RD g1 v d ∧ GoS T W g1 D (RS.bind e (ev C o e S1) fun x S => RS.bind e (ev C i e S) fun y S => setSub x y d e S)) I
    ⟨g, S, e, sm, r, (GoS.bind r q).imp fun g1 H1 v d S1 l1 s1 rd _ q1 => ⟨g1, S1, d, s1, r.mono l1, rd, q1⟩⟩) fun u s1 ⟨v, H1, I1, rv, g1, S1, d, sm1, r1, rd, q1⟩ => ?_) hs
  refine thn (ho.run pins s1 σ H1 (fun x H2 => ∃ g2 S2 dx, T.Sim g2 S2 H2 ∧ T.EnvR g2 σ e ∧ T.RD g2 v d ∧ T.RD g2 x dx ∧ GoS T W g2 D (RS.bind e (ev C i e S2) fun y S => setSub dx y d e S)) I1
    ⟨g1, S1, e, sm1, r1, (GoS.bind r1 q1).imp fun g2 H2 x dx S2 l2 s2 rdx _ q2 => ⟨g2, S2, dx, s2, r1.mono l2, RD.mono T.K l2 rd, rdx, q2⟩⟩) fun ov s2 ⟨x, H2, I2, rx, g2, S2, dx, sm2, r2, rd2, rdx, q2⟩ => ?_
  refine thn (hi.run pins s2 σ H2 (fun y H3 => ∃ g3 S3 dy, T.Sim g3 S3 H3 ∧ T.EnvR g3 σ e ∧ T.RD g3 v d ∧ T.RD g3 x dx ∧ T.RD g3 y dy ∧ GoS T W g3 D (setSub dx dy d e S3)) I2
    ⟨g2, S2, e, sm2, r2, (GoS.bind r2 q2).imp fun g3 H3 y dy S3 l3 s3 rdy _ q3 => ⟨g3, S3, dy, s3, r2.mono l3, RD.mono T.K l3 rd2, RD.mono T.K l3 rdx, rdy, q3⟩⟩) fun iv s3 ⟨y, H3, I3, ry, g3, S3, dy, sm3, r3, rd3, rdx3, rdy, q3⟩ => ?_
  cases rdx3 with
  | @loc p n hρ =>
    simp only [setSub] at q3
    cases hS : S3[n]? with
    | none => rw [hS] at q3; exact q3.elim
    | some ob =>
      rw [hS] at q3
      cases ob with
      | dct ks ds =>
        obtain ⟨k, hk, q4⟩ := orNoS_ok q3
        obtain ⟨hf, q5⟩ := iteS_ok q4
        obtain ⟨xs, hp, hl, rs⟩ := dctAt_ok sm3 hρ hS
        obtain ⟨ys, e1, e2, e3⟩ := put_zip (k := k) rd3 hl rs
        have hz : (ks.zip xs).length < sizeLine := by
          rw [List.length_zip, ← hl, Nat.min_self]; exact fits_le hf
        refine thn (set_dict hu pins s3 σ H3 _ y v ov iv u (fun H' => D.nx σ H') I3 rx ry rv ⟨p, _, rfl, key_of rdy hk ▸ DPut.k hp hz, ?_⟩) fun _ s4 ⟨H4, I4, q6⟩ => ⟨σ, H4, I4, q6⟩
        rw [e1]
        exact GoS.nx q5 (sm3.put hρ hS (by simp) (.dct e2 e3)) r3
      | lst ds =>
        obtain ⟨i', hi', q4⟩ := orNoS_ok q3
        obtain ⟨j, hj, q5⟩ := orNoS_ok q4
        obtain ⟨_, hob, y2, y3⟩ := sm3.obj n _ _ hρ hS (by simp)
        cases y3 with
        | @lst xs _ lx rs =>
          cases rdy <;> simp [CT.D.int?] at hi'
          subst hi'
          refine thn (set_list pins s3 σ H3 _ _ v ov iv u (fun H' => D.nx σ H') I3 rx ry rv ⟨p, xs, _, j, rfl, rfl, y2, by rw [ixn_same, rs.length]; exact hj, ?_⟩) fun _ s4 ⟨H4, I4, q6⟩ => ⟨σ, H4, I4, q6⟩
          exact GoS.nx q5 (sm3.put hρ hS (by simp) (.lst (by rw [List.length_set]; exact lx) (rs.set rd3 j))) r3
      | _ => exact q3.elim
  | _ => exact q3.elim
theorem ss_sbk {o i a : E} {x y z : Expr} {p pos : Pos} (hK : X.K = T.K) (hw : T.nh = fun k => k.hash X.w) (hu : X.A.units + 65 < cLine) (ho : PE X x (tI T W (ev C o))) (hi : PE X y (tI T W (ev C i))) (ha : PE X z (tI T W (ev C a))) (hs : swapsWith z (some (.Subscript x y p)) pos.line X.env = pure false) :
    PS X (.Assign [.Subscript x y p] z pos) (tSI T W (ex C (.sbk o i a))) := by
  refine ⟨fun pins s σ H D I ⟨g, S, e, sm, r, q⟩ => ?_⟩
  simp only [ex] at q
  refine wpAny_Assign_Subscript (thn (ha.run pins s σ H (fun v H1 => ∃ g1 S1 d, T.Sim g1 S1 H1 ∧ T.EnvR g1 σ e ∧ T.RD g1 v d ∧ GoS T W g1 D (RS.bind e (ev C o e S1) fun x S => RS.bind e (ev C i e S) fun y S => setSubK x y d e S)) I
    ⟨g, S, e, sm, r, (GoS.bind r q).imp fun g1 H1 v d S1 l1 s1 rd _ q1 => ⟨g1, S1, d, s1, r.mono l1, rd, q1⟩⟩) fun u s1 ⟨v, H1, I1, rv, g1, S1, d, sm1, r1, rd, q1⟩ => ?_) hs
  refine thn (ho.run pins s1 σ H1 (fun x H2 => ∃ g2 S2 dx, T.Sim g2 S2 H2 ∧ T.EnvR g2 σ e ∧ T.RD g2 v d ∧ T.RD g2 x dx ∧ GoS T W g2 D (RS.bind e (ev C i e S2) fun y S => setSubK dx y d e S)) I1
    ⟨g1, S1, e, sm1, r1, (GoS.bind r1 q1).imp fun g2 H2 x dx S2 l2 s2 rdx _ q2 => ⟨g2, S2, dx, s2, r1.mono l2, RD.mono T.K l2 rd, rdx, q2⟩⟩) fun ov s2 ⟨x, H2, I2, rx, g2, S2, dx, sm2, r2, rd2, rdx, q2⟩ => ?_
  refine thn (hi.run pins s2 σ H2 (fun y H3 => ∃ g3 S3 dy, T.Sim g3 S3 H3 ∧ T.EnvR g3 σ e ∧ T.RD g3 v d ∧ T.RD g3 x dx ∧ T.RD g3 y dy ∧ GoS T W g3 D (setSubK dx dy d e S3)) I2
    ⟨g2, S2, e, sm2, r2, (GoS.bind r2 q2).imp fun g3 H3 y dy S3 l3 s3 rdy _ q3 => ⟨g3, S3, dy, s3, r2.mono l3, RD.mono T.K l3 rd2, RD.mono T.K l3 rdx, rdy, q3⟩⟩) fun iv s3 ⟨y, H3, I3, ry, g3, S3, dy, sm3, r3, rd3, rdx3, rdy, q3⟩ => ?_
  simp only [setSubK] at q3
  obtain ⟨k, hk, q4⟩ := orNoS_ok q3
  obtain ⟨⟨ks, ds⟩, hn, q5⟩ := orNoS_ok q4
  obtain ⟨hf, q6⟩ := iteS_ok q5
  obtain ⟨a1, n, xs, vs, rfl, ⟨hρ, ob, hS, hne⟩, rfl, h1, rfl, hz, hkk, hv, rs⟩ := asN_ok sm3 rdx3 hn
  obtain ⟨b, rfl, nk, hd⟩ := nkT_ok rdy hk
  cases rx; cases ry
  obtain ⟨hm, hD⟩ := nd_dict hw I3 h1 (nd_up hK sm3 hkk)
  have nk' : NKV X.K H3 (.ref b) k := by rw [hK]; exact NKV.mono T.K sm3.sub nk
  have hkey : (nestedKind X.prog X.w).is s3.heap k b := ⟨NKV.is I3 nk' (show L2.RelV (.ref b) (.ref b) from rfl), hd⟩
  obtain ⟨ws, f1, f2, f3, f4⟩ := put_ok (T := T) (k := k) (a := b) rv rd3 hv rs
  have hl : xs.length + 1 ≤ sizeLine := by have := fits_le hf; simpa using this
  refine wpAny_setItem_heap (knd := nestedKind X.prog X.w) (hsz := hz) (by show X.A.in1.units + 8 < cLine; show X.A.units + 1 + 8 < cLine; omega) hkey hD fun h' hD' sb => ?_
  have hD2 := hD'
  obtain ⟨o', es, ep, e1, e2, e3, e4, _, e6⟩ := hD2
  have mu : Mut (H3 a1) := by
    rcases h1 with h1 | ⟨h1, _⟩ <;> rw [h1] <;> trivial
  have e4' : es.toList = (storedH xs k b u).map (entN T.nh) := by rw [e4, hw]; rfl
  refine ⟨σ, upd H3 a1 (NDO T.nh a1 (storedH xs k b u)), I3.write (e := a1) mu (.inl rfl) (fun c w hc hw' => (sb.2 c hc).trans hw') ⟨_, e1⟩ ⟨⟨hm, o', es, ep, e1, e2, e3, e4', e6⟩, ⟨_, e1⟩, ?_⟩, ?_⟩
  · rintro h1 h2 ⟨hm, o, es, ep, e1, e2⟩ kk
    exact ⟨hm, o, es, ep, kk o e1, e2⟩
  · refine GoS.nx q6 (sm3.put hρ hS hne ?_) r3
    simp only
    rw [← f1]
    refine .dcn (by omega) (fun y hy => ?_) f2 f3
    rcases put_keys y hy with rfl | ⟨z, hz', z1, z2⟩
    · exact ⟨nk, hd⟩
    · rw [z1, z2]; exact hkk z hz'
theorem ss_attr {o a : E} {f : Str} {x z : Expr} {p pos : Pos} (hc : ∀ c, Cls X.K (T.cA c)) (hn : ∀ c, NoAttr X.K (T.cA c) f) (ho : PE X x (tI T W (ev C o))) (ha : PE X z (tI T W (ev C a))) (hs : swapsWith z (some (.Attribute x f p)) pos.line X.env = pure false) :
    PS X (.Assign [.Attribute x f p] z pos) (tSI T W (ex C (.attr o f a))) := by
  refine PS.imp (ps_fld ho ha hs) fun D σ H ⟨g, S, e, s, r, q⟩ => ?_
  simp only [ex] at q
  refine ⟨g, S, e, s, r, (GoS.bind r q).imp fun g1 H1 v d S1 l1 s1 rd _ q1 => ⟨g1, S1, e, s1, r.mono l1, (GoS.bind (r.mono l1) q1).imp fun g2 H2 u d2 S2 l2 s2 rd2 _ q2 => ?_⟩⟩
  obtain ⟨pp, hp, q3⟩ := orNoS_ok q2
  obtain ⟨hl, q4⟩ := iteS_ok q3
  obtain ⟨n, c, fs, ds⟩ := pp
  obtain ⟨a1, dx, xs, _, rfl, hρ, hS, h1, hlen, rs⟩ := insAt_ok s2 rd2 hp
  have rd' := RD.mono T.K l2 rd
  obtain ⟨ys, e1, e2, e3⟩ := fd_put (f := f) rd' hlen rs
  refine ⟨a1, _, dx, _, rfl, h1, hc c, hn c, ?_, ?_⟩
  · have := of_decide_eq_true hl
    rw [List.length_zip, ← hlen, Nat.min_self]; exact this
  · rw [e1]
    exact GoS.nx q4 (s2.put hρ hS (by simp) (.ins e2 e3)) ((r.mono l1).mono l2)
end
/-! ### raise, try -/
abbrev bmVE : List Value := [.type "ValueError", .type "Exception", .type "BaseException", .type "object"]
section
variable {T : Tb} {W : WX} {X : Cx} {C : Cal}
/-- X(), X an own exception class without own __init__ -/
theorem pmk_own0 {A0 : Addr} {bmB : List Value} {B newId initId : String} {x : Str} {p pos : Pos} (F : ExcBaseFacts B newId initId bmB) (q : PySem.W.excIn X.K A0 bmB newId = true) (gC : X.mg x = some (.ref A0))
    (kC : PySem.W.keepIn X.K (.ref A0) = true) (r : Raises X (.ref A0)) (hg : Gl X x) (hdb : (x == ("__debug__" : Str)) = false) :
    PMk X (.Call (.Name x p) [] [] pos) (fun _ H Q => Q (.ref A0) none H) := by
  intro pins s σ H Q I h
  refine wpAny_Call_Name_kw (ld_glob I hg gC ?_ hdb)
  refine PySem.W.callWith_K0 I.kIn kC ?_
  show wpAny _ _ (call (.ref A0) []) _ _ _
  obtain ⟨bm, N, nm, qn, bs, hdct, sn, sub, ab, col, dd, k0, k1, k2, k3, k5, mN, hC, hN, hni, T⟩ := exc_obj I.kIn q
  refine wpAny_call_exc_subT F T hC hN hni (fun h' e hm => ?_) (Nat.zero_le _)
  exact mk_of I hm r h (I.hok.gone hm.new)
theorem ss_raise {c : Nat} {x : Str} {p pos pos' : Pos} (hc : X.calm = true) (tk : Takes X W) (q : PySem.W.excIn X.K (T.eA c) bmVE "ValueError.__new__" = true) (gC : X.mg x = some (.ref (T.eA c)))
    (kC : PySem.W.keepIn X.K (.ref (T.eA c)) = true) (r : Raises X (.ref (T.eA c))) (hg : Gl X x) (hdb : (x == ("__debug__" : Str)) = false) :
    PS X (.Raise (some (.Call (.Name x p) [] [] pos)) none pos') (tSI T W (ex C (.raise c))) := by
  refine PS.imp (ps_raise hc tk (pmk_own0 PySem.F.excBase_ValueError q gC kC r hg hdb)) fun D σ H ⟨g, S, e, s, en, q⟩ => ?_
  simp only [ex] at q
  exact q g H σ (.refl g) s en
/-- what is done in an except: it ends of itself -/
def Mild (C : Cal) (h : List CT.S) : Prop := ∀ e S, (∃ e' S', exs C h e S = .nx e' S') ∨ ∃ d S', exs C h e S = .rt d S'
theorem ss_try {b h : List CT.S} {c : Nat} {x : Str} {body suite : List Stmt} {b0 : Stmt} {np pos pos' : Pos} (hs : X.stack = X.env :: X.outer) (hf : X.env.frame = some X.env.locals) (hc : Names X x (.ref (T.eA c))) (tk : Takes X W) (hm : PySem.W.exmOne X.K (.ref (T.eA c)) (.ref (T.eA c)) = some true)
    (hb : ∀ (W : WX) (pn : List (Addr × Obj)) (xe : Value → Shared → Prop), Takes (X.tr pn xe) W → PassesOwn (model X.prog X.w) X.A X.env xe → PSs (X.tr pn xe) body (tSI T W (exs C b)))
    (hsu : ∀ (a : Addr) (oe : Obj) (pn : List (Addr × Obj)), PSs (X.suite a ((a, oe) :: pn)) (b0 :: suite) (tSI T (fun _ _ _ _ => False) (exs C h))) (hd : Mild C h) :
    PS X (.Try body [.ExceptHandler (some (.Name x np)) none (b0 :: suite) pos'] [] [] pos) (tSI T W (ex C (.try b c h))) := by
  refine PS.imp (ps_try_only (tb := fun W' => tSI T W' (exs C b)) (ts := fun _ _ _ => tSI T (fun _ _ _ _ => False) (exs C h)) hs hf hc tk hb (fun a oe _ _ pn _ _ => hsu a oe pn)) fun D σ H ⟨g, S, e, s, en, q⟩ => ⟨g, S, e, s, en, ?_⟩
  simp only [ex] at q
  cases hr : exs C b e S with
  | no => rw [hr] at q; exact q
  | nx e1 S1 => rw [hr] at q; exact q
  | ct e1 S1 => rw [hr] at q; exact q
  | rt d S1 => rw [hr] at q; exact q
  | ex c' e1 S1 =>
    rw [hr] at q
    simp only [RS.catch] at q
    by_cases hcc : c = c'
    · subst hcc
      simp only [beq_self_eq_true, if_true] at q
      intro g' H' σ' l s' en'
      refine ⟨true, hm, fun _ a _ => ⟨g', S1, e1, s', en', ?_⟩, fun z => by cases z⟩
      rcases hd e1 S1 with ⟨e2, S2, h2⟩ | ⟨d, S2, h2⟩
      · rw [h2] at q ⊢
        exact GoS.mono (T := T) (W := fun _ _ _ _ => False) q l
      · rw [h2] at q ⊢
        exact GoS.mono (T := T) (W := fun _ _ _ _ => False) q l
    · have : (c == c') = false := by simpa using hcc
      rw [this] at q
      exact q.elim
end
end CT

end
section
set_option maxHeartbeats 8000000
/-! callturn proofs, part w: what the checker lets by is sound, statements -/
namespace CT
open PySem PySem.Spec PyProof.Rows L2
def notComp : Expr → Bool
  | .ListComp _ _ _ _ => false
  | .SetComp _ _ _ _ => false
  | .DictComp _ _ _ _ _ => false
  | _ => true
def notTup : Expr → Bool
  | .Tuple _ _ _ => false
  | _ => true
def isComp : E → Bool
  | .comp _ _ _ _ _ _ _ => true
  | _ => false
def setc (a : E) (t x : Expr) : Bool :=
  match t with
  | .Name _ _ => notComp x || isComp a
  | _ => notTup x
/-- a plain constant -/
def cstc : E → Expr → Bool
  | .str s, .Constant (.str t) _ _ => decide (s = t)
  | .non, .Constant .none _ _ => true
  | .int i, .Constant (.int j) _ _ => decide (i = j)
  | .bl i, .Constant (.bool j) _ _ => decide (i = j)
  | _, _ => false
/-- what may be done in an except -/
def chH (N : List Str) (ns : Nks) : List CT.S → List Stmt → Bool
  | [.set (.one i) a], [.Assign [.Name y _] x _] => slotc N ns i y && cstc a x
  | [.ret a], [.Return (some x) _] => cstc a x
  | _, _ => false
/-- are the stores swapped? -/
def parc (N : List Str) (ns : Nks) (is : List Nat) (ts vs : List Expr) : Bool :=
  match is, ts, vs with
  | [i, j], [.Name x px, .Name y py], [a, b] => (decide (N[i]? = some x) && (decide (N[j]? = some y) && (decide (i ≠ j) && decide (x ≠ y)))) &&
      ((decide (ns.lookup x = some .local) && (decide (ns.lookup y = some .local) && (py.line == px.line))) && ((notStar a && notStar b) && (!([a, b].all (foldedForSure 8)) && !([a, b].all (constantsAlone 8)))))
  | [i, j, l], [.Name x px, .Name y py, .Name z pz], [a, b, c] => (decide (N[i]? = some x) && (decide (N[j]? = some y) && (decide (N[l]? = some z) && (decide (i ≠ j ∧ i ≠ l ∧ j ≠ l) && decide (x ≠ y ∧ x ≠ z ∧ y ≠ z))))) &&
      ((decide (ns.lookup x = some .local) && (decide (ns.lookup y = some .local) && (decide (ns.lookup z = some .local) && ((py.line == px.line) && (pz.line == px.line))))) && ((notStar a && (notStar b && notStar c)) && (!([a, b, c].all (foldedForSure 8)) && !([a, b, c].all (constantsAlone 8)))))
  | _, _, _ => false
/-- are the stores not swapped? one of the names is a cell -/
def parn (ns : Nks) : List Expr → Bool
  | [.Name x _, .Name y _] => !decide (ns.lookup x = some .local) || !decide (ns.lookup y = some .local)
  | [.Name x _, .Name y _, .Name z _] => !decide (ns.lookup x = some .local) || (!decide (ns.lookup y = some .local) || !decide (ns.lookup z = some .local))
  | _ => false
mutual
def chS (Y : Yx) (ns : Nks) : CT.S → Stmt → Bool
  | .expr a, z => match z with
    | .Expr x _ => notComp x && chk Y a ns x
    | _ => false
  | .set tg a, z => match z with
    | .Assign [t] x _ => tgc Y.N ns tg t && (chk Y a ns x && setc a t x)
    | _ => false
  | .par is as, z => match z with
    | .Assign [.Tuple ts _ _] (.Tuple vs _ _) _ => (parc Y.N ns is ts vs || (parn ns ts && (slotcs Y.N ns is ts && decide (as.length ≤ 3)))) && chks Y as ns vs
    | _ => false
  | .sub o i a, z => match z with
    | .Assign [.Subscript x y _] v _ => chk Y o ns x && (chk Y i ns y && chk Y a ns v)
    | _ => false
  | .sbk o i a, z => match z with
    | .Assign [.Subscript x y _] v _ => chk Y o ns x && (chk Y i ns y && chk Y a ns v)
    | _ => false
  | .attr o f a, z => match z with
    | .Assign [.Attribute x g _] v _ => (decide (f = g) && Y.flds.contains f) && (chk Y o ns x && chk Y a ns v)
    | _ => false
  | .ret a, z => match z with
    | .Return (some x) _ => chk Y a ns x
    | _ => false
  | .ite c a b, z => match z with
    | .If x xs ys _ => okT c x && (chk Y c ns x && (chSs Y ns a xs && chSs Y ns b ys))
    | _ => false
  | .for tg ik its b, z => match z with
    | .For t it xs [] _ => tgc Y.N ns tg t && (notSet it && (chkI Y its ik ns t it && chSs Y ns b xs))
    | _ => false
  | .while c b, z => match z with
    | .While x xs [] _ => okT c x && (chk Y c ns x && chSs Y ns b xs)
    | _ => false
  | .raise c, z => match z with
    | .Raise (some (.Call (.Name x _) [] [] _)) none _ => gl ns x && (decide (Y.xs.lookup x = some c) && plainName x)
    | _ => false
  | .try b c h, z => match z with
    | .Try body [.ExceptHandler (some (.Name x _)) none (b0 :: suite) _] [] [] _ => (gl ns x && (decide (Y.xs.lookup x = some c) && plainName x)) && (chSs Y ns b body && chH Y.N ns h (b0 :: suite))
    | _ => false
  | .cont, z => match z with
    | .Continue _ => true
    | _ => false
  | .pass, z => match z with
    | .Pass _ => true
    | .Expr (.Constant (.str _) _ _) _ => true
    | _ => false
def chSs (Y : Yx) (ns : Nks) : List CT.S → List Stmt → Bool
  | [], z => match z with
    | [] => true
    | _ => false
  | a :: as, z => match z with
    | x :: xs => chS Y ns a x && chSs Y ns as xs
    | _ => false
end
section
variable {T : Tb} {W : WX} {X : Cx} {C : Cal} {Y : Yx} {n : Nat} {ns : Nks} {F : Addr}
theorem noswap {x : Expr} {t : Option Expr} {l : Nat} {env : Env} (h : notComp x = true) : swapsWith x t l env = pure false := by cases x <;> first | rfl | (simp [notComp] at h)
theorem noswapT {x t : Expr} {l : Nat} {env : Env} (h : ∀ y p, t ≠ .Name y p) : swapsWith x (some t) l env = pure false := by
  cases x with
  | ListComp a b c d => cases t <;> first | rfl | exact absurd rfl (h _ _)
  | SetComp a b c d => cases t <;> first | rfl | exact absurd rfl (h _ _)
  | DictComp a b c d e => cases t <;> first | rfl | exact absurd rfl (h _ _)
  | _ => rfl
theorem nostores {t x : Expr} {env : Env} (h : notTup x = true) : swappedStores [t] x env = pure none := by
  cases x <;> first | (cases t <;> rfl) | (simp [notTup] at h)
theorem nostoresN {y : Str} {p : Pos} {x : Expr} {env : Env} : swappedStores [.Name y p] x env = pure none := by cases x <;> rfl
theorem swap_is {elt : Expr} {gs : List Comprehension} {sc : Scope} {pos py : Pos} {y : Str} {l : Nat} (hk : X.env.scope.kind = .function) (hn : X.env.scope.names = ns) :
    swapsWith (.ListComp elt gs sc pos) (some (.Name y py)) l X.env = pure (decide (ns.lookup y = some .local) && ((py.line == pos.line) && !(sc.names.any fun p => p.1 == y && (p.2 == .local || p.2 == .cell)))) := by
  have ky : X.env.kindOf y = ns.lookup y := by show X.env.scope.names.lookup y = _; rw [hn]
  have hb : X.env.blockKind = .function := by unfold Env.blockKind; rw [hk]; rfl
  unfold swapsWith
  simp only [hb, ky, Expr.pos]
  have e : (ns.lookup y == some NameKind.local) = decide (ns.lookup y = some .local) := by
    by_cases h : ns.lookup y = some .local <;> simp [h]
  rw [e]
  simp [Bool.and_assoc]
/-- the bits of a comprehension -/
theorem comp_bits (B : Bd T C Y n ns X F W) {m : Bool} {el : E} {tg : Tg} {ik : IK} {its cs : List E} {own : List Nat} {elt t iter : Expr} {ifs : List Expr} {k : Int} {sc : Scope} {pos : Pos} (h : chk Y (.comp m el tg ik its cs own) ns (.ListComp elt [⟨t, iter, ifs, k⟩] sc pos) = true) :
    k = 0 ∧ PI X t iter (tW T W (isTup t) (wkf C ik its)) ∧ BlkOk X.N X.env.scope sc (own.map fun i => (Y.N.getD i default, i)) ∧ (∀ x, foldedSetIterable iter X.env x = pure x) ∧
      ∀ (σ : LSt) (s : Shared) (H : Hp) (A : Addr) (cl : List (Str × Addr)) (fp : List Addr) (EB : Value → Shared → Prop), TakF ((X.blk s H sc (compEnvC sc cl A X.env) fp).wish EB) F (fun c d _ H => W c d σ H) →
      PG ((X.blk s H sc (compEnvC sc cl A X.env) fp).wish EB) t (tTgO T (isTup t) tg own) ∧ PTs ((X.blk s H sc (compEnvC sc cl A X.env) fp).wish EB) ifs (tIT T (fun c d _ H => W c d σ H) (tstf C cs)) ∧ PE ((X.blk s H sc (compEnvC sc cl A X.env) fp).wish EB) elt (tI T (fun c d _ H => W c d σ H) (ev C el)) := by
  unfold chk at h
  simp only at h
  obtain ⟨h0, h1⟩ := and2 h
  obtain ⟨h0, h0'⟩ := and2 h0
  obtain ⟨h1, h2⟩ := and2 h1
  obtain ⟨h2, h3⟩ := and2 h2
  obtain ⟨h3, h4⟩ := and2 h3
  obtain ⟨h4, h5⟩ := and2 h4
  obtain ⟨bo, hk⟩ := blk_ok (X := X) h1 B.N B.nm
  refine ⟨dec h0, sndI its B h4, bo, fold_no h0', fun σ s H A cl fp EB tk => ?_⟩
  have B' := B.blk hk tk
  exact ⟨btg_ok B' (fun x hx => by show (sc.names.lookup x == some .cell) = true; rw [hx]; rfl) h2, sndC cs B' h5, (snd el B' h3).e⟩
/-- name = [..] -/
theorem ss_setLc (B : Bd T C Y n ns X F W) {i : Nat} {m : Bool} {el : E} {tg : Tg} {ik : IK} {its cs : List E} {own : List Nat} {elt t iter : Expr} {ifs : List Expr} {k : Int} {sc : Scope} {pos spos py : Pos} {y : Str} (hy : X.N[i]? = some y) (hyl : X.env.scope.names.lookup y = some .local)
    (h : chk Y (.comp m el tg ik its cs own) ns (.ListComp elt [⟨t, iter, ifs, k⟩] sc pos) = true) (hsw : swapsWith (.ListComp elt [⟨t, iter, ifs, k⟩] sc pos) (some (.Name y py)) spos.line X.env = pure true) :
    PS X (.Assign [.Name y py] (.ListComp elt [⟨t, iter, ifs, k⟩] sc pos) spos) (tSI T W (ex C (.set (.one i) (.comp m el tg ik its cs own)))) := by
  obtain ⟨e, hi, bo, hs, parts⟩ := comp_bits B h
  subst e
  obtain ⟨e0, out, st1, st2⟩ := B.st
  have nd : X.N.Nodup := by rw [B.N]; exact B.nd
  refine ⟨fun pins s σ H D I ⟨g, S, e, sm, r, q⟩ => ?_⟩
  rw [exec_Assign_Name_used _ _ _ _ hsw]
  refine wpAny_bind (wpAny_standAt (wpAny_bind ?_))
  show wpAny _ X.A (do let _ ← comprehension (.ListComp elt [⟨t, iter, ifs, 0⟩] sc pos) sc X.env (firstIterPos [⟨t, iter, ifs, 0⟩] pos) (newList []) false (eval iter X.env) (some (assign (.Name y py) X.env))) _ _ s
  simp only [ex] at q
  have q' : tI T W (ev C (.comp m el tg ik its cs own)) σ H (fun v H1 => D.nx (σ.set i (some v)) H1) := by
    refine ⟨g, S, e, sm, r, (GoS.bind r q).imp fun g1 H1 v d S1 l1 s1 rd _ q1 => ?_⟩
    simp only [evset, RS.bind] at q1
    exact GoS.nx q1 s1 (env_set i (r.mono l1) rd)
  have q2 := comp_ok (wk := isTup t) q'
  refine wpAny_bind (thn (comp_core (own := own.map fun i => (Y.N.getD i default, i)) (Qf := fun _ s' => SP X pins D .next s') B.calm nd I hi bo B.tk st1 st2 B.fr (g := tTgO T (isTup t) tg own) (tt := tIT T (fun c d _ H => W c d σ H) (tstf C cs)) (te := tI T (fun c d _ H => W c d σ H) (ev C el)) (parts σ) hs (by rw [own_back]; exact q2) fun L A s' mm H' I' qq hn f => ?_) fun _ s' hq => wpAny_pure (wpAny_pure hq))
  show wpAny _ _ (assign (.Name y py) X.env (.ref L)) _ _ _
  refine wpAny_assign_Name (store_ok2 (v := V.ref L) I' nd hy (.inl hyl) rfl (fun s2 I2 ⟨a, sb, ha⟩ => ?_) (.inr hyl))
  obtain ⟨f0, f1, f2, f3, f4, f5⟩ := f
  have haC : A ≠ a := by
    rcases ha with z | z
    · rw [z]; exact f1
    · exact fun e => f4 y a z e.symm
  exact ⟨mm, hn.sameBut sb haC, fun h3 sb3 => ⟨_, H', I2.turned (t' := s2.toks) (fun b o hb e => (sb3.2 b hb).trans e) f0 f1 f3 f4 f5, qq⟩⟩
theorem slots_ok (B : Bd T C Y n ns X F W) (hf : ∀ x, X.fn x = true) : ∀ {is : List Nat} {es : List Expr}, slotcs Y.N ns is es = true → Nms X es is
  | [], [], _ => .nil
  | [], _ :: _, h => by simp [slotcs] at h
  | _ :: _, [], h => by simp [slotcs] at h
  | i :: is, e :: es, h => by
    cases e with
    | Name x p =>
      obtain ⟨h1, h2⟩ := and2 (show (slotc Y.N ns i x && slotcs Y.N ns is es) = true from h)
      obtain ⟨a, b⟩ := slot_ok B h1
      exact .cons a b (.inl (hf x)) (slots_ok B hf h2)
    | _ => simp [slotcs] at h
theorem tg_ok (B : Bd T C Y n ns X F W) (hf : ∀ x, X.fn x = true) {tg : Tg} {x : Expr} (h : tgc Y.N ns tg x = true) : PG X x (tTg T (isTup x) tg) := by
  have nd : X.N.Nodup := by rw [B.N]; exact B.nd
  cases tg with
  | one i =>
    cases x with
    | Name y p =>
      obtain ⟨a, b⟩ := slot_ok B (show slotc Y.N ns i y = true from h)
      exact g_one nd a b (.inl (hf y))
    | _ => simp [tgc] at h
  | many is =>
    cases x with
    | Tuple es k p => exact g_many B.K B.calm nd (slots_ok B hf (show slotcs Y.N ns is es = true from h))
    | _ => simp [tgc] at h
theorem chk_comp_gen {m : Bool} {el : E} {tg : Tg} {ik : IK} {its cs : List E} {own : List Nat} {x : Expr} (h : chk Y (.comp m el tg ik its cs own) ns x = true) : ∃ elt t iter ifs k sc pos, x = .ListComp elt [⟨t, iter, ifs, k⟩] sc pos := by
  unfold chk at h
  split at h
  · exact ⟨_, _, _, _, _, _, _, rfl⟩
  · cases h
/-- a statement's text may lean on more: the def's own frame -/
structure Bs (T : Tb) (C : Cal) (Y : Yx) (n : Nat) (ns : Nks) (X : Cx) (F : Addr) (W : WX) : Prop where
  b : Bd T C Y n ns X F W
  fn : ∀ x, X.fn x = true
  ow : PassesOwn (model X.prog X.w) X.A X.env X.xe
  tks : Takes X W
  hs : X.stack = X.env :: X.outer
  hf : X.env.frame = some X.env.locals
  hF : X.env.locals = F
  xs : ∀ x c, Y.xs.lookup x = some c → X.mg x = some (.ref (T.eA c)) ∧ PySem.W.excIn X.K (T.eA c) bmVE "ValueError.__new__" = true ∧ PySem.W.keepIn X.K (.ref (T.eA c)) = true ∧
    PySem.W.subIn X.K (.ref (T.eA c)) (.type "BaseException") = some true ∧ PySem.W.typeIn X.K (.ref (T.eA c)) = some (.type "type") ∧ PySem.W.exmOne X.K (.ref (T.eA c)) (.ref (T.eA c)) = some true
theorem cst_pe {a : E} {x : Expr} (h : cstc a x = true) : PE X x (tI T W (ev C a)) := by
  cases a <;> cases x <;> try (simp [cstc] at h)
  all_goals (rename_i v _ _; cases v <;> simp [cstc] at h)
  all_goals first | (subst h; exact s_str) | (subst h; exact s_int) | (subst h; exact s_bl) | exact s_non
theorem cst_ev {a : E} {x : Expr} (h : cstc a x = true) (e : Ev) (S : Sto) : ∃ d, ev C a e S = .ok d S := by
  cases a <;> cases x <;> first | (simp [cstc] at h; done) | exact ⟨_, by rw [ev]⟩
theorem cst_nc {a : E} {x : Expr} (h : cstc a x = true) : notComp x = true := by
  cases a <;> cases x <;> first | rfl | (simp [cstc] at h; done)
theorem hand_ok (B : Bs T C Y n ns X F W) {h : List CT.S} {xs : List Stmt} (hc : chH Y.N ns h xs = true) (a : Addr) (oe : Obj) (pn : List (Addr × Obj)) :
    PSs (X.suite a ((a, oe) :: pn)) xs (tSI T (fun _ _ _ _ => False) (exs C h)) ∧ Mild C h := by
  unfold chH at hc
  split at hc
  · rename_i i a' y p x p'
    obtain ⟨h1, h2⟩ := and2 hc
    obtain ⟨k1, k2⟩ := slot_ok B.b h1
    have nd : X.N.Nodup := by rw [B.b.N]; exact B.b.nd
    refine ⟨sss_cons (ss_set (cst_pe h2) (g_one (X := X.suite a ((a, oe) :: pn)) nd k1 k2 (.inl (B.fn y))) (by show swapsWith x (some (.Name y p)) p'.line (X.suite a ((a, oe) :: pn)).env = pure false; exact noswap (cst_nc h2)) nostoresN rfl) sss_nil, fun e S => .inl ?_⟩
    obtain ⟨d, hd⟩ := cst_ev (C := C) h2 e S
    exact ⟨e.set i (some d), S, by simp only [exs, ex, hd, RS.bind, evset, RS.next]⟩
  · rename_i a' x p
    refine ⟨sss_cons (ss_ret (cst_pe hc)) sss_nil, fun e S => .inr ?_⟩
    obtain ⟨d, hd⟩ := cst_ev (C := C) hc e S
    exact ⟨d, S, by simp only [exs, ex, hd, RS.bind, RS.next]⟩
  · cases hc
theorem set_ok (B : Bs T C Y n ns X F W) {tg : Tg} {a : E} {t x : Expr} {pos : Pos} (h1 : tgc Y.N ns tg t = true) (h2 : chk Y a ns x = true) (h3 : setc a t x = true) : PS X (.Assign [t] x pos) (tSI T W (ex C (.set tg a))) := by
  have pg := tg_ok B.b B.fn h1
  have pe := (snd a B.b h2).e
  have rest : (∀ y p, t ≠ .Name y p) → notTup x = true → (assignEach [t] X.env).map (·.2) = [assign t X.env] → PS X (.Assign [t] x pos) (tSI T W (ex C (.set tg a))) := fun k1 k2 k3 => ss_set pe pg (noswapT k1) (nostores k2) k3
  cases t with
  | Name y py =>
    cases hn : notComp x with
    | true => exact ss_set pe pg (by show swapsWith x (some (.Name y py)) pos.line X.env = pure false; exact noswap hn) nostoresN rfl
    | false =>
      have hc : isComp a = true := by
        have h3' : (notComp x || isComp a) = true := h3
        rw [hn, Bool.false_or] at h3'; exact h3'
      cases a with
      | comp m el tg' ik its cs own =>
        obtain ⟨elt, t', iter, ifs, k, sc, pos', rfl⟩ := chk_comp_gen h2
        have sw := swap_is (X := X) (elt := elt) (gs := [⟨t', iter, ifs, k⟩]) (sc := sc) (pos := pos') (py := py) (y := y) (l := pos.line) B.b.kd B.b.nm
        cases hb : (decide (ns.lookup y = some .local) && ((py.line == pos'.line) && !(sc.names.any fun p => p.1 == y && (p.2 == .local || p.2 == .cell)))) with
        | false =>
          rw [hb] at sw
          exact ss_set pe pg sw nostoresN rfl
        | true =>
          rw [hb] at sw
          cases tg with
          | one i =>
            obtain ⟨a1, _⟩ := slot_ok B.b (show slotc Y.N ns i y = true from h1)
            exact ss_setLc B.b a1 (by rw [B.b.nm]; exact dec (and2 hb).1) h2 sw
          | many is => simp [tgc] at h1
      | _ => cases hc
  | Tuple es k p => exact rest (by intro _ _ e; cases e) h3 rfl
  | _ => cases tg <;> simp [tgc] at h1
theorem ns_any {vs : List Expr} (h : ∀ v ∈ vs, notStar v = true) : (vs.any fun | .Starred .. => true | _ => false) = false := by
  rw [List.any_eq_false]
  intro v hv
  have := h v hv
  cases v <;> first | rfl | (simp; done) | (simp [notStar] at this)
theorem par_ok (B : Bs T C Y n ns X F W) {is : List Nat} {as : List E} {ts vs : List Expr} {kt k2 : Nat} {pt pt2 pos : Pos} (h1 : parc Y.N ns is ts vs = true) (h2 : chks Y as ns vs = true) : PS X (.Assign [.Tuple ts kt pt] (.Tuple vs k2 pt2) pos) (tSI T W (ex C (.par is as))) := by
  have nd : X.N.Nodup := by rw [B.b.N]; exact B.b.nd
  have pa := sndL as B.b h2
  have hb : X.env.blockKind = .function := by unfold Env.blockKind; rw [B.b.kd]; rfl
  have hk : ∀ x, X.env.kindOf x = ns.lookup x := fun x => by show X.env.scope.names.lookup x = _; rw [B.b.nm]
  unfold parc at h1
  split at h1
  · rename_i i j x px y py a b
    obtain ⟨h1, h3⟩ := and2 h1
    obtain ⟨c1, h1⟩ := and2 h1
    obtain ⟨c2, h1⟩ := and2 h1
    obtain ⟨c3, c4⟩ := and2 h1
    obtain ⟨h3, h4⟩ := and2 h3
    obtain ⟨d1, h3⟩ := and2 h3
    obtain ⟨d2, d3⟩ := and2 h3
    obtain ⟨h4, h5⟩ := and2 h4
    obtain ⟨s1, s2⟩ := and2 h4
    obtain ⟨f1, f2⟩ := and2 h5
    have c3 := dec c3
    have c4 := dec c4
    have d1 := dec d1
    have d2 := dec d2
    have d3' : py.line = px.line := by simpa using d3
    have hst := ns_any (vs := [a, b]) (by simp [s1, s2])
    have f1' : [a, b].all (foldedForSure 8) = false := (Bool.not_eq_true' _).mp f1
    have f2' : [a, b].all (constantsAlone 8) = false := (Bool.not_eq_true' _).mp f2
    have hsw : swappedStores [.Tuple [.Name x px, .Name y py] kt pt] (.Tuple [a, b] k2 pt2) X.env = pure (some [x, y]) := by
      unfold swappedStores
      simp only [List.length_cons, List.length_nil, hb, hst, hk, d1, d2, f1', f2']
      have e1 : (Expr.Name y py).pos.line = py.line := rfl
      have e2 : (Expr.Name x px).pos.line = px.line := rfl
      simp only [List.filterMap_cons, List.filterMap_nil, d1, d2, d3', e1, e2]
      simp [d3']
      rw [if_neg (by
        rintro (hh | hh)
        · cases a <;> first | (simp at hh; done) | (simp [notStar] at s1; done)
        · cases b <;> first | (simp at hh; done) | (simp [notStar] at s2; done))]
      have q0 : px.line = (Expr.Name x px).pos.line := rfl
      simp only [if_pos q0]
      simp [List.eraseDups_cons, c4, Ne.symm c4]
    refine PS.imp (ps_par B.b.calm nd (by rw [B.b.N]; exact dec c1) (by rw [B.b.N]; exact dec c2) c3 (by rw [B.b.nm]; exact d1) (by rw [B.b.nm]; exact d2) pa hsw (by unfold swapsWithSole; exact noswap rfl)) fun D σ H ⟨g, S, e, s, r, q⟩ => ?_
    simp only [ex] at q
    refine ⟨g, S, e, s, r, (GoS.bind r q).imp fun g1 H1 vs ds S1 l1 s1 rds _ q1 => ?_⟩
    have rds : T.RDs g1 vs ds := rds
    simp only [evset] at q1
    by_cases hl : ds.length = 2
    · have hl' : (ds.length == [i, j].length) = true := by simp [hl]
      rw [if_pos hl'] at q1
      have hx : vs.length = 2 := by rw [rds.length]; exact hl
      match vs, ds, rds, hx, hl, q1 with
      | [v, w], [d, d'], .cons r1 (.cons r2 _), _, _, q1 =>
        exact ⟨v, w, rfl, GoS.nx q1 s1 (env_set j (env_set i (r.mono l1) r1) r2)⟩
    · have hl' : (ds.length == [i, j].length) = false := by simp [hl]
      rw [hl', if_neg (by simp)] at q1
      exact q1.elim
  · rename_i i j l x px y py z pz a b c
    obtain ⟨h1, h3⟩ := and2 h1
    obtain ⟨c1, h1⟩ := and2 h1
    obtain ⟨c2, h1⟩ := and2 h1
    obtain ⟨c2', h1⟩ := and2 h1
    obtain ⟨c3, c4⟩ := and2 h1
    obtain ⟨h3, h4⟩ := and2 h3
    obtain ⟨d1, h3⟩ := and2 h3
    obtain ⟨d2, h3⟩ := and2 h3
    obtain ⟨d4, h3⟩ := and2 h3
    obtain ⟨d3, d5⟩ := and2 h3
    obtain ⟨h4, h5⟩ := and2 h4
    obtain ⟨s1, h4⟩ := and2 h4
    obtain ⟨s2, s3⟩ := and2 h4
    obtain ⟨f1, f2⟩ := and2 h5
    obtain ⟨c3, c3', c3''⟩ := dec c3
    obtain ⟨c4, c4', c4''⟩ := dec c4
    have d1 := dec d1
    have d2 := dec d2
    have d4 := dec d4
    have d3' : py.line = px.line := by simpa using d3
    have d5' : pz.line = px.line := by simpa using d5
    have hst := ns_any (vs := [a, b, c]) (by simp [s1, s2, s3])
    have f1' : [a, b, c].all (foldedForSure 8) = false := (Bool.not_eq_true' _).mp f1
    have f2' : [a, b, c].all (constantsAlone 8) = false := (Bool.not_eq_true' _).mp f2
    have hsw : swappedStores [.Tuple [.Name x px, .Name y py, .Name z pz] kt pt] (.Tuple [a, b, c] k2 pt2) X.env = pure (some [x, y, z]) := by
      unfold swappedStores
      simp only [List.length_cons, List.length_nil, hb, hst, hk, d1, d2, d4, f1', f2']
      have e1 : (Expr.Name y py).pos.line = py.line := rfl
      have e2 : (Expr.Name x px).pos.line = px.line := rfl
      have e3 : (Expr.Name z pz).pos.line = pz.line := rfl
      simp only [List.filterMap_cons, List.filterMap_nil, d1, d2, d4, d3', d5', e1, e2, e3]
      simp [d3', d5']
      rw [if_neg (by
        rintro (hh | hh | hh)
        · cases a <;> first | (simp at hh; done) | (simp [notStar] at s1; done)
        · cases b <;> first | (simp at hh; done) | (simp [notStar] at s2; done)
        · cases c <;> first | (simp at hh; done) | (simp [notStar] at s3; done))]
      have q0 : px.line = (Expr.Name x px).pos.line := rfl
      simp only [if_pos q0]
      simp [List.eraseDups_cons, c4, Ne.symm c4, c4', Ne.symm c4', c4'', Ne.symm c4'']
    refine PS.imp (ps_par3 B.b.calm nd (by rw [B.b.N]; exact dec c1) (by rw [B.b.N]; exact dec c2) (by rw [B.b.N]; exact dec c2') c3 c3' c3'' (by rw [B.b.nm]; exact d1) (by rw [B.b.nm]; exact d2) (by rw [B.b.nm]; exact d4) pa hsw (by unfold swapsWithSole; exact noswap rfl)) fun D σ H ⟨g, S, e, s, r, q⟩ => ?_
    simp only [ex] at q
    refine ⟨g, S, e, s, r, (GoS.bind r q).imp fun g1 H1 vs ds S1 l1 s1 rds _ q1 => ?_⟩
    have rds : T.RDs g1 vs ds := rds
    simp only [evset] at q1
    by_cases hl : ds.length = 3
    · have hl' : (ds.length == [i, j, l].length) = true := by simp [hl]
      rw [if_pos hl'] at q1
      have hx : vs.length = 3 := by rw [rds.length]; exact hl
      match vs, ds, rds, hx, hl, q1 with
      | [v, w, u], [d, d', d''], .cons r1 (.cons r2 (.cons r3 _)), _, _, q1 =>
        exact ⟨v, w, u, rfl, GoS.nx q1 s1 (env_set l (env_set j (env_set i (r.mono l1) r1) r2) r3)⟩
    · have hl' : (ds.length == [i, j, l].length) = false := by simp [hl]
      rw [hl', if_neg (by simp)] at q1
      exact q1.elim
  · cases h1
theorem fm2 {f : Expr → Option Str} {t1 t2 : Expr} (h : f t1 = none ∨ f t2 = none) : ((List.filterMap f [t1, t2]).length != 2) = true := by
  simp only [List.filterMap_cons, List.filterMap_nil]
  rcases h with h | h
  · rw [h]; cases f t2 <;> simp
  · rw [h]; cases f t1 <;> simp
theorem fm3 {f : Expr → Option Str} {t1 t2 t3 : Expr} (h : f t1 = none ∨ f t2 = none ∨ f t3 = none) : ((List.filterMap f [t1, t2, t3]).length != 3) = true := by
  simp only [List.filterMap_cons, List.filterMap_nil]
  rcases h with h | h | h
  · rw [h]; cases f t2 <;> cases f t3 <;> simp
  · rw [h]; cases f t1 <;> cases f t3 <;> simp
  · rw [h]; cases f t1 <;> cases f t2 <;> simp
theorem parn_none {ts vs : List Expr} {kt k2 : Nat} {pt pt2 : Pos} (hk : ∀ x, X.env.kindOf x = ns.lookup x) (h : parn ns ts = true) : swappedStores [.Tuple ts kt pt] (.Tuple vs k2 pt2) X.env = pure none := by
  unfold parn at h
  unfold swappedStores
  split at h
  · rename_i x px y py
    simp only [hk]
    split
    · rfl
    · split
      · rfl
      · rw [if_pos]
        rw [Bool.or_eq_true]
        left
        refine fm2 ?_
        rcases (Bool.or_eq_true _ _).mp h with h | h
        · left
          have c' : (ns.lookup x == some NameKind.local) = false := by simpa using h
          simp only [c', Bool.false_and]; rfl
        · right
          have c' : (ns.lookup y == some NameKind.local) = false := by simpa using h
          simp only [c', Bool.false_and]; rfl
  · rename_i x px y py z pz
    simp only [hk]
    split
    · rfl
    · split
      · rfl
      · rw [if_pos]
        rw [Bool.or_eq_true]
        left
        refine fm3 ?_
        rcases (Bool.or_eq_true _ _).mp h with h | h
        · left
          have c' : (ns.lookup x == some NameKind.local) = false := by simpa using h
          simp only [c', Bool.false_and]; rfl
        · right
          rcases (Bool.or_eq_true _ _).mp h with h | h
          · left
            have c' : (ns.lookup y == some NameKind.local) = false := by simpa using h
            simp only [c', Bool.false_and]; rfl
          · right
            have c' : (ns.lookup z == some NameKind.local) = false := by simpa using h
            simp only [c', Bool.false_and]; rfl
  · cases h
theorem evs_len : ∀ {as : List E} {e : Ev} {S S' : Sto} {vs : List D}, evs C as e S = .ok vs S' → vs.length = as.length
  | [], e, S, S', vs, h => by simp only [evs] at h; cases h; rfl
  | a :: as, e, S, S', vs, h => by
    simp only [evs] at h
    cases h1 : ev C a e S with
    | no => rw [h1] at h; cases h
    | ex c S1 => rw [h1] at h; cases h
    | ok x S1 =>
      rw [h1] at h
      simp only [CT.R.bind] at h
      cases h2 : evs C as e S1 with
      | no => rw [h2] at h; cases h
      | ex c S2 => rw [h2] at h; cases h
      | ok xs S2 =>
        rw [h2] at h
        simp only [CT.R.bind] at h
        cases h
        simp [evs_len h2]
theorem parn_ok (B : Bs T C Y n ns X F W) {is : List Nat} {as : List E} {ts vs : List Expr} {kt k2 : Nat} {pt pt2 pos : Pos} (h0 : parn ns ts = true) (h1 : slotcs Y.N ns is ts = true) (h3 : as.length ≤ 3) (h2 : chks Y as ns vs = true) : PS X (.Assign [.Tuple ts kt pt] (.Tuple vs k2 pt2) pos) (tSI T W (ex C (.par is as))) := by
  have pg := tg_ok B.b B.fn (tg := .many is) (x := .Tuple ts kt pt) h1
  have pe : PE X (.Tuple vs k2 pt2) (tI T W (ev C (.tup as))) := (snd (.tup as) B.b (by unfold chk; exact h2)).e
  have hk : ∀ x, X.env.kindOf x = ns.lookup x := fun x => by show X.env.scope.names.lookup x = _; rw [B.b.nm]
  refine PS.imp (ss_set pe pg (by unfold swapsWithSole; exact noswap rfl) (parn_none hk h0) rfl) fun D σ H ⟨g, S, e, s, r, q⟩ => ⟨g, S, e, s, r, ?_⟩
  simp only [ex, ev] at q ⊢
  cases hv : evs C as e S with
  | no => rw [hv] at q; exact q.elim
  | ex c S1 => rw [hv] at q; exact q
  | ok ds S1 =>
    rw [hv] at q
    have hl := evs_len hv
    have hf : fits ds.length = true := by rw [hl]; unfold fits; exact Nat.ble_eq.mpr (by omega)
    simp only [CT.R.bind, RS.bind, hf, if_true] at q ⊢
    exact q
mutual
theorem sndS : ∀ (a : CT.S) {x : Stmt} {X : Cx} {W : WX}, Bs T C Y n ns X F W → chS Y ns a x = true → PS X x (tSI T W (ex C a))
  | .expr a, x, X, W, B, h => by
    unfold chS at h
    split at h
    · obtain ⟨h1, h2⟩ := and2 h
      exact ss_expr (snd a B.b h2).e (noswap h1)
    · cases h
  | .set tg a, x, X, W, B, h => by
    unfold chS at h
    split at h
    · obtain ⟨h1, h2⟩ := and2 h
      obtain ⟨h2, h3⟩ := and2 h2
      exact set_ok B h1 h2 h3
    · cases h
  | .sub o i a, x, X, W, B, h => by
    unfold chS at h
    split at h
    · obtain ⟨h1, h2⟩ := and2 h
      obtain ⟨h2, h3⟩ := and2 h2
      exact ss_sub B.b.u1 (snd o B.b h1).e (snd i B.b h2).e (snd a B.b h3).e (noswapT (by intro _ _ e; cases e))
    · cases h
  | .sbk o i a, x, X, W, B, h => by
    unfold chS at h
    split at h
    · obtain ⟨h1, h2⟩ := and2 h
      obtain ⟨h2, h3⟩ := and2 h2
      exact ss_sbk B.b.K B.b.nh B.b.u65 (snd o B.b h1).e (snd i B.b h2).e (snd a B.b h3).e (noswapT (by intro _ _ e; cases e))
    · cases h
  | .attr o f a, x, X, W, B, h => by
    unfold chS at h
    split at h
    · obtain ⟨h1, h2⟩ := and2 h
      obtain ⟨h1, h3⟩ := and2 h1
      obtain ⟨h2, h4⟩ := and2 h2
      have e := dec h1
      subst e
      have hf := B.b.x.flds f h3
      exact ss_attr (fun c => (hf c).1) (fun c => (hf c).2) (snd o B.b h2).e (snd a B.b h4).e (noswapT (by intro _ _ e; cases e))
    · cases h
  | .ret a, x, X, W, B, h => by
    unfold chS at h
    split at h
    · exact ss_ret (snd a B.b h).e
    · cases h
  | .ite c a b, x, X, W, B, h => by
    unfold chS at h
    split at h
    · obtain ⟨h1, h2⟩ := and2 h
      obtain ⟨h2, h3⟩ := and2 h2
      obtain ⟨h3, h4⟩ := and2 h3
      exact ss_if ((snd c B.b h2).t h1) (sndSs a B h3) (sndSs b B h4)
    · cases h
  | .for tg ik its b, x, X, W, B, h => by
    unfold chS at h
    split at h
    · obtain ⟨h1, h2⟩ := and2 h
      obtain ⟨h2, h3⟩ := and2 h2
      obtain ⟨h3, h4⟩ := and2 h3
      exact ss_for B.ow B.b.calm (sndI its B.b h3) (tg_ok B.b B.fn h1) (sndSs b B h4) (fold_no h2)
    · cases h
  | .while c b, x, X, W, B, h => by
    unfold chS at h
    split at h
    · obtain ⟨h1, h2⟩ := and2 h
      obtain ⟨h2, h3⟩ := and2 h2
      exact ss_while B.ow ((snd c B.b h2).t h1) (sndSs b B h3)
    · cases h
  | .cont, x, X, W, B, h => by
    unfold chS at h
    split at h
    · exact ss_cont
    · cases h
  | .pass, x, X, W, B, h => by
    unfold chS at h
    split at h
    · exact ss_pass
    · exact ss_doc
    · cases h
  | .par is as, x, X, W, B, h => by
    unfold chS at h
    split at h
    · obtain ⟨h1, h2⟩ := and2 h
      rcases (Bool.or_eq_true _ _).mp h1 with h1 | h1
      · exact par_ok B h1 h2
      · obtain ⟨h0, h1⟩ := and2 h1
        obtain ⟨h1, h3⟩ := and2 h1
        exact parn_ok B h0 h1 (dec h3) h2
    · cases h
  | .raise c, x, X, W, B, h => by
    unfold chS at h
    split at h
    · obtain ⟨h1, h2⟩ := and2 h
      obtain ⟨h2, h3⟩ := and2 h2
      obtain ⟨m1, m2, m3, m4, m5, _⟩ := B.xs _ _ (dec h2)
      exact ss_raise B.b.calm B.tks m2 m1 m3 (raises_own m4 m5) (B.b.gl h1) (pn h3).1
    · cases h
  | .try b c hd, x, X, W, B, h => by
    unfold chS at h
    split at h
    · obtain ⟨h0, h1⟩ := and2 h
      obtain ⟨h2, h3⟩ := and2 h0
      obtain ⟨h3, h4⟩ := and2 h3
      obtain ⟨h5, h6⟩ := and2 h1
      obtain ⟨m1, _, _, _, _, m6⟩ := B.xs _ _ (dec h3)
      refine ss_try B.hs B.hf ⟨B.b.gl h2, (pn h4).1, .inl m1⟩ B.tks m6 (fun W' pn' xe' tk' ow' => ?_) (fun a oe pn' => (hand_ok B h6 a oe pn').1) (hand_ok B h6 0 default []).2
      exact sndSs b (X := X.tr pn' xe') ⟨⟨B.b.K, B.b.calm, B.b.N, B.b.nd, B.b.nm, B.b.kd, (by have := takF_of tk'; rw [show (X.tr pn' xe').env.locals = F from B.hF] at this; exact this), B.b.fr, B.b.st, B.b.room, B.b.mgb, B.b.cst, B.b.fns, B.b.x, B.b.nh⟩, B.fn, ow', tk', B.hs, B.hf, B.hF, B.xs⟩ h5
    · cases h
theorem sndSs : ∀ (as : List CT.S) {xs : List Stmt} {X : Cx} {W : WX}, Bs T C Y n ns X F W → chSs Y ns as xs = true → PSs X xs (tSI T W (exs C as))
  | [], xs, X, W, B, h => by
    cases xs with
    | nil => exact sss_nil
    | cons _ _ => unfold chSs at h; cases h
  | a :: as, xs, X, W, B, h => by
    cases xs with
    | nil => unfold chSs at h; cases h
    | cons x xs =>
      unfold chSs at h
      obtain ⟨h1, h2⟩ := and2 h
      exact sss_cons (sndS a B h1) (sndSs as B h2)
end
end
end CT

end
section
set_option maxHeartbeats 4000000
/-! callturn proofs, part x: defs -/
namespace CT
open PySem PySem.Spec PyProof.Rows L2
/-! ### what a def laid in the store goes -/
section
variable {K : PySem.W.Frag} {cA : Nat → Addr} {nh : NestedKey → Int}
abbrev Gh.cut (g g' : Gh) : Gh := { g' with ρ := g.ρ }
theorem Gh.le.cut {g g' : Gh} (l : g.le g') : g.le (g.cut g') := ⟨⟨[], by simp⟩, l.Hf, l.fr⟩
mutual
theorem RD.cut {g g' : Gh} (l : g.le g') : ∀ {d : D} {v v0 : V}, RD K g' v d → RD K g v0 d → RD K (g.cut g') v d
  | .non, _, _, .non, _ => .non
  | .bl _, _, _, .bl b, _ => .bl b
  | .int _, _, _, .int i, _ => .int i
  | .str _, _, _, .str s, _ => .str s
  | .tup _, _, _, .tup q z r, .tup _ _ r0 => .tup q z (RDs.cut l r r0)
  | .lst _, _, _, .lst q z r, .lst _ _ r0 => .lst q z (RDs.cut l r r0)
  | .dct _ _, _, _, .dct q z r, .dct _ _ r0 => .dct q z (RDs.cut l r r0)
  | .loc _, _, _, .loc q, .loc q0 => by
    have e := l.at q0
    rw [q] at e
    cases e
    exact .loc q0
  | .scr _, _, _, .scr q, _ => .scr q
theorem RDs.cut {g g' : Gh} (l : g.le g') : ∀ {d : List D} {v v0 : List V}, RDs K g' v d → RDs K g v0 d → RDs K (g.cut g') v d
  | [], _, _, .nil, _ => .nil
  | _ :: _, _, _, .cons a b, .cons a0 b0 => .cons (RD.cut l a a0) (RDs.cut l b b0)
end
mutual
theorem RD.pureCut {g g' : Gh} : ∀ {d : D} {v : V}, RD K g' v d → D.pure d = true → RD K (g.cut g') v d
  | .non, _, .non, _ => .non
  | .bl _, _, .bl b, _ => .bl b
  | .int _, _, .int i, _ => .int i
  | .str _, _, .str s, _ => .str s
  | .tup _, _, .tup q z r, h => .tup q z (RDs.pureCut r (by simpa only [D.pure] using h))
  | .lst _, _, .lst q z r, h => .lst q z (RDs.pureCut r (by simpa only [D.pure] using h))
  | .dct _ _, _, .dct q z r, h => .dct q z (RDs.pureCut r (by simpa only [D.pure] using h))
  | .loc _, _, .loc q, h => by simp [D.pure] at h
  | .scr _, _, .scr q, _ => .scr q
theorem RDs.pureCut {g g' : Gh} : ∀ {d : List D} {v : List V}, RDs K g' v d → pures d = true → RDs K (g.cut g') v d
  | [], _, .nil, _ => .nil
  | _ :: _, _, .cons a b, h => by
    simp only [pures, Bool.and_eq_true] at h
    exact .cons (RD.pureCut a h.1) (RDs.pureCut b h.2)
end
theorem ObR.cut {g g' : Gh} (l : g.le g') {a : Addr} {o : Ob} {ho ho0 : HO} : ObR K cA nh g' a ho o → ObR K cA nh g a ho0 o → ObR K cA nh (g.cut g') a ho o
  | .lst z r, h0 => by cases h0 with | lst _ r0 => exact .lst z (RDs.cut l r r0)
  | .dct z r, h0 => by cases h0 with | dct _ r0 => exact .dct z (RDs.cut l r r0)
  | .ins z r, h0 => by cases h0 with | ins _ r0 => exact .ins z (RDs.cut l r r0)
  | .dcn (xs := xs) (ds := ds) z k v r, h0 => by
    have : ∃ v0, RDs K g v0 ds := by
      generalize xs.map (·.1) = ks at h0
      cases h0 with
      | dcn _ _ _ r0 => exact ⟨_, r0⟩
    obtain ⟨v0, r0⟩ := this
    exact .dcn z k v (RDs.cut l r r0)
theorem Sim.cut {g g' : Gh} {S S1 : Sto} {H H' : Hp} (s : Sim K cA nh g S H) (l : g.le g') (s' : Sim K cA nh g' S1 H') (e : S1.take S.length = S) : Sim K cA nh (g.cut g') S H' := by
  have up : ∀ a, a ∈ g.ρ → a ∈ g'.ρ := fun a ha => by
    obtain ⟨m, e⟩ := l.ρ
    rw [e]; exact List.mem_append_left _ ha
  refine ⟨s'.sub, fun a u z => ?_, s.len, s.nd, fun a ha => s'.ex a (up a ha), fun n a o e1 e2 e3 => ?_⟩
  · obtain ⟨h1, h2, h3⟩ := s'.frs a u z
    exact ⟨h1, h2, fun h => h3 (up a h)⟩
  · have hl : n < S.length := (List.getElem?_eq_some_iff.mp e2).1
    have e2' : S1[n]? = some o := by
      rw [← e, List.getElem?_take, if_pos hl] at e2
      exact e2
    obtain ⟨q1, ho, q2, q3⟩ := s'.obj n a o (l.at e1) e2' e3
    obtain ⟨_, ho0, _, q30⟩ := s.obj n a o e1 e2 e3
    exact ⟨q1, ho, q2, ObR.cut l q3 q30⟩
end
section
variable {T : Tb} {C : Cal} {Q : VK} {E₁ : XK}
theorem end_ok {own : Bool} {g : Gh} {S : Sto} {H : Hp} {r : RS} (s : T.Sim g S H) (q : GoR T T.RD (fun cls d _ H => E₁ cls d H) g [] (endOf own S r) fun _ H' v _ _ => Q v H') :
    GoS T (fun cls d _ H => E₁ cls d H) g { nx := fun _ H' => Q .non H', rt := Q } r := by
  have fin : ∀ {d : CT.D} {S1 : Sto}, GoR T T.RD (fun cls d _ H => E₁ cls d H) g [] (endOf.fin own S d S1) (fun _ H' v _ _ => Q v H') → ∀ g' H' v, g.le g' → T.Sim g' S1 H' → T.RD g' v d → Q v H' := fun {d S1} q g' H' v l s' rd => by
    cases own with
    | false =>
      simp only [endOf.fin, Bool.false_eq_true, if_false] at q
      exact q.to l s' rd
    | true =>
      simp only [endOf.fin, if_true] at q
      obtain ⟨hc, q2⟩ := ite_ok q
      obtain ⟨h1, h2⟩ := and2 hc
      exact q2.to l.cut (s.cut l s' (obeqs_eq h2)) (RD.pureCut rd h1)
  cases r with
  | no => exact q
  | nx e S1 => exact fun g' H' σ' l s' _ => fin (d := .non) q g' H' .non l s' .non
  | rt d S1 => exact fun g' H' v l s' rd => fin q g' H' v l s' rd
  | ct e S1 => exact q.elim
  | ex c e S1 =>
    intro g' H' σ' l s' _
    cases own with
    | false =>
      simp only [endOf, Bool.false_eq_true, if_false] at q
      exact q g' H' l s'
    | true =>
      simp only [endOf, if_true] at q
      cases hb : obeqs (S1.take S.length) S with
      | false => rw [hb] at q; exact q.elim
      | true =>
        rw [hb] at q
        exact q _ H' l.cut (s.cut l s' (obeqs_eq hb))
theorem start_ok {g : Gh} {N : List Str} {vs : List V} {ds : List CT.D} (r : T.RDs g vs ds) : T.EnvR g (L2.start N vs) (CT.start N.length ds) := by
  refine ⟨?_, fun i d h => ?_⟩
  · simp [L2.start, CT.start, r.length]
  · unfold CT.start at h
    by_cases hl : i < ds.length
    · rw [List.getElem?_append_left (by simpa using hl), List.getElem?_map] at h
      cases hd : ds[i]? with
      | none => rw [hd] at h; cases h
      | some d' =>
        rw [hd] at h
        simp only [Option.map_some, Option.some.injEq] at h
        subst h
        obtain ⟨v, hv, rv⟩ := r.get hd
        refine ⟨v, ?_, rv⟩
        unfold L2.start
        rw [List.getElem?_append_left (by rw [List.length_map, r.length]; exact hl), List.getElem?_map, hv]; rfl
    · rw [List.getElem?_append_right (by simpa using hl)] at h
      rw [List.getElem?_replicate] at h
      split at h <;> cases h
end
/-! ### all defs of a text -/
/-- a def of the text: its name, its row, its names by slot, its parameters -/
structure Dl where
  x : Str
  st : Stmt
  N : List Str
  ps : List Str
section
variable {T : Tb} {P : Prg} {wf : Nat} {prog : Program} {w : World} {mg : Str → Option Value} {base : Heap} {L : List (Nat × Dl)} {Y : List Str → Yx} {fA : Nat → Addr} {fD : Nat → FuncData}
structure Lnk (T : Tb) (P : Prg) (w : World) (mg : Str → Option Value) (L : List (Nat × Dl)) (Y : List Str → Yx) (fA : Nat → Addr) (fD : Nat → FuncData) : Prop where
  nh : T.nh = fun k => k.hash w
  kN : ∀ N, (Y N).N = N
  kb : ∀ N x, (Y N).mgn.contains x = true → mg x = none
  kc : ∀ N x d, (Y N).cst.lookup x = some d → ∃ v u, mg x = some u ∧ RelV v u ∧ ∀ g, T.RD g v d
  kf : ∀ N x i, (Y N).fns.lookup x = some i → mg x = some (.ref (fA i)) ∧ ∃ dl, L.lookup i = some dl
  dl : ∀ i dl, L.lookup i = some dl → (∃ nm ql, FunD T.K nm ql (defArgs dl.st) (defBody dl.st) (defScope dl.st) [] [] (fA i) (fD i)) ∧ Binds T.K (fD i) dl.ps [] ∧ FnScope dl.N dl.ps (defScope dl.st) ∧
    ∃ d, P.fn.lookup i = some d ∧ d.ps = dl.ps.length ∧ d.ns = dl.N.length ∧ chSs (Y dl.N) (defScope dl.st).names d.body (defBody dl.st) = true
  xk : ∀ N x c, (Y N).xs.lookup x = some c → mg x = some (.ref (T.eA c)) ∧ PySem.W.excIn T.K (T.eA c) bmVE "ValueError.__new__" = true ∧ PySem.W.keepIn T.K (.ref (T.eA c)) = true ∧
    PySem.W.subIn T.K (.ref (T.eA c)) (.type "BaseException") = some true ∧ PySem.W.typeIn T.K (.ref (T.eA c)) = some (.type "type") ∧ PySem.W.exmOne T.K (.ref (T.eA c)) (.ref (T.eA c)) = some true
  kd : ∀ N x ks ds, (Y N).cds.lookup x = some (ks, ds) → ∃ t es k, mg x = some (.ref t) ∧ KDict T.K w t es k ∧ ∀ z d, dget ks ds (.inr z) = some d → ∃ u v, PySem.W.nsIn T.K t z = some (some u) ∧ RelV v u ∧ ∀ g, T.RD g v d
  ka : ∀ N f, (Y N).flds.contains f = true → ∀ c, Cls T.K (T.cA c) ∧ NoAttr T.K (T.cA c) f
  km : ∀ N c m i, (Y N).mths.lookup (c, m) = some i → Cls T.K (T.cA c) ∧ Meth T.K (T.cA c) m (fA i) ∧ ∃ dl, L.lookup i = some dl
  kk : ∀ N x c, (Y N).mks.lookup x = some c → mg x = some (.ref (T.cA c)) ∧ PySem.W.keepIn T.K (.ref (T.cA c)) = true ∧ ∃ i dl, P.cl.lookup c = some i ∧ L.lookup i = some dl ∧ Mk T.K (T.cA c) (fA i)
theorem all_ok (k : Lnk T P w mg L Y fA fD) : ∀ n i dl, L.lookup i = some dl → FnF prog w T.K mg base n (fA i) (fD i) dl.ps (spF T (cal P wf n) i)
  | 0, i, dl, _ => by
    refine ⟨fun vs H Q E h => ?_, fun A outer s H args us vs Q E _ _ _ _ h => ?_⟩
    · obtain ⟨g, S, ds, _, _, q⟩ := h; exact q.elim
    · obtain ⟨g, S, ds, _, _, q⟩ := h; exact q.elim
  | n + 1, i, dl, hi => by
    have ih := all_ok k n
    obtain ⟨⟨nm, ql, F⟩, b, sc, d, hd, e1, e2, ch⟩ := k.dl i dl hi
    have run : ∀ {vs : List V} {H : Hp} {Q : VK} {E : XK}, spF T (cal P wf (n + 1)) i vs H Q E → ∃ g S ds, T.Sim g S H ∧ T.RDs g vs ds ∧ ds.length = dl.ps.length ∧ GoR T T.RD (fun cls d _ H => E cls d H) g [] (endOf d.own S (exs (cal P wf n) d.body (CT.start d.ns ds) S)) fun _ H' v _ _ => Q v H' := fun {vs H Q E} h => by
      obtain ⟨g, S, ds, s, r, q⟩ := h
      simp only [cal, hd] at q
      obtain ⟨hc, q2⟩ := ite_ok q
      exact ⟨g, S, ds, s, r, by rw [← e1]; simpa using hc, q2⟩
    refine fnF_of F sc (fun vs H Q E h => ?_) fun cdv A outer s H vs Q E hr h => ?_
    · obtain ⟨g, S, ds, _, r, hl, _⟩ := run h
      rw [r.length]; exact hl
    · obtain ⟨g, S, ds, sm, r, hl, q⟩ := run h
      refine ⟨tSI T (fun cls d _ H => E cls d H) (exs (cal P wf n) d.body), sndSs (F := s.heap.objs.size) d.body (ns := (defScope dl.st).names) (Y := Y dl.N) (n := n) ⟨⟨rfl, rfl, (k.kN _).symm, by rw [k.kN]; exact sc.nd, rfl, sc.kind, ?_, rfl, ⟨_, _, rfl, rfl⟩, hr, k.kb _, k.kc _, ?_, ⟨k.kd _, k.ka _, ?_, ?_⟩, k.nh⟩, fun _ => rfl, passes_of rfl, takes_of rfl rfl rfl rfl, rfl, rfl, rfl, k.xk _⟩ ch, g, S, CT.start d.ns ds, sm, ?_, end_ok sm q⟩
      · exact takF_of (takes_of rfl rfl rfl rfl)
      · intro x j hj
        obtain ⟨m1, dl', hj'⟩ := k.kf _ x j hj
        obtain ⟨⟨_, _, F'⟩, b', _⟩ := k.dl j dl' hj'
        exact ⟨fA j, fD j, dl'.ps, m1, F'.kp, b', ih j dl' hj'⟩
      · intro c m j hj
        obtain ⟨c1, c2, dl', hj'⟩ := k.km _ c m j hj
        obtain ⟨_, b', _⟩ := k.dl j dl' hj'
        exact ⟨fA j, fD j, dl'.ps, c1, c2, b', ih j dl' hj'⟩
      · intro x c hx
        obtain ⟨m1, m2, j, dl', hc, hj', M⟩ := k.kk _ x c hx
        obtain ⟨_, b', _⟩ := k.dl j dl' hj'
        refine ⟨m1, m2, ?_⟩
        cases n with
        | zero => exact .inl fun ds S => by simp [cal]
        | succ m => exact .inr ⟨fA j, fD j, dl'.ps, j, cal P wf m, m, rfl, fun ds S => by simp only [cal, hc]; rfl, M, b', all_ok k m j dl' hj'⟩
      · rw [e2]; exact start_ok r
end
end CT

end
section
set_option maxHeartbeats 4000000
/-! callturn proofs, part y: the head's facts, the law's call -/
namespace CT
open PySem PySem.Spec PyProof.Rows L2
/-! ### the module's constants, by the written part -/
mutual
def cvB (K : PySem.W.Frag) : D → Value → Bool
  | .non, u => match u with
    | .none => true
    | _ => false
  | .bl b, u => match u with
    | .bool c => b == c
    | _ => false
  | .int i, u => match u with
    | .int j _ => decide (i = j)
    | _ => false
  | .str s, u => match u with
    | .str z _ => decide (s = z)
    | _ => false
  | .tup ds, u => match u with
    | .ref a => match K.lookup a with
      | some ⟨.type c, none, .seq its _, _⟩ => decide (c = "tuple") && (decide (its.size ≤ sizeLine) && cvBs K ds its.toList)
      | _ => false
    | _ => false
  | _, _ => false
def cvBs (K : PySem.W.Frag) : List D → List Value → Bool
  | [], us => match us with
    | [] => true
    | _ => false
  | d :: ds, us => match us with
    | u :: us => cvB K d u && cvBs K ds us
    | _ => false
end
section
variable {K : PySem.W.Frag}
mutual
theorem cvB_ok : ∀ {d : D} {u : Value}, cvB K d u = true → ∃ v, RelV v u ∧ ∀ g, RD K g v d
  | .non, u, h => by
    cases u with
    | none => exact ⟨.non, rfl, fun _ => .non⟩
    | _ => unfold cvB at h; cases h
  | .bl b, u, h => by
    cases u with
    | bool c =>
      unfold cvB at h
      have e : b = c := by simpa using h
      subst e
      exact ⟨.bl b, rfl, fun _ => .bl b⟩
    | _ => unfold cvB at h; cases h
  | .int i, u, h => by
    cases u with
    | int j t =>
      unfold cvB at h
      have e := dec h
      subst e
      exact ⟨.int i, ⟨t, rfl⟩, fun _ => .int i⟩
    | _ => unfold cvB at h; cases h
  | .str z, u, h => by
    cases u with
    | str y t =>
      unfold cvB at h
      have e := dec h
      subst e
      exact ⟨.str z, ⟨t, rfl⟩, fun _ => .str z⟩
    | _ => unfold cvB at h; cases h
  | .tup ds, u, h => by
    cases u with
    | ref a =>
      unfold cvB at h
      simp only at h
      split at h
      · rename_i c its n osl hk
        obtain ⟨h1, h2⟩ := and2 h
        obtain ⟨h2, h3⟩ := and2 h2
        obtain ⟨vs, r1, r2⟩ := cvBs_ok h3
        refine ⟨.ref a, rfl, fun g => .tup ⟨.inr ⟨_, its, n, hk, congrArg Value.type (dec h1), rfl, dec h2, r1⟩, .inr ⟨_, hk, rfl⟩⟩ ?_ (r2 g)⟩
        rw [r1.length, Array.length_toList]; exact dec h2
      · cases h
    | _ => unfold cvB at h; cases h
  | .lst _, _, h => by unfold cvB at h; cases h
  | .dct _ _, _, h => by unfold cvB at h; cases h
  | .loc _, _, h => by unfold cvB at h; cases h
  | .scr _, _, h => by unfold cvB at h; cases h
theorem cvBs_ok : ∀ {ds : List D} {us : List Value}, cvBs K ds us = true → ∃ vs, Vals vs us ∧ ∀ g, RDs K g vs ds
  | [], us, h => by
    cases us with
    | nil => exact ⟨[], .nil, fun _ => .nil⟩
    | cons _ _ => unfold cvBs at h; cases h
  | d :: ds, us, h => by
    cases us with
    | nil => unfold cvBs at h; cases h
    | cons u us =>
      unfold cvBs at h
      obtain ⟨h1, h2⟩ := and2 h
      obtain ⟨v, r1, r2⟩ := cvB_ok h1
      obtain ⟨vs, q1, q2⟩ := cvBs_ok h2
      exact ⟨v :: vs, .cons r1 q1, fun g => .cons (r2 g) (q2 g)⟩
end
end
/-- constants stand as they should; names are free; defs stand at their names -/
def xcB (K : PySem.W.Frag) (x : Str) : Bool :=
  decide (PySem.W.nsIn K mainGlobals x = some (some (.ref (He.ga K x)))) && (PySem.W.excIn K (He.ga K x) bmVE "ValueError.__new__" && (PySem.W.keepIn K (.ref (He.ga K x)) && (decide (PySem.W.subIn K (.ref (He.ga K x)) (.type "BaseException") = some true) &&
    (decide (PySem.W.typeIn K (.ref (He.ga K x)) = some (.type "type")) && decide (PySem.W.exmOne K (.ref (He.ga K x)) (.ref (He.ga K x)) = some true)))))
def exB0 (cst : List (Str × D)) (free : List Str) (xs : List (Str × Nat)) (K : PySem.W.Frag) : Bool :=
  ((xs.all fun p => xcB K p.1) && cst.all fun p => match PySem.W.nsIn K mainGlobals p.1 with
    | some (some u) => cvB K p.2 u
    | _ => false) && free.all fun x => decide (PySem.W.nsIn K mainGlobals x = some none)
/-- a table of the module -/
def cdB (K : PySem.W.Frag) (p : Str × List Key × List D) : Bool :=
  decide (PySem.W.nsIn K mainGlobals p.1 = some (some (.ref (He.ga K p.1)))) && (p.2.1.zip p.2.2).all fun q => match q.1 with
    | .inr z => (match PySem.W.nsIn K (He.ga K p.1) z with
      | some (some u) => cvB K q.2 u
      | _ => false)
    | .inl _ => false
theorem dget_mem : ∀ {ks : List Key} {ds : List D} {k : Key} {d : D}, dget ks ds k = some d → (k, d) ∈ ks.zip ds
  | [], _, _, _, h => by simp [dget] at h
  | _ :: _, [], _, _, h => by simp [dget] at h
  | j :: ks, e :: ds, k, d, h => by
    simp only [dget] at h
    rw [List.zip_cons_cons]
    split at h
    · rename_i hj
      subst hj
      injection h with h
      subst h
      exact List.mem_cons_self ..
    · exact List.mem_cons_of_mem _ (dget_mem h)
theorem cdB_ok {K : PySem.W.Frag} {h : Heap} {mg : Str → Option Value} (KX : K.In h) (G : h.Ns mainGlobals mg) {x : Str} {ks : List Key} {ds : List D} (c : cdB K (x, ks, ds) = true) :
    mg x = some (.ref (He.ga K x)) ∧ ∀ z d, dget ks ds (.inr z) = some d → ∃ u v, PySem.W.nsIn K (He.ga K x) z = some (some u) ∧ RelV v u ∧ ∀ g, RD K g v d := by
  obtain ⟨h1, h2⟩ := and2 c
  refine ⟨PySem.W.mg_of KX G (dec h1), fun z d hz => ?_⟩
  have h3 := List.all_eq_true.mp h2 _ (dget_mem hz)
  simp only at h3
  split at h3
  · rename_i u hu
    obtain ⟨v, r1, r2⟩ := cvB_ok h3
    exact ⟨u, v, hu, r1, r2⟩
  · cases h3
theorem mem_lookG {α β : Type} [BEq α] [LawfulBEq α] {a : α} {b : β} : ∀ {l : List (α × β)}, l.lookup a = some b → (a, b) ∈ l
  | [], h => by simp at h
  | (c, d) :: r, h => by
    rw [List.lookup_cons] at h
    cases e : a == c with
    | true =>
      rw [e] at h
      have := eq_of_beq e
      subst this
      injection h with h
      subst h
      exact List.mem_cons_self ..
    | false =>
      rw [e] at h
      exact List.mem_cons_of_mem _ (mem_lookG h)
def exB (cst : List (Str × D)) (free : List Str) (xs : List (Str × Nat)) (cds : List (Str × List Key × List D)) (K : PySem.W.Frag) : Bool :=
  cds.all (cdB K) && exB0 cst free xs K
theorem cst_ok {K : PySem.W.Frag} {h : Heap} {mg : Str → Option Value} {cst : List (Str × D)} {free : List Str} {xs : List (Str × Nat)} (KX : K.In h) (G : h.Ns mainGlobals mg) (c : exB0 cst free xs K = true) (x : Str) (d : D) (e : cst.lookup x = some d) : ∃ v u, mg x = some u ∧ RelV v u ∧ ∀ g, RD K g v d := by
  have hm : (x, d) ∈ cst := PySem.mem_of_lookup e
  have h1 := List.all_eq_true.mp (and2 (and2 c).1).2 _ hm
  simp only at h1
  split at h1
  · rename_i u hu
    obtain ⟨v, r1, r2⟩ := cvB_ok h1
    exact ⟨v, u, PySem.W.mg_of KX G hu, r1, r2⟩
  · cases h1
theorem free_ok' {K : PySem.W.Frag} {h : Heap} {mg : Str → Option Value} {cst : List (Str × D)} {free : List Str} {xs : List (Str × Nat)} (KX : K.In h) (G : h.Ns mainGlobals mg) (c : exB0 cst free xs K = true) (x : Str) (e : free.contains x = true) : mg x = none :=
  PySem.W.mg_none_of KX G (dec (List.all_eq_true.mp (and2 c).2 x (by simpa using e)))
theorem xs_ok {K : PySem.W.Frag} {h : Heap} {mg : Str → Option Value} {cst : List (Str × D)} {free : List Str} {xs : List (Str × Nat)} (KX : K.In h) (G : h.Ns mainGlobals mg) (c : exB0 cst free xs K = true) {p : Str × Nat} (hp : p ∈ xs) :
    mg p.1 = some (.ref (He.ga K p.1)) ∧ PySem.W.excIn K (He.ga K p.1) bmVE "ValueError.__new__" = true ∧ PySem.W.keepIn K (.ref (He.ga K p.1)) = true ∧
    PySem.W.subIn K (.ref (He.ga K p.1)) (.type "BaseException") = some true ∧ PySem.W.typeIn K (.ref (He.ga K p.1)) = some (.type "type") ∧ PySem.W.exmOne K (.ref (He.ga K p.1)) (.ref (He.ga K p.1)) = some true := by
  have h1 := List.all_eq_true.mp (and2 (and2 c).1).1 _ hp
  unfold xcB at h1
  obtain ⟨a1, h1⟩ := and2 h1
  obtain ⟨a2, h1⟩ := and2 h1
  obtain ⟨a3, h1⟩ := and2 h1
  obtain ⟨a4, h1⟩ := and2 h1
  obtain ⟨a5, a6⟩ := and2 h1
  exact ⟨PySem.W.mg_of KX G (dec a1), a2, a3, dec a4, dec a5, dec a6⟩
/-! ### a def's scope -/
def scB (N ps : List Str) (sc : Scope) : Bool :=
  decide (sc.kind = .function) && ((!sc.isCoroutine && !sc.isGenerator) && (decide (N.take ps.length = ps) && (ps.all (fun x => decide (sc.names.lookup x = some .local) || decide (sc.names.lookup x = some .cell)) && sc.names.all (fun y => !decide (y.2 = .free)))))
theorem scB_ok {N ps : List Str} {sc : Scope} (nd : N.Nodup) (h : scB N ps sc = true) : FnScope N ps sc := by
  obtain ⟨h1, h⟩ := and2 h
  obtain ⟨h2, h⟩ := and2 h
  obtain ⟨h2, h3⟩ := and2 h2
  obtain ⟨h4, h⟩ := and2 h
  obtain ⟨h5, h6⟩ := and2 h
  refine ⟨dec h1, by simpa using h2, by simpa using h3, nd, dec h4, fun x hx => ?_, fun y hy => ?_⟩
  · simpa using List.all_eq_true.mp h5 x hx
  · simpa using List.all_eq_true.mp h6 y hy
/-! ### the law's call -/
theorem sp_law {T : Tb} {C : Cal} {i : Nat} (hl : ∀ ns : List Int, ns.length ≤ 63 → ∃ S', C.fn i [.scr ns] [] = .ok (.bl true) S') (H : Hp) (a : Addr) (ns : List Int) (h : ns.length ≤ 63) (hS : SqL T.K H a (ns.map V.int)) :
    spF T C i [.ref a] H (fun v _ => v = .bl true) fun _ _ _ => False := by
  obtain ⟨S', e⟩ := hl ns h
  refine ⟨⟨[], H, fun _ => none⟩, [], [.scr ns], ⟨fun _ _ q => q, fun _ _ q => (by cases q), rfl, List.nodup_nil, fun _ q => (by cases q), fun n _ _ q => (by simp at q)⟩, .cons (.scr hS) .nil, ?_⟩
  rw [e]
  intro g' H' v _ _ r
  cases r
  rfl
theorem walk_w {l : PySem.W.OpenLaw} {n k : Nat} {q : Program} {loose : List Str} {XP : (Str → Option Value) → Heap → Prop} {YP : World → Heap → Prop} {d : DefRec} {x : Str} (hn : l.most = some n) (hn2 : n ≤ sizeLine) (hdf : d.params.defaults = []) (hr : Room k callerA)
    (F : ∀ (w : World) (mg : Str → Option Value) (fa : Addr) (h : Heap), YP w h → h.Ns mainGlobals mg → mg d.name = some (.ref fa) → ∃ (K : PySem.W.Frag) (fd : FuncData) (sp : Sp), K.In h ∧ (∀ (s : Shared) (u : Value), BindsTo s fd ⟨[u], []⟩ [(x, u)]) ∧
      (∀ (H : Hp) (a : Addr) (ns : List Int), ns.length ≤ n → Only H → SqL K H a (ns.map V.int) → sp [.ref a] H (fun v _ => v = .bl true) fun _ _ _ => False) ∧ ∀ base : Heap, K.In base → base.Ns mainGlobals mg → FnOk l.prog w K mg base (L2.CX l.prog w) k fa fd [x] sp) :
    PySem.W.WalkO q loose XP YP l.row.toRowW d [] (fun f vs => PySem.call f vs) := by
  refine Att.attach_call hn hdf fun w s0 s1 mg mb fa o pm cd doc a vs ns G Y ho hd hcd hmg hobj hints hlen hg => ?_
  obtain ⟨K, fd, sp, KX, hb, hsp, hF⟩ := F w mg fa _ Y G.T.g hmg
  refine law_call KX G.T.g G.T.b G.T.builtins G.T.nolimit hg hobj hints (Nat.le_trans hlen hn2) hr hF hb (fun H hO hS => hsp H a ns hlen hO hS) fun H e s' h => ?_
  obtain ⟨_, _, _, _, _, _, _, _, _, _, _, _, z⟩ := h
  exact z
end CT

end
universe u
/-! callturn proofs, plain part: how a run of the small language is told -/
namespace CP
open PySem CT
/-- a mark that keeps a function from being looked into -/
abbrev Tag {α : Sort u} (_ : α) : Type := Unit
section
variable {α β : Type}
def _root_.CT.R.bnd (r : R α) (f : α → Sto → R β) (_ : Tag f := ()) : R β := r.bind f
def orNq (o : Option α) (f : α → R β) (_ : Tag f := ()) : R β := orNo o f
def orNqS (o : Option α) (f : α → RS) (_ : Tag f := ()) : RS := orNoS o f
def bndS (e : Ev) (r : R α) (f : α → Sto → RS) (_ : Tag f := ()) : RS := RS.bind e r f
def _root_.CT.RS.nxt (r : RS) (f : Ev → Sto → RS) (_ : Tag f := ()) : RS := r.next f
theorem r_ok (a : α) (S : Sto) (f : α → Sto → R β) (u : Tag f) : (R.ok a S).bnd f u = f a S := (rfl)
theorem r_ex (c : Nat) (S : Sto) (f : α → Sto → R β) (u : Tag f) : (R.ex c S : R α).bnd f u = .ex c S := (rfl)
theorem rr_ok (a : α) (S : Sto) (f : α → Sto → R β) : (R.ok a S).bind f = f a S := (rfl)
theorem rr_ex (c : Nat) (S : Sto) (f : α → Sto → R β) : (R.ex c S : R α).bind f = .ex c S := (rfl)
theorem oo_some (a : α) (f : α → R β) : orNo (some a) f = f a := (rfl)
theorem o_some (a : α) (f : α → R β) (u : Tag f) : orNq (some a) f u = f a := (rfl)
theorem os_some (a : α) (f : α → RS) (u : Tag f) : orNqS (some a) f u = f a := (rfl)
theorem rs_ok (e : Ev) (a : α) (S : Sto) (f : α → Sto → RS) (u : Tag f) : bndS e (R.ok a S) f u = f a S := (rfl)
theorem rs_ex (e : Ev) (c : Nat) (S : Sto) (f : α → Sto → RS) (u : Tag f) : bndS e (R.ex c S : R α) f u = .ex c e S := (rfl)
theorem nx_nx (e : Ev) (S : Sto) (f : Ev → Sto → RS) (u : Tag f) : (RS.nx e S).nxt f u = f e S := (rfl)
theorem nx_rt (d : D) (S : Sto) (f : Ev → Sto → RS) (u : Tag f) : (RS.rt d S).nxt f u = .rt d S := (rfl)
theorem nx_ct (e : Ev) (S : Sto) (f : Ev → Sto → RS) (u : Tag f) : (RS.ct e S).nxt f u = .ct e S := (rfl)
theorem nx_ex (c : Nat) (e : Ev) (S : Sto) (f : Ev → Sto → RS) (u : Tag f) : (RS.ex c e S).nxt f u = .ex c e S := (rfl)
end
def _root_.CT.RS.item (r : RS) (f : Ev → Sto → RS) (_ : Tag f := ()) : RS :=
  match r with
  | .nx e S => f e S
  | .ct e S => f e S
  | x => x
/-- a loop's body, as what is done with an item -/
def fbody (K : Cal) (tg : Tg) (b : List CT.S) : D → Ev → Sto → RS := fun d e S => RS.bind e (evset e tg d S) fun e S => exs K b e S
def wcond (K : Cal) (c : E) : Ev → Sto → R Bool := fun e S => (ev K c e S).bind fun x S => orNo (truth S x) fun t => .ok t S
def wbody (K : Cal) (b : List CT.S) : Ev → Sto → RS := fun e S => exs K b e S
theorem fb_ap (K : Cal) (tg : Tg) (b : List CT.S) (d : D) (e : Ev) (S : Sto) : fbody K tg b d e S = bndS e (evset e tg d S) fun e S => exs K b e S := (rfl)
theorem wc_ap (K : Cal) (c : E) (e : Ev) (S : Sto) : wcond K c e S = (ev K c e S).bnd fun x S => orNq (truth S x) fun t => .ok t S := (rfl)
theorem wb_ap (K : Cal) (b : List CT.S) (e : Ev) (S : Sto) : wbody K b e S = exs K b e S := (rfl)
theorem exq_for (K : Cal) {tg ik its b e S} : CT.ex K (.for tg ik its b) e S = bndS e (evs K its e S) fun ds S => bndS e (walk ik ds S) fun w S => forW (fbody K tg b) w K.wf e S := (rfl)
theorem exq_while (K : Cal) {c b e S} : CT.ex K (.while c b) e S = whl (wcond K c) (wbody K b) K.wf e S := (rfl)
def revD (x : D) (S : Sto) : R D :=
  match x with
  | .tup ds => .ok (.tup ds.reverse) S
  | x => orNo (asM S x) fun ds => .ok (.lst ds.reverse) S
theorem evq_rev (K : Cal) {a e S} : CT.ev K (.rev a) e S = (ev K a e S).bnd revD := (rfl)
theorem evq_comp (K : Cal) {m elt tg ik its cond own e S} : CT.ev K (.comp m elt tg ik its cond own) e S = (evs K its e S).bnd fun ds S => (walk ik ds S).bnd fun w S =>
    (compW (fun d S => (evset (wipe e own) tg d S).bind fun e S => (evAnd K cond e S).bind fun b S => orNo (truth S b) fun t =>
      if t = true then (ev K elt e S).bind fun x S => .ok [x] S else .ok [] S) w K.wf S).bnd fun xs S => if fits xs.length = true then mkL m xs S else .no := (rfl)
/-- what a comprehension does with an item -/
def cbody (K : Cal) (e : Ev) (elt : E) (tg : Tg) (cond : List E) (own : List Nat) : D → Sto → R (List D) := fun d S => (evset (wipe e own) tg d S).bind fun e S => (evAnd K cond e S).bind fun b S => orNo (truth S b) fun t =>
      if t = true then (ev K elt e S).bind fun x S => .ok [x] S else .ok [] S
theorem cb_ap (K : Cal) (e : Ev) (elt : E) (tg : Tg) (cond : List E) (own : List Nat) (d : D) (S : Sto) : cbody K e elt tg cond own d S = (evset (wipe e own) tg d S).bnd fun e S => (evAnd K cond e S).bnd fun b S => orNq (truth S b) fun t =>
      if t = true then (ev K elt e S).bnd fun x S => .ok [x] S else .ok [] S := (rfl)
theorem evq_compC (K : Cal) {m elt tg ik its cond own e S} : CT.ev K (.comp m elt tg ik its cond own) e S = (evs K its e S).bnd fun ds S => (walk ik ds S).bnd fun w S =>
    (compW (cbody K e elt tg cond own) w K.wf S).bnd fun xs S => if fits xs.length = true then mkL m xs S else .no := (rfl)
theorem rv_tup (ds : List D) (S : Sto) : revD (.tup ds) S = .ok (.tup ds.reverse) S := (rfl)
theorem rv_lst (ds : List D) (S : Sto) : revD (.lst ds) S = .ok (.lst ds.reverse) S := (rfl)
def _root_.CT.RS.cth (r : RS) (c : Nat) (f : Ev → Sto → RS) (_ : Tag f := ()) : RS := r.catch c f
theorem ct_nx (e : Ev) (S : Sto) (c : Nat) (f : Ev → Sto → RS) (u : Tag f) : (RS.nx e S).cth c f u = .nx e S := (rfl)
theorem ct_rt (d : D) (S : Sto) (c : Nat) (f : Ev → Sto → RS) (u : Tag f) : (RS.rt d S).cth c f u = .rt d S := (rfl)
theorem ct_ct (e : Ev) (S : Sto) (c : Nat) (f : Ev → Sto → RS) (u : Tag f) : (RS.ct e S).cth c f u = .ct e S := (rfl)
theorem ct_ex (e : Ev) (S : Sto) (c : Nat) (f : Ev → Sto → RS) (u : Tag f) : (RS.ex c e S).cth c f u = f e S := by
  show (if (c == c) = true then f e S else .no) = _
  simp
theorem end_rt (S0 : Sto) (d : D) (S : Sto) : endOf false S0 (.rt d S) = .ok d S := rfl
theorem end_nx (S0 : Sto) (e : Ev) (S : Sto) : endOf false S0 (.nx e S) = .ok .non S := rfl
theorem end_ex (S0 : Sto) (c : Nat) (e : Ev) (S : Sto) : endOf false S0 (.ex c e S) = .ex c S := rfl
theorem ofS_inj (a b : String) : (Str.ofString a = Str.ofString b) = (a = b) := by
  refine propext ⟨fun h => ?_, fun h => by rw [h]⟩
  rw [Str.ofString_eq_toList, Str.ofString_eq_toList] at h
  have h1 : a.toList.map Char.toNat = b.toList.map Char.toNat := by
    have := congrArg (fun s : Str => s.cps.toList) h
    simpa using this
  have h2 : a.toList = b.toList := by
    refine List.map_inj_right (f := Char.toNat) ?_ |>.mp h1
    intro x y e
    exact Char.ext (UInt32.toNat_inj.mp e)
  exact String.toList_inj.mp h2
theorem fits_le {n : Nat} (h : n ≤ 16777216) : fits n = true := by unfold fits; simpa using h
theorem fits_ok {n : Nat} (h : n ≤ 16777216) : (fits n = true) = True := by rw [fits_le h]; simp
theorem inOk_strs (a : Str) (ss : List Str) : inOk (.str a) (ss.map D.str) = true := by
  have : (ss.map D.str).all flat = true := by
    rw [List.all_map, List.all_eq_true]; intro _ _; rfl
  simp [inOk, flat, this]
theorem any_strs (a : Str) (ss : List Str) : ((ss.map D.str).any fun z => eqv z (.str a)) = ss.contains a := by
  induction ss with
  | nil => rfl
  | cons b r ih =>
    rw [List.map_cons, List.any_cons, ih, List.contains_cons]
    have : eqv (.str b) (.str a) = (a == b) := by
      show decide (b = a) = _
      by_cases h : b = a
      · subst h; simp
      · have : ¬ a = b := fun e => h e.symm
        simp [h, this]
    rw [this]
theorem boolsOf_map : ∀ bs : List Bool, boolsOf (bs.map D.bl) = some bs
  | [] => rfl
  | b :: r => by rw [List.map_cons, boolsOf, boolsOf_map r]; rfl
theorem intsOf_map : ∀ bs : List Int, intsOf (bs.map D.int) = some bs
  | [] => rfl
  | b :: r => by rw [List.map_cons, intsOf, intsOf_map r]; rfl
theorem strsOf_map : ∀ bs : List Str, strsOf (bs.map D.str) = some bs
  | [] => rfl
  | b :: r => by rw [List.map_cons, strsOf, strsOf_map r]; rfl
theorem at_nat {α : Type} (xs : List α) (n : Nat) : at_ xs (n : Int) = xs[n]? := by
  unfold at_ ixN
  rw [if_pos (Int.natCast_nonneg _)]
  by_cases h : n < xs.length
  · rw [if_pos (Int.ofNat_lt.mpr h)]; simp
  · rw [if_neg (fun e => h (Int.ofNat_lt.mp e))]
    rw [List.getElem?_eq_none (by omega)]; rfl
theorem at_succ {α : Type} (x : α) (xs : List α) (n : Nat) : at_ (x :: xs) ((n + 1 : Nat) : Int) = at_ xs (n : Int) := by
  rw [at_nat, at_nat]; rfl
theorem at_neg1 {α : Type} (xs : List α) : at_ xs (-1) = xs.getLast? := by
  cases xs with
  | nil => rfl
  | cons a r =>
    unfold at_ ixN
    rw [if_neg (by omega), if_pos (by simp; omega), Option.bind_some, List.getLast?_eq_getElem?]
    congr 1
    simp; omega
theorem walk_range (S : Sto) (n : Nat) (h : n ≤ 16777216) : walk .range1 [.int n] S = .ok (.row ((List.range n).map fun (i : Nat) => D.int i)) S := by
  have e : ((n : Int).toNat) = n := by simp
  have h2 : decide (-4611686018427387904 ≤ (n : Int)) = true := by simp
  simp [walk, fits_le h, h2]
/-- a row of things, each made by itself -/
theorem compRow_map {ι : Type} (t : ι → D) (g : ι → D) {f : D → Sto → R (List D)} {S : Sto} : ∀ {ps : List ι}, (∀ p ∈ ps, f (t p) S = .ok [g p] S) → compRow f (ps.map t) S = .ok (ps.map g) S
  | [], _ => rfl
  | p :: r, h => by
    rw [List.map_cons, compRow, h p (by simp), rr_ok, compRow_map t g (fun q hq => h q (by simp [hq])), rr_ok]; rfl
theorem compRow_pure (g : D → D) {f : D → Sto → R (List D)} {S : Sto} {ds : List D} (h : ∀ d ∈ ds, f d S = .ok [g d] S) : compRow f ds S = .ok (ds.map g) S := by
  have := compRow_map (fun d => d) g (f := f) (S := S) (ps := ds) h
  simpa using this
/-- a row of things that pass a test -/
theorem compRow_filter {ι : Type} (t : ι → D) (g : ι → D) (b : ι → Bool) {f : D → Sto → R (List D)} {S : Sto} : ∀ {ps : List ι}, (∀ p ∈ ps, f (t p) S = .ok (if b p then [g p] else []) S) → compRow f (ps.map t) S = .ok ((ps.filter b).map g) S
  | [], _ => rfl
  | p :: r, h => by
    rw [List.map_cons, compRow, h p (by simp), rr_ok, compRow_filter t g b (fun q hq => h q (by simp [hq])), rr_ok]
    cases hb : b p <;> simp [hb]
theorem forRow_cons (f : D → Ev → Sto → RS) (d : D) (r : List D) (e : Ev) (S : Sto) : forRow f (d :: r) e S = match f d e S with
    | .nx e S => forRow f r e S
    | .ct e S => forRow f r e S
    | x => x := rfl
theorem mem_lookN {α : Type} {i : Nat} {a : α} : ∀ {l : List (Nat × α)}, l.lookup i = some a → (i, a) ∈ l
  | [], h => by simp at h
  | (j, b) :: r, h => by
    rw [List.lookup_cons] at h
    by_cases e : i = j
    · subst e
      simp at h
      simp [h]
    · have e' : (i == j) = false := by simpa using e
      rw [e'] at h
      exact List.mem_cons_of_mem _ (mem_lookN h)
/-- a loop that ends early where a test fails -/
theorem forRow_chk {f : D → Ev → Sto → RS} {S : Sto} (E : Option D → Ev) (chk : D → Bool) {r : D} : ∀ {ds : List D}, (∀ d ∈ ds, ∀ x, f d (E x) S = if chk d = true then .nx (E (some d)) S else .rt r S) →
    ∀ x, ∃ x', forRow f ds (E x) S = if ds.all chk = true then .nx (E x') S else .rt r S
  | [], _, x => ⟨x, by simp [forRow]⟩
  | d :: ds, h, x => by
    obtain ⟨x', e⟩ := forRow_chk E chk (ds := ds) (fun d hd => h d (by simp [hd])) (some d)
    refine ⟨x', ?_⟩
    show (match f d (E x) S with | .nx e S => forRow f ds e S | .ct e S => forRow f ds e S | x => x) = _
    rw [h d (by simp) x]
    cases c : chk d
    · simp [c]
    · simp only [c, if_true, e, List.all_cons, Bool.true_and]
/-- a loop by what stays so -/
theorem forRow_inv {f : D → Ev → Sto → RS} (I : Nat → Ev → Sto → Prop) (N : Nat) : ∀ (ds : List D) (i : Nat) (e : Ev) (S : Sto), i + ds.length ≤ N → I i e S → (∀ j d e S, d ∈ ds → j < N → I j e S → ∃ e' S', f d e S = .nx e' S' ∧ I (j + 1) e' S') →
    ∃ e' S', forRow f ds e S = .nx e' S' ∧ I (i + ds.length) e' S'
  | [], i, e, S, _, h, _ => ⟨e, S, rfl, h⟩
  | d :: ds, i, e, S, hN, h, st => by
    simp only [List.length_cons] at hN
    obtain ⟨e1, S1, h1, h2⟩ := st i d e S (by simp) (by omega) h
    obtain ⟨e2, S2, h3, h4⟩ := forRow_inv I N ds (i + 1) e1 S1 (by omega) h2 fun j d e S hd => st j d e S (by simp [hd])
    refine ⟨e2, S2, ?_, ?_⟩
    · show (match f d e S with | .nx e S => forRow f ds e S | .ct e S => forRow f ds e S | x => x) = _
      rw [h1]; exact h3
    · rw [List.length_cons, Nat.add_comm ds.length 1, ← Nat.add_assoc]; exact h4
theorem compRow_map_of {ι : Type} (t : ι → D) (g : ι → D) {f : D → Sto → R (List D)} {S : Sto} {ps : List ι} {c : R (List D)} (hc : compRow f (ps.map t) S = c) (h : ∀ p ∈ ps, f (t p) S = .ok [g p] S) : c = .ok (ps.map g) S := by
  rw [← hc]; exact compRow_map t g h
theorem compRow_filter_of {ι : Type} (t : ι → D) (g : ι → D) (b : ι → Bool) {f : D → Sto → R (List D)} {S : Sto} {ps : List ι} {c : R (List D)} (hc : compRow f (ps.map t) S = c) (h : ∀ p ∈ ps, f (t p) S = .ok (if b p then [g p] else []) S) : c = .ok ((ps.filter b).map g) S := by
  rw [← hc]; exact compRow_filter t g b h

theorem ev_var (K : Cal) {i e S} : CT.ev K (.var i) e S = orNq (e[i]?.bind id) fun d => .ok d S := (rfl)
theorem ev_glo (K : Cal) {u1 d u2 S} : CT.ev K (.glo u1 d) u2 S = .ok d S := (rfl)
theorem ev_int (K : Cal) {i u3 S} : CT.ev K (.int i) u3 S = .ok (.int i) S := (rfl)
theorem ev_bl (K : Cal) {b u4 S} : CT.ev K (.bl b) u4 S = .ok (.bl b) S := (rfl)
theorem ev_non (K : Cal) {u5 S} : CT.ev K (.non) u5 S = .ok .non S := (rfl)
theorem ev_str (K : Cal) {s u6 S} : CT.ev K (.str s) u6 S = .ok (.str s) S := (rfl)
theorem ev_bin (K : Cal) {o m a b e S} : CT.ev K (.bin o m a b) e S = (ev K a e S).bnd fun x S => (ev K b e S).bnd fun y S => binop o m x y S := (rfl)
theorem ev_neg (K : Cal) {a e S} : CT.ev K (.neg a) e S = (ev K a e S).bnd fun x S => orNq x.int? fun i => .ok (.int (-i)) S := (rfl)
theorem ev_not (K : Cal) {a e S} : CT.ev K (.not a) e S = (ev K a e S).bnd fun x S => orNq (truth S x) fun b => .ok (.bl (!b)) S := (rfl)
theorem ev_and (K : Cal) {es e S} : CT.ev K (.and es) e S = evAnd K es e S := (rfl)
theorem ev_or (K : Cal) {es e S} : CT.ev K (.or es) e S = evOr K es e S := (rfl)
theorem ev_ite (K : Cal) {c a b e S} : CT.ev K (.ite c a b) e S = (ev K c e S).bnd fun x S => orNq (truth S x) fun t => if t = true then ev K a e S else ev K b e S := (rfl)
theorem ev_cmp (K : Cal) {o a b e S} : CT.ev K (.cmp o a b) e S = (ev K a e S).bnd fun x S => (ev K b e S).bnd fun y S => cmpop o x y S := (rfl)
theorem ev_chain (K : Cal) {o o' a b c e S} : CT.ev K (.chain o o' a b c) e S = (ev K a e S).bnd fun x S => (ev K b e S).bnd fun y S => (cmpop o x y S).bnd fun z S => orNq z.bl? fun t =>
    if t = true then (ev K c e S).bnd fun w S => cmpop o' y w S else .ok (.bl false) S := (rfl)
theorem ev_call (K : Cal) {f as e S} : CT.ev K (.call f as) e S = (evs K as e S).bnd fun vs S => K.fn f vs S := (rfl)
theorem ev_make (K : Cal) {c as e S} : CT.ev K (.make c as) e S = (evs K as e S).bnd fun vs S => K.mak c vs S := (rfl)
theorem ev_meth (K : Cal) {f c m a as e S} : CT.ev K (.meth f c m a as) e S = (ev K a e S).bnd fun x S => orNq (insAt S x) fun p => if (p.2.1 == c && !p.2.2.1.contains m) = true then (evs K as e S).bnd fun vs S => K.fn f (x :: vs) S else .no := (rfl)
theorem ev_isi (K : Cal) {a t e S} : CT.ev K (.isi a t) e S = (ev K a e S).bnd fun x S => orNq (isi S x t) fun b => .ok (.bl b) S := (rfl)
theorem ev_b1 (K : Cal) {b m a e S} : CT.ev K (.b1 b m a) e S = (ev K a e S).bnd fun x S => b1 b m x S := (rfl)
theorem ev_max2 (K : Cal) {a b e S} : CT.ev K (.max2 a b) e S = (ev K a e S).bnd fun x S => (ev K b e S).bnd fun y S => orNq x.int? fun i => orNq y.int? fun j => .ok (.int (if j > i then j else i)) S := (rfl)
theorem ev_min2 (K : Cal) {a b e S} : CT.ev K (.min2 a b) e S = (ev K a e S).bnd fun x S => (ev K b e S).bnd fun y S => orNq x.int? fun i => orNq y.int? fun j => .ok (.int (if j < i then j else i)) S := (rfl)
theorem ev_lenset (K : Cal) {a e S} : CT.ev K (.lenset a) e S = (ev K a e S).bnd fun x S => orNq (x.tup?.bind strsOf) fun ss => if decide (ss.length < 64) = true then .ok (.int ss.eraseDups.length) S else .no := (rfl)
theorem ev_sortset (K : Cal) {a e S} : CT.ev K (.sortset a) e S = (ev K a e S).bnd fun x S => orNq (x.tup?.bind strsOf) fun ss => if decide (ss.length < 4000 ∧ ss.eraseDups.length < 64) = true then .ok (.lst ((sortS ss.eraseDups).map D.str)) S else .no := (rfl)
theorem ev_dictzip (K : Cal) {m a b e S} : CT.ev K (.dictzip m a b) e S = (ev K a e S).bnd fun x S => (ev K b e S).bnd fun y S => orNq ((asQ S x).bind strsOf) fun xs => orNq (asQ S y) fun ys =>
    if decide (xs.length ≤ 1000 ∧ ys.length ≤ 1000) = true then mkD m (dmerge [] [] ((xs.map Sum.inr).take ys.length) (ys.take xs.length)).1 (dmerge [] [] ((xs.map Sum.inr).take ys.length) (ys.take xs.length)).2 S else .no := (rfl)
theorem ev_append (K : Cal) {a b e S} : CT.ev K (.append a b) e S = (ev K a e S).bnd fun x S => orNq (lstAt S x) fun _ => (ev K b e S).bnd fun y S => orNq (lstAt S x) fun p => if fits (p.2.length + 1) = true then .ok .non (S.set p.1 (.lst (p.2 ++ [y]))) else .no := (rfl)
theorem ev_extend (K : Cal) {a b e S} : CT.ev K (.extend a b) e S = (ev K a e S).bnd fun x S => orNq (lstAt S x) fun _ => (ev K b e S).bnd fun y S => orNq (lstAt S x) fun p => orNq (asMT S y) fun zs =>
    if fits (p.2.length + zs.length) = true then .ok .non (S.set p.1 (.lst (p.2 ++ zs))) else .no := (rfl)
theorem ev_pop (K : Cal) {a e S} : CT.ev K (.pop a) e S = (ev K a e S).bnd fun x S => orNq (lstAt S x) fun p => orNq p.2.getLast? fun y => .ok y (S.set p.1 (.lst p.2.dropLast)) := (rfl)
theorem ev_get1 (K : Cal) {a b e S} : CT.ev K (.get1 a b) e S = (ev K a e S).bnd fun x S => orNq (asD S x) fun _ => (ev K b e S).bnd fun y S => orNq (asD S x) fun p => orNq (keyOf y) fun k => .ok ((dget p.1 p.2 k).getD .non) S := (rfl)
theorem ev_get2 (K : Cal) {a b c e S} : CT.ev K (.get2 a b c) e S = (ev K a e S).bnd fun x S => orNq (asD S x) fun _ => (ev K b e S).bnd fun y S => (ev K c e S).bnd fun z S => orNq (asD S x) fun p => orNq (keyOf y) fun k => .ok ((dget p.1 p.2 k).getD z) S := (rfl)
theorem ev_join (K : Cal) {a b e S} : CT.ev K (.join a b) e S = (ev K a e S).bnd fun x S => orNq x.str? fun a => (ev K b e S).bnd fun y S => orNq ((asM S y).bind strsOf) fun ys =>
    if fits ((ys.map (·.length)).sum + ys.length * a.length) = true then .ok (.str (PySem.Txt.join a ys)) S else .no := (rfl)
theorem ev_split (K : Cal) {a b e S} : CT.ev K (.split a b) e S = (ev K a e S).bnd fun x S => orNq x.str? fun a => (ev K b e S).bnd fun y S => orNq y.str? fun b =>
    if (!(b.length == 0) && fits (a.length + 2)) = true then .ok (.lst ((PySem.Txt.split a b).map D.str)) S else .no := (rfl)
theorem ev_index (K : Cal) {a b e S} : CT.ev K (.index a b) e S = (ev K a e S).bnd fun x S => orNq (asL S x) fun _ => (ev K b e S).bnd fun y S => orNq ((asL S x).bind strsOf) fun ss => orNq y.str? fun z =>
    if ss.contains z = true then .ok (.int (ss.idxOf z)) S else .no := (rfl)
theorem ev_count (K : Cal) {a b e S} : CT.ev K (.count a b) e S = (ev K a e S).bnd fun x S => orNq (asL S x) fun _ => (ev K b e S).bnd fun y S => orNq (asL S x) fun ds => if (flat y && ds.all flat) = true then .ok (.int (ds.countP fun z => eqv z y)) S else .no := (rfl)
theorem ev_update (K : Cal) {a b e S} : CT.ev K (.update a b) e S = (ev K a e S).bnd fun x S => orNq (dctAt S x) fun _ => (ev K b e S).bnd fun y S => orNq (dctAt S x) fun p => orNq y.dct? fun q =>
    if fits (p.2.1.length + q.1.length) = true then .ok .non (S.set p.1 (.dct (dmerge p.2.1 p.2.2 q.1 q.2).1 (dmerge p.2.1 p.2.2 q.1 q.2).2)) else .no := (rfl)
theorem ev_gsub (K : Cal) {ks ds b e S} : CT.ev K (.gsub ks ds b) e S = (ev K b e S).bnd fun y S => orNq y.str? fun s => orNq (dget ks ds (.inr s)) fun d => .ok d S := (rfl)
theorem ev_pop0 (K : Cal) {a e S} : CT.ev K (.pop0 a) e S = (ev K a e S).bnd fun x S => orNq (lstAt S x) fun p => orNq p.2.head? fun y => .ok y (S.set p.1 (.lst p.2.tail)) := (rfl)
theorem ev_attr (K : Cal) {a f e S} : CT.ev K (.attr a f) e S = (ev K a e S).bnd fun x S => orNq (insAt S x) fun p => orNq (fdget p.2.2.1 p.2.2.2 f) fun d => .ok d S := (rfl)
theorem ev_sub (K : Cal) {a b e S} : CT.ev K (.sub a b) e S = (ev K a e S).bnd fun x S => (ev K b e S).bnd fun y S => subs x y S := (rfl)
theorem ev_sl (K : Cal) {a lo hi e S} : CT.ev K (.sl a lo hi) e S = (ev K a e S).bnd fun x S => (evs K lo e S).bnd fun l S => orNq (part l) fun i => (evs K hi e S).bnd fun h S => orNq (part h) fun j => slice x i j S := (rfl)
theorem ev_slm (K : Cal) {a lo hi e S} : CT.ev K (.slm a lo hi) e S = (ev K a e S).bnd fun x S => (evs K lo e S).bnd fun l S => orNq (part l) fun i => (evs K hi e S).bnd fun h S => orNq (part h) fun j => sliceM x i j S := (rfl)
theorem ev_rev (K : Cal) {a e S} : CT.ev K (.rev a) e S = (ev K a e S).bnd fun x S => match x with
    | .tup ds => .ok (.tup ds.reverse) S
    | x => orNq (asM S x) fun ds => .ok (.lst ds.reverse) S := (rfl)
theorem ev_tup (K : Cal) {es e S} : CT.ev K (.tup es) e S = (evs K es e S).bnd fun vs S => if fits vs.length = true then .ok (.tup vs) S else .no := (rfl)
theorem ev_lst (K : Cal) {m es e S} : CT.ev K (.lst m es) e S = (evs K es e S).bnd fun vs S => if fits vs.length = true then mkL m vs S else .no := (rfl)
theorem ev_dct (K : Cal) {m kvs e S} : CT.ev K (.dct m kvs) e S = (evPairs K kvs e S).bnd fun p S => if decide (p.1.length ≤ 15) = true then let r := dmerge [] [] p.1 p.2; mkD m r.1 r.2 S else .no := (rfl)
theorem ev_comp (K : Cal) {m elt tg ik its cond own e S} : CT.ev K (.comp m elt tg ik its cond own) e S = (evs K its e S).bnd fun ds S => (walk ik ds S).bnd fun w S =>
    (compW (fun d S => (evset (wipe e own) tg d S).bnd fun e S => (evAnd K cond e S).bnd fun b S => orNq (truth S b) fun t =>
      if t = true then (ev K elt e S).bnd fun x S => .ok [x] S else .ok [] S) w K.wf S).bnd fun xs S => if fits xs.length = true then mkL m xs S else .no := (rfl)
theorem ev_fstr (K : Cal) {es e S} : CT.ev K (.fstr es) e S = (evFs K es Str.empty e S).bnd fun s S => .ok (.str s) S := (rfl)
theorem ev_frz (K : Cal) {a e S} : CT.ev K (.frz a) e S = (ev K a e S).bnd fun x S => strip1 S x := (rfl)
theorem ev_ink (K : Cal) {a b e S} : CT.ev K (.ink a b) e S = (ev K a e S).bnd fun x S => (ev K b e S).bnd fun y S => inK x y S := (rfl)
theorem ev_sbk (K : Cal) {a b e S} : CT.ev K (.sbk a b) e S = (ev K a e S).bnd fun x S => (ev K b e S).bnd fun y S => sbK x y S := (rfl)
theorem ev_tidx (K : Cal) {a b e S} : CT.ev K (.tidx a b) e S = (ev K a e S).bnd fun x S => orNq x.tup? fun _ => (ev K b e S).bnd fun y S => orNq (x.tup?.bind strsOf) fun ss => orNq y.str? fun z =>
    if ss.contains z = true then .ok (.int (ss.idxOf z)) S else .no := (rfl)
theorem ev_dpk (K : Cal) {a e S} : CT.ev K (.dpk a) e S = (ev K a e S).bnd fun x S => orNq ((asM S x).bind nprs) fun p => .ok (.loc S.length) (S ++ [.dcn (dmergeN [] [] p.1 p.2).1 (dmergeN [] [] p.1 p.2).2]) := (rfl)
theorem evs_0 (K : Cal) {u7 S} : CT.evs K [] u7 S = .ok [] S := (rfl)
theorem evs_1 (K : Cal) {a r e S} : CT.evs K (a :: r) e S = (ev K a e S).bnd fun x S => (evs K r e S).bnd fun xs S => .ok (x :: xs) S := (rfl)
theorem evA_0 (K : Cal) {u8 S} : CT.evAnd K [] u8 S = .ok (.bl true) S := (rfl)
theorem evA_1 (K : Cal) {a e S} : CT.evAnd K [a] e S = ev K a e S := (rfl)
theorem evA_2 (K : Cal) {a b r e S} : CT.evAnd K (a :: b :: r) e S = (ev K a e S).bnd fun x S => orNq (truth S x) fun t => if t = true then evAnd K (b :: r) e S else .ok x S := (rfl)
theorem evO_0 (K : Cal) {u9 S} : CT.evOr K [] u9 S = .ok (.bl false) S := (rfl)
theorem evO_1 (K : Cal) {a e S} : CT.evOr K [a] e S = ev K a e S := (rfl)
theorem evO_2 (K : Cal) {a b r e S} : CT.evOr K (a :: b :: r) e S = (ev K a e S).bnd fun x S => orNq (truth S x) fun t => if t = true then .ok x S else evOr K (b :: r) e S := (rfl)
theorem evP_0 (K : Cal) {u10 S} : CT.evPairs K [] u10 S = .ok ([], []) S := (rfl)
theorem evP_1 (K : Cal) {u11 u12 u13} : CT.evPairs K [u11] u12 u13 = .no := (rfl)
theorem evP_2 (K : Cal) {a b r e S} : CT.evPairs K (a :: b :: r) e S = (ev K a e S).bnd fun x S => (ev K b e S).bnd fun y S => (evPairs K r e S).bnd fun p S => orNq (keyOf x) fun k => .ok (k :: p.1, y :: p.2) S := (rfl)
theorem evF_0 (K : Cal) {acc u14 S} : CT.evFs K [] acc u14 S = .ok acc S := (rfl)
theorem evF_1 (K : Cal) {a r acc e S} : CT.evFs K (a :: r) acc e S = (ev K a e S).bnd fun x S => orNq (textOf x) fun y => if fits (acc.length + y.length) = true then evFs K r (acc ++ y) e S else .no := (rfl)
theorem ex_expr (K : Cal) {a e S} : CT.ex K (.expr a) e S = bndS e (ev K a e S) fun _ S => .nx e S := (rfl)
theorem ex_set (K : Cal) {tg a e S} : CT.ex K (.set tg a) e S = bndS e (ev K a e S) fun d S => bndS e (evset e tg d S) fun e S => .nx e S := (rfl)
theorem ex_par (K : Cal) {is as e S} : CT.ex K (.par is as) e S = bndS e (evs K as e S) fun ds S => bndS e (evset e (.many is) (.tup ds) S) fun e S => .nx e S := (rfl)
theorem ex_attr (K : Cal) {o f a e S} : CT.ex K (.attr o f a) e S = bndS e (ev K a e S) fun d S => bndS e (ev K o e S) fun x S => orNqS (insAt S x) fun p =>
    if decide (p.2.2.1.length < 1000) = true then .nx e (S.set p.1 (.ins p.2.1 (fdput p.2.2.1 p.2.2.2 f d).1 (fdput p.2.2.1 p.2.2.2 f d).2)) else .no := (rfl)
theorem ex_sub (K : Cal) {o i a e S} : CT.ex K (.sub o i a) e S = bndS e (ev K a e S) fun d S => bndS e (ev K o e S) fun x S => bndS e (ev K i e S) fun y S => setSub x y d e S := (rfl)
theorem ex_sbk (K : Cal) {o i a e S} : CT.ex K (.sbk o i a) e S = bndS e (ev K a e S) fun d S => bndS e (ev K o e S) fun x S => bndS e (ev K i e S) fun y S => setSubK x y d e S := (rfl)
theorem ex_ret (K : Cal) {a e S} : CT.ex K (.ret a) e S = bndS e (ev K a e S) fun d S => .rt d S := (rfl)
theorem ex_ite (K : Cal) {c a b e S} : CT.ex K (.ite c a b) e S = bndS e (ev K c e S) fun x S => orNqS (truth S x) fun t => if t = true then exs K a e S else exs K b e S := (rfl)
theorem ex_for (K : Cal) {tg ik its b e S} : CT.ex K (.for tg ik its b) e S = bndS e (evs K its e S) fun ds S => bndS e (walk ik ds S) fun w S =>
    forW (fun d e S => bndS e (evset e tg d S) fun e S => exs K b e S) w K.wf e S := (rfl)
theorem ex_while (K : Cal) {c b e S} : CT.ex K (.while c b) e S = whl (fun e S => (ev K c e S).bnd fun x S => orNq (truth S x) fun t => .ok t S) (fun e S => exs K b e S) K.wf e S := (rfl)
theorem ex_raise (K : Cal) {c e S} : CT.ex K (.raise c) e S = .ex c e S := (rfl)
theorem ex_try (K : Cal) {b c h e S} : CT.ex K (.try b c h) e S = (exs K b e S).cth c fun e S => exs K h e S := (rfl)
theorem ex_cont (K : Cal) {e S} : CT.ex K (.cont) e S = .ct e S := (rfl)
theorem ex_pass (K : Cal) {e S} : CT.ex K (.pass) e S = .nx e S := (rfl)
theorem exs_0 (K : Cal) {e S} : CT.exs K [] e S = .nx e S := (rfl)
theorem exs_1 (K : Cal) {s r e S} : CT.exs K (s :: r) e S = (ex K s e S).nxt fun e S => exs K r e S := (rfl)
theorem ev_v0 (K : Cal) {d : D} {e : Ev} {S : Sto} : CT.ev K (.var 0) (some d :: e) S = .ok d S := (rfl)
theorem ev_v1 (K : Cal) {x0 : Option D} {d : D} {e : Ev} {S : Sto} : CT.ev K (.var 1) (x0 :: some d :: e) S = .ok d S := (rfl)
theorem ev_v2 (K : Cal) {x0 x1 : Option D} {d : D} {e : Ev} {S : Sto} : CT.ev K (.var 2) (x0 :: x1 :: some d :: e) S = .ok d S := (rfl)
theorem ev_v3 (K : Cal) {x0 x1 x2 : Option D} {d : D} {e : Ev} {S : Sto} : CT.ev K (.var 3) (x0 :: x1 :: x2 :: some d :: e) S = .ok d S := (rfl)
theorem ev_v4 (K : Cal) {x0 x1 x2 x3 : Option D} {d : D} {e : Ev} {S : Sto} : CT.ev K (.var 4) (x0 :: x1 :: x2 :: x3 :: some d :: e) S = .ok d S := (rfl)
theorem ev_v5 (K : Cal) {x0 x1 x2 x3 x4 : Option D} {d : D} {e : Ev} {S : Sto} : CT.ev K (.var 5) (x0 :: x1 :: x2 :: x3 :: x4 :: some d :: e) S = .ok d S := (rfl)
theorem ev_v6 (K : Cal) {x0 x1 x2 x3 x4 x5 : Option D} {d : D} {e : Ev} {S : Sto} : CT.ev K (.var 6) (x0 :: x1 :: x2 :: x3 :: x4 :: x5 :: some d :: e) S = .ok d S := (rfl)
theorem ev_v7 (K : Cal) {x0 x1 x2 x3 x4 x5 x6 : Option D} {d : D} {e : Ev} {S : Sto} : CT.ev K (.var 7) (x0 :: x1 :: x2 :: x3 :: x4 :: x5 :: x6 :: some d :: e) S = .ok d S := (rfl)
theorem ev_v8 (K : Cal) {x0 x1 x2 x3 x4 x5 x6 x7 : Option D} {d : D} {e : Ev} {S : Sto} : CT.ev K (.var 8) (x0 :: x1 :: x2 :: x3 :: x4 :: x5 :: x6 :: x7 :: some d :: e) S = .ok d S := (rfl)
theorem ev_v9 (K : Cal) {x0 x1 x2 x3 x4 x5 x6 x7 x8 : Option D} {d : D} {e : Ev} {S : Sto} : CT.ev K (.var 9) (x0 :: x1 :: x2 :: x3 :: x4 :: x5 :: x6 :: x7 :: x8 :: some d :: e) S = .ok d S := (rfl)
theorem ev_v10 (K : Cal) {x0 x1 x2 x3 x4 x5 x6 x7 x8 x9 : Option D} {d : D} {e : Ev} {S : Sto} : CT.ev K (.var 10) (x0 :: x1 :: x2 :: x3 :: x4 :: x5 :: x6 :: x7 :: x8 :: x9 :: some d :: e) S = .ok d S := (rfl)
theorem ev_v11 (K : Cal) {x0 x1 x2 x3 x4 x5 x6 x7 x8 x9 x10 : Option D} {d : D} {e : Ev} {S : Sto} : CT.ev K (.var 11) (x0 :: x1 :: x2 :: x3 :: x4 :: x5 :: x6 :: x7 :: x8 :: x9 :: x10 :: some d :: e) S = .ok d S := (rfl)
theorem ev_v12 (K : Cal) {x0 x1 x2 x3 x4 x5 x6 x7 x8 x9 x10 x11 : Option D} {d : D} {e : Ev} {S : Sto} : CT.ev K (.var 12) (x0 :: x1 :: x2 :: x3 :: x4 :: x5 :: x6 :: x7 :: x8 :: x9 :: x10 :: x11 :: some d :: e) S = .ok d S := (rfl)
theorem ev_v13 (K : Cal) {x0 x1 x2 x3 x4 x5 x6 x7 x8 x9 x10 x11 x12 : Option D} {d : D} {e : Ev} {S : Sto} : CT.ev K (.var 13) (x0 :: x1 :: x2 :: x3 :: x4 :: x5 :: x6 :: x7 :: x8 :: x9 :: x10 :: x11 :: x12 :: some d :: e) S = .ok d S := (rfl)
theorem ev_v14 (K : Cal) {x0 x1 x2 x3 x4 x5 x6 x7 x8 x9 x10 x11 x12 x13 : Option D} {d : D} {e : Ev} {S : Sto} : CT.ev K (.var 14) (x0 :: x1 :: x2 :: x3 :: x4 :: x5 :: x6 :: x7 :: x8 :: x9 :: x10 :: x11 :: x12 :: x13 :: some d :: e) S = .ok d S := (rfl)
theorem ev_v15 (K : Cal) {x0 x1 x2 x3 x4 x5 x6 x7 x8 x9 x10 x11 x12 x13 x14 : Option D} {d : D} {e : Ev} {S : Sto} : CT.ev K (.var 15) (x0 :: x1 :: x2 :: x3 :: x4 :: x5 :: x6 :: x7 :: x8 :: x9 :: x10 :: x11 :: x12 :: x13 :: x14 :: some d :: e) S = .ok d S := (rfl)
theorem ev_v16 (K : Cal) {x0 x1 x2 x3 x4 x5 x6 x7 x8 x9 x10 x11 x12 x13 x14 x15 : Option D} {d : D} {e : Ev} {S : Sto} : CT.ev K (.var 16) (x0 :: x1 :: x2 :: x3 :: x4 :: x5 :: x6 :: x7 :: x8 :: x9 :: x10 :: x11 :: x12 :: x13 :: x14 :: x15 :: some d :: e) S = .ok d S := (rfl)
theorem ev_v17 (K : Cal) {x0 x1 x2 x3 x4 x5 x6 x7 x8 x9 x10 x11 x12 x13 x14 x15 x16 : Option D} {d : D} {e : Ev} {S : Sto} : CT.ev K (.var 17) (x0 :: x1 :: x2 :: x3 :: x4 :: x5 :: x6 :: x7 :: x8 :: x9 :: x10 :: x11 :: x12 :: x13 :: x14 :: x15 :: x16 :: some d :: e) S = .ok d S := (rfl)
theorem ev_v18 (K : Cal) {x0 x1 x2 x3 x4 x5 x6 x7 x8 x9 x10 x11 x12 x13 x14 x15 x16 x17 : Option D} {d : D} {e : Ev} {S : Sto} : CT.ev K (.var 18) (x0 :: x1 :: x2 :: x3 :: x4 :: x5 :: x6 :: x7 :: x8 :: x9 :: x10 :: x11 :: x12 :: x13 :: x14 :: x15 :: x16 :: x17 :: some d :: e) S = .ok d S := (rfl)
theorem ev_v19 (K : Cal) {x0 x1 x2 x3 x4 x5 x6 x7 x8 x9 x10 x11 x12 x13 x14 x15 x16 x17 x18 : Option D} {d : D} {e : Ev} {S : Sto} : CT.ev K (.var 19) (x0 :: x1 :: x2 :: x3 :: x4 :: x5 :: x6 :: x7 :: x8 :: x9 :: x10 :: x11 :: x12 :: x13 :: x14 :: x15 :: x16 :: x17 :: x18 :: some d :: e) S = .ok d S := (rfl)
theorem ev_v20 (K : Cal) {x0 x1 x2 x3 x4 x5 x6 x7 x8 x9 x10 x11 x12 x13 x14 x15 x16 x17 x18 x19 : Option D} {d : D} {e : Ev} {S : Sto} : CT.ev K (.var 20) (x0 :: x1 :: x2 :: x3 :: x4 :: x5 :: x6 :: x7 :: x8 :: x9 :: x10 :: x11 :: x12 :: x13 :: x14 :: x15 :: x16 :: x17 :: x18 :: x19 :: some d :: e) S = .ok d S := (rfl)
theorem ev_v21 (K : Cal) {x0 x1 x2 x3 x4 x5 x6 x7 x8 x9 x10 x11 x12 x13 x14 x15 x16 x17 x18 x19 x20 : Option D} {d : D} {e : Ev} {S : Sto} : CT.ev K (.var 21) (x0 :: x1 :: x2 :: x3 :: x4 :: x5 :: x6 :: x7 :: x8 :: x9 :: x10 :: x11 :: x12 :: x13 :: x14 :: x15 :: x16 :: x17 :: x18 :: x19 :: x20 :: some d :: e) S = .ok d S := (rfl)
theorem ev_v22 (K : Cal) {x0 x1 x2 x3 x4 x5 x6 x7 x8 x9 x10 x11 x12 x13 x14 x15 x16 x17 x18 x19 x20 x21 : Option D} {d : D} {e : Ev} {S : Sto} : CT.ev K (.var 22) (x0 :: x1 :: x2 :: x3 :: x4 :: x5 :: x6 :: x7 :: x8 :: x9 :: x10 :: x11 :: x12 :: x13 :: x14 :: x15 :: x16 :: x17 :: x18 :: x19 :: x20 :: x21 :: some d :: e) S = .ok d S := (rfl)
theorem ev_v23 (K : Cal) {x0 x1 x2 x3 x4 x5 x6 x7 x8 x9 x10 x11 x12 x13 x14 x15 x16 x17 x18 x19 x20 x21 x22 : Option D} {d : D} {e : Ev} {S : Sto} : CT.ev K (.var 23) (x0 :: x1 :: x2 :: x3 :: x4 :: x5 :: x6 :: x7 :: x8 :: x9 :: x10 :: x11 :: x12 :: x13 :: x14 :: x15 :: x16 :: x17 :: x18 :: x19 :: x20 :: x21 :: x22 :: some d :: e) S = .ok d S := (rfl)
theorem ev_v24 (K : Cal) {x0 x1 x2 x3 x4 x5 x6 x7 x8 x9 x10 x11 x12 x13 x14 x15 x16 x17 x18 x19 x20 x21 x22 x23 : Option D} {d : D} {e : Ev} {S : Sto} : CT.ev K (.var 24) (x0 :: x1 :: x2 :: x3 :: x4 :: x5 :: x6 :: x7 :: x8 :: x9 :: x10 :: x11 :: x12 :: x13 :: x14 :: x15 :: x16 :: x17 :: x18 :: x19 :: x20 :: x21 :: x22 :: x23 :: some d :: e) S = .ok d S := (rfl)
theorem ev_v25 (K : Cal) {x0 x1 x2 x3 x4 x5 x6 x7 x8 x9 x10 x11 x12 x13 x14 x15 x16 x17 x18 x19 x20 x21 x22 x23 x24 : Option D} {d : D} {e : Ev} {S : Sto} : CT.ev K (.var 25) (x0 :: x1 :: x2 :: x3 :: x4 :: x5 :: x6 :: x7 :: x8 :: x9 :: x10 :: x11 :: x12 :: x13 :: x14 :: x15 :: x16 :: x17 :: x18 :: x19 :: x20 :: x21 :: x22 :: x23 :: x24 :: some d :: e) S = .ok d S := (rfl)
theorem isi_non_int (S : Sto)  : isi S .non .int = some false := rfl
theorem isi_non_str (S : Sto)  : isi S .non .str = some false := rfl
theorem isi_non_bool (S : Sto)  : isi S .non .bool = some false := rfl
theorem isi_non_tuple (S : Sto)  : isi S .non .tuple = some false := rfl
theorem isi_non_list (S : Sto)  : isi S .non .list = some false := rfl
theorem isi_non_dict (S : Sto)  : isi S .non .dict = some false := rfl
theorem isi_bl_int (S : Sto) (b : Bool) : isi S (.bl b) .int = some true := rfl
theorem isi_bl_str (S : Sto) (b : Bool) : isi S (.bl b) .str = some false := rfl
theorem isi_bl_bool (S : Sto) (b : Bool) : isi S (.bl b) .bool = some true := rfl
theorem isi_bl_tuple (S : Sto) (b : Bool) : isi S (.bl b) .tuple = some false := rfl
theorem isi_bl_list (S : Sto) (b : Bool) : isi S (.bl b) .list = some false := rfl
theorem isi_bl_dict (S : Sto) (b : Bool) : isi S (.bl b) .dict = some false := rfl
theorem isi_int_int (S : Sto) (i : Int) : isi S (.int i) .int = some true := rfl
theorem isi_int_str (S : Sto) (i : Int) : isi S (.int i) .str = some false := rfl
theorem isi_int_bool (S : Sto) (i : Int) : isi S (.int i) .bool = some false := rfl
theorem isi_int_tuple (S : Sto) (i : Int) : isi S (.int i) .tuple = some false := rfl
theorem isi_int_list (S : Sto) (i : Int) : isi S (.int i) .list = some false := rfl
theorem isi_int_dict (S : Sto) (i : Int) : isi S (.int i) .dict = some false := rfl
theorem isi_str_int (S : Sto) (s : Str) : isi S (.str s) .int = some false := rfl
theorem isi_str_str (S : Sto) (s : Str) : isi S (.str s) .str = some true := rfl
theorem isi_str_bool (S : Sto) (s : Str) : isi S (.str s) .bool = some false := rfl
theorem isi_str_tuple (S : Sto) (s : Str) : isi S (.str s) .tuple = some false := rfl
theorem isi_str_list (S : Sto) (s : Str) : isi S (.str s) .list = some false := rfl
theorem isi_str_dict (S : Sto) (s : Str) : isi S (.str s) .dict = some false := rfl
theorem isi_tup_int (S : Sto) (ds : List D) : isi S (.tup ds) .int = some false := rfl
theorem isi_tup_str (S : Sto) (ds : List D) : isi S (.tup ds) .str = some false := rfl
theorem isi_tup_bool (S : Sto) (ds : List D) : isi S (.tup ds) .bool = some false := rfl
theorem isi_tup_tuple (S : Sto) (ds : List D) : isi S (.tup ds) .tuple = some true := rfl
theorem isi_tup_list (S : Sto) (ds : List D) : isi S (.tup ds) .list = some false := rfl
theorem isi_tup_dict (S : Sto) (ds : List D) : isi S (.tup ds) .dict = some false := rfl
theorem isi_lst_int (S : Sto) (ds : List D) : isi S (.lst ds) .int = some false := rfl
theorem isi_lst_str (S : Sto) (ds : List D) : isi S (.lst ds) .str = some false := rfl
theorem isi_lst_bool (S : Sto) (ds : List D) : isi S (.lst ds) .bool = some false := rfl
theorem isi_lst_tuple (S : Sto) (ds : List D) : isi S (.lst ds) .tuple = some false := rfl
theorem isi_lst_list (S : Sto) (ds : List D) : isi S (.lst ds) .list = some true := rfl
theorem isi_lst_dict (S : Sto) (ds : List D) : isi S (.lst ds) .dict = some false := rfl
theorem isi_dct_int (S : Sto) (ks : List Key) (ds : List D) : isi S (.dct ks ds) .int = some false := rfl
theorem isi_dct_str (S : Sto) (ks : List Key) (ds : List D) : isi S (.dct ks ds) .str = some false := rfl
theorem isi_dct_bool (S : Sto) (ks : List Key) (ds : List D) : isi S (.dct ks ds) .bool = some false := rfl
theorem isi_dct_tuple (S : Sto) (ks : List Key) (ds : List D) : isi S (.dct ks ds) .tuple = some false := rfl
theorem isi_dct_list (S : Sto) (ks : List Key) (ds : List D) : isi S (.dct ks ds) .list = some false := rfl
theorem isi_dct_dict (S : Sto) (ks : List Key) (ds : List D) : isi S (.dct ks ds) .dict = some true := rfl
theorem tr_non (S : Sto) : truth S .non = some false := rfl
theorem tr_bl (S : Sto) (b : Bool) : truth S (.bl b) = some b := rfl
theorem tr_int (S : Sto) (i : Int) : truth S (.int i) = some (i != 0) := rfl
theorem tr_tup (S : Sto) (ds : List D) : truth S (.tup ds) = some (!ds.isEmpty) := rfl
theorem tr_lst (S : Sto) (ds : List D) : truth S (.lst ds) = some (!ds.isEmpty) := rfl
theorem tr_scr (S : Sto) (ds : List Int) : truth S (.scr ds) = some (!ds.isEmpty) := rfl
theorem tr_dct (S : Sto) (ks : List Key) (ds : List D) : truth S (.dct ks ds) = some (!ks.isEmpty) := rfl
theorem b_add (m : Bool) (S : Sto) (i j : Int) : binop .add m (.int i) (.int j) S = .ok (.int (i + j)) S := rfl
theorem b_sub (m : Bool) (S : Sto) (i j : Int) : binop .sub m (.int i) (.int j) S = .ok (.int (i - j)) S := rfl
theorem b_addS (m : Bool) (S : Sto) (a b : Str) (h : a.length + b.length ≤ 16777216) : binop .add m (.str a) (.str b) S = .ok (.str (a ++ b)) S := by
  show (if fits (a.length + b.length) = true then _ else _) = _
  rw [if_pos (fits_le h)]
theorem b_addT (m : Bool) (S : Sto) (a b : List D) (h : a.length + b.length ≤ 16777216) : binop .add m (.tup a) (.tup b) S = .ok (.tup (a ++ b)) S := by
  show (if fits (a.length + b.length) = true then _ else _) = _
  rw [if_pos (fits_le h)]
theorem b_addL (S : Sto) (a b : List D) (h : a.length + b.length ≤ 16777216) : binop .add false (.lst a) (.lst b) S = .ok (.lst (a ++ b)) S := by
  show (if fits (a.length + b.length) = true then _ else _) = _
  rw [if_pos (fits_le h)]; rfl
theorem b_mod (m : Bool) (S : Sto) (i j : Int) (h : 0 < j) : binop .mod m (.int i) (.int j) S = .ok (.int (i % j)) S := by simp [binop, h]
theorem b_fdiv (m : Bool) (S : Sto) (i j : Int) (h : 0 < j) (h2 : j < 1073741824) : binop .fdiv m (.int i) (.int j) S = .ok (.int (i / j)) S := by simp [binop, h, h2]
theorem b_mulL (m : Bool) (S : Sto) (i j : Int) (h : -18446744073709551616 < i) (h2 : i < 18446744073709551616) : binop .mul m (.int i) (.int j) S = .ok (.int (i * j)) S := by simp [binop, small, h, h2]
theorem b_mulR (m : Bool) (S : Sto) (i j : Int) (h : -18446744073709551616 < j) (h2 : j < 18446744073709551616) : binop .mul m (.int i) (.int j) S = .ok (.int (i * j)) S := by simp [binop, small, h, h2]
theorem b_mulT (m : Bool) (S : Sto) (a : List D) (k : Int) (h : a.length ≤ 1000) (h1 : 0 ≤ k) (h2 : k ≤ 1000) : binop .mul m (.tup a) (.int k) S = .ok (.tup (rep k.toNat a)) S := by simp [binop, h, h1, h2]
theorem c_eq_ss (S : Sto) (a b : Str) : cmpop .eq (.str a) (.str b) S = .ok (.bl (decide (a = b))) S := rfl
theorem c_ne_ss (S : Sto) (a b : Str) : cmpop .ne (.str a) (.str b) S = .ok (.bl (!decide (a = b))) S := rfl
theorem c_eq_ii (S : Sto) (a b : Int) : cmpop .eq (.int a) (.int b) S = .ok (.bl (decide (a = b))) S := rfl
theorem c_ne_ii (S : Sto) (a b : Int) : cmpop .ne (.int a) (.int b) S = .ok (.bl (!decide (a = b))) S := rfl
theorem c_eq_si (S : Sto) (a : Str) (b : Int) : cmpop .eq (.str a) (.int b) S = .ok (.bl (false)) S := rfl
theorem c_ne_si (S : Sto) (a : Str) (b : Int) : cmpop .ne (.str a) (.int b) S = .ok (.bl (!false)) S := rfl
theorem c_eq_is (S : Sto) (a : Int) (b : Str) : cmpop .eq (.int a) (.str b) S = .ok (.bl (false)) S := rfl
theorem c_ne_is (S : Sto) (a : Int) (b : Str) : cmpop .ne (.int a) (.str b) S = .ok (.bl (!false)) S := rfl
theorem c_eq_ns (S : Sto) (b : Str) : cmpop .eq .non (.str b) S = .ok (.bl (false)) S := rfl
theorem c_ne_ns (S : Sto) (b : Str) : cmpop .ne .non (.str b) S = .ok (.bl (!false)) S := rfl
theorem c_eq_bs (S : Sto) (a : Bool) (b : Str) : cmpop .eq (.bl a) (.str b) S = .ok (.bl (false)) S := rfl
theorem c_ne_bs (S : Sto) (a : Bool) (b : Str) : cmpop .ne (.bl a) (.str b) S = .ok (.bl (!false)) S := rfl
theorem c_eq_ni (S : Sto) (b : Int) : cmpop .eq .non (.int b) S = .ok (.bl (false)) S := rfl
theorem c_ne_ni (S : Sto) (b : Int) : cmpop .ne .non (.int b) S = .ok (.bl (!false)) S := rfl
theorem c_eq_bb (S : Sto) (a b : Bool) : cmpop .eq (.bl a) (.bl b) S = .ok (.bl ((a == b))) S := rfl
theorem c_ne_bb (S : Sto) (a b : Bool) : cmpop .ne (.bl a) (.bl b) S = .ok (.bl (!(a == b))) S := rfl
theorem c_eq_nn (S : Sto)  : cmpop .eq .non .non S = .ok (.bl (true)) S := rfl
theorem c_ne_nn (S : Sto)  : cmpop .ne .non .non S = .ok (.bl (!true)) S := rfl
theorem c_lt (S : Sto) (a b : Int) : cmpop .lt (.int a) (.int b) S = .ok (.bl (decide (a < b))) S := rfl
theorem c_le (S : Sto) (a b : Int) : cmpop .le (.int a) (.int b) S = .ok (.bl (decide (a ≤ b))) S := rfl
theorem c_gt (S : Sto) (a b : Int) : cmpop .gt (.int a) (.int b) S = .ok (.bl (decide (b < a))) S := rfl
theorem c_ge (S : Sto) (a b : Int) : cmpop .ge (.int a) (.int b) S = .ok (.bl (decide (b ≤ a))) S := rfl
theorem c_is_non (S : Sto)  : cmpop .is .non .non S = .ok (.bl true) S := rfl
theorem c_isn_non (S : Sto)  : cmpop .isn .non .non S = .ok (.bl false) S := rfl
theorem c_is_bl (S : Sto) (b : Bool) : cmpop .is (.bl b) .non S = .ok (.bl false) S := rfl
theorem c_isn_bl (S : Sto) (b : Bool) : cmpop .isn (.bl b) .non S = .ok (.bl true) S := rfl
theorem c_is_int (S : Sto) (i : Int) : cmpop .is (.int i) .non S = .ok (.bl false) S := rfl
theorem c_isn_int (S : Sto) (i : Int) : cmpop .isn (.int i) .non S = .ok (.bl true) S := rfl
theorem c_is_str (S : Sto) (s : Str) : cmpop .is (.str s) .non S = .ok (.bl false) S := rfl
theorem c_isn_str (S : Sto) (s : Str) : cmpop .isn (.str s) .non S = .ok (.bl true) S := rfl
theorem c_is_tup (S : Sto) (ds : List D) : cmpop .is (.tup ds) .non S = .ok (.bl false) S := rfl
theorem c_isn_tup (S : Sto) (ds : List D) : cmpop .isn (.tup ds) .non S = .ok (.bl true) S := rfl
theorem c_is_lst (S : Sto) (ds : List D) : cmpop .is (.lst ds) .non S = .ok (.bl false) S := rfl
theorem c_isn_lst (S : Sto) (ds : List D) : cmpop .isn (.lst ds) .non S = .ok (.bl true) S := rfl
theorem c_is_dct (S : Sto) (ks : List Key) (ds : List D) : cmpop .is (.dct ks ds) .non S = .ok (.bl false) S := rfl
theorem c_isn_dct (S : Sto) (ks : List Key) (ds : List D) : cmpop .isn (.dct ks ds) .non S = .ok (.bl true) S := rfl
theorem c_in_ss (S : Sto) (a b : Str) : cmpop .isin (.str a) (.str b) S = .ok (.bl (substr a b)) S := rfl
theorem c_in_dct (S : Sto) (a : Str) (ks : List Key) (ds : List D) : cmpop .isin (.str a) (.dct ks ds) S = .ok (.bl (dget ks ds (.inr a)).isSome) S := rfl
theorem c_nin_dct (S : Sto) (a : Str) (ks : List Key) (ds : List D) : cmpop .nin (.str a) (.dct ks ds) S = .ok (.bl (!(dget ks ds (.inr a)).isSome)) S := rfl
theorem c_in_tup (S : Sto) (a : Str) (ss : List Str) : cmpop .isin (.str a) (.tup (ss.map D.str)) S = .ok (.bl (ss.contains a)) S := by
  show (if inOk (.str a) (ss.map D.str) = true then _ else _) = _
  rw [if_pos (inOk_strs a ss), any_strs]
theorem c_nin_tup (S : Sto) (a : Str) (ss : List Str) : cmpop .nin (.str a) (.tup (ss.map D.str)) S = .ok (.bl (!ss.contains a)) S := by
  show (if inOk (.str a) (ss.map D.str) = true then _ else _) = _
  rw [if_pos (inOk_strs a ss), any_strs]
theorem c_in_lst (S : Sto) (a : Str) (ss : List Str) : cmpop .isin (.str a) (.lst (ss.map D.str)) S = .ok (.bl (ss.contains a)) S := by
  show (if inOk (.str a) (ss.map D.str) = true then _ else _) = _
  rw [if_pos (inOk_strs a ss), any_strs]
theorem c_nin_lst (S : Sto) (a : Str) (ss : List Str) : cmpop .nin (.str a) (.lst (ss.map D.str)) S = .ok (.bl (!ss.contains a)) S := by
  show (if inOk (.str a) (ss.map D.str) = true then _ else _) = _
  rw [if_pos (inOk_strs a ss), any_strs]
theorem s_tup (S : Sto) (ds : List D) (i : Int) : subs (.tup ds) (.int i) S = R.of S (at_ ds i) := rfl
theorem s_lst (S : Sto) (ds : List D) (i : Int) : subs (.lst ds) (.int i) S = R.of S (at_ ds i) := rfl
theorem s_dct (S : Sto) (ks : List Key) (ds : List D) (a : Str) : subs (.dct ks ds) (.str a) S = R.of S (dget ks ds (.inr a)) := rfl
theorem of_some {α : Type} (S : Sto) (a : α) : R.of S (some a) = .ok a S := rfl
theorem at_0 {α : Type} (x : α) (xs : List α) : at_ (x :: xs) 0 = some x := by simp [at_, ixN]
theorem at_1 {α : Type} (x : α) (xs : List α) : at_ (x :: xs) 1 = at_ xs 0 := at_succ x xs 0
theorem at_2 {α : Type} (x : α) (xs : List α) : at_ (x :: xs) 2 = at_ xs 1 := at_succ x xs 1
theorem at_3 {α : Type} (x : α) (xs : List α) : at_ (x :: xs) 3 = at_ xs 2 := at_succ x xs 2
theorem at_4 {α : Type} (x : α) (xs : List α) : at_ (x :: xs) 4 = at_ xs 3 := at_succ x xs 3
theorem at_5 {α : Type} (x : α) (xs : List α) : at_ (x :: xs) 5 = at_ xs 4 := at_succ x xs 4
theorem at_6 {α : Type} (x : α) (xs : List α) : at_ (x :: xs) 6 = at_ xs 5 := at_succ x xs 5
theorem at_7 {α : Type} (x : α) (xs : List α) : at_ (x :: xs) 7 = at_ xs 6 := at_succ x xs 6
theorem at_m1 {α : Type} (xs : List α) : at_ xs (-1) = xs.getLast? := at_neg1 xs
theorem sl_tup (S : Sto) (ds : List D) (lo hi : Option Int) : slice (.tup ds) lo hi S = .ok (.tup (cut ds lo hi)) S := rfl
theorem sl_lst (S : Sto) (ds : List D) (lo hi : Option Int) : slice (.lst ds) lo hi S = .ok (.lst (cut ds lo hi)) S := rfl
theorem pt_0  : part [] = some none := rfl
theorem pt_1 (i : Int) : part [.int i] = some (some i) := rfl
theorem l_tup (m : Bool) (S : Sto) (ds : List D) : b1 .len m (.tup ds) S = .ok (.int ds.length) S := rfl
theorem l_lst (m : Bool) (S : Sto) (ds : List D) : b1 .len m (.lst ds) S = .ok (.int ds.length) S := rfl
theorem l_dct (m : Bool) (S : Sto) (ks : List Key) (ds : List D) : b1 .len m (.dct ks ds) S = .ok (.int ks.length) S := rfl
theorem l_scr (m : Bool) (S : Sto) (ns : List Int) : b1 .len m (.scr ns) S = .ok (.int ns.length) S := by simp [b1, asQ, asL]
theorem l_str (m : Bool) (S : Sto) (s : Str) (h : s.length ≤ 16777216) : b1 .len m (.str s) S = .ok (.int s.length) S := by simp [b1, fits_le h]
theorem tup_lst (m : Bool) (S : Sto) (ds : List D) : b1 .tuple m (.lst ds) S = .ok (.tup ds) S := rfl
theorem tup_tup (m : Bool) (S : Sto) (ds : List D) : b1 .tuple m (.tup ds) S = .ok (.tup ds) S := rfl
theorem lst_tup (S : Sto) (ds : List D) : b1 .list false (.tup ds) S = .ok (.lst ds) S := rfl
theorem lst_lst (S : Sto) (ds : List D) : b1 .list false (.lst ds) S = .ok (.lst ds) S := rfl
theorem all_bs (m : Bool) (S : Sto) (bs : List Bool) : b1 .all m (.lst (bs.map D.bl)) S = .ok (.bl (bs.all id)) S := by simp [b1, asM, boolsOf_map, orNo]
theorem any_bs (m : Bool) (S : Sto) (bs : List Bool) : b1 .any m (.lst (bs.map D.bl)) S = .ok (.bl (bs.any id)) S := by simp [b1, asM, boolsOf_map, orNo]
theorem sum_is (m : Bool) (S : Sto) (bs : List Int) : b1 .sum m (.lst (bs.map D.int)) S = .ok (.int bs.sum) S := by simp [b1, asMT, asM, intsOf_map, orNo]
theorem all2 (m : Bool) (S : Sto) (a b : Bool) : b1 .all m (.lst [.bl a, .bl b]) S = .ok (.bl (a && b)) S := by
  have := all_bs m S [a, b]
  simpa using this
theorem all_map {ι : Type} (m : Bool) (S : Sto) (ps : List ι) (g : ι → Bool) : b1 .all m (.lst (ps.map fun p => D.bl (g p))) S = .ok (.bl (ps.all g)) S := by
  have := all_bs m S (ps.map g)
  rw [List.map_map] at this
  rw [show (fun p => D.bl (g p)) = D.bl ∘ g from rfl, this, List.all_map]; rfl
theorem any_map {ι : Type} (m : Bool) (S : Sto) (ps : List ι) (g : ι → Bool) : b1 .any m (.lst (ps.map fun p => D.bl (g p))) S = .ok (.bl (ps.any g)) S := by
  have := any_bs m S (ps.map g)
  rw [List.map_map] at this
  rw [show (fun p => D.bl (g p)) = D.bl ∘ g from rfl, this, List.any_map]; rfl
theorem sum_map {ι : Type} (m : Bool) (S : Sto) (ps : List ι) (g : ι → Int) : b1 .sum m (.lst (ps.map fun p => D.int (g p))) S = .ok (.int (ps.map g).sum) S := by
  have := sum_is m S (ps.map g)
  rw [List.map_map] at this
  rw [show (fun p => D.int (g p)) = D.int ∘ g from rfl, this]
theorem int_i (m : Bool) (S : Sto) (i : Int) : b1 .int m (.int i) S = .ok (.int i) S := rfl
theorem int_b (m : Bool) (S : Sto) (b : Bool) : b1 .int m (.bl b) S = .ok (.int (b2i b)) S := rfl
theorem w_tup (S : Sto) (ds : List D) : walk .seq [.tup ds] S = .ok (.row ds) S := rfl
theorem w_lst (S : Sto) (ds : List D) : walk .seq [.lst ds] S = .ok (.row ds) S := rfl
theorem w_str (S : Sto) (s : Str) (h : s.length ≤ 16777216) : walk .seq [.str s] S = .ok (.row (s.cps.toList.map fun c => D.str ⟨#[c]⟩)) S := by simp [walk, fits_le h]
theorem w_range (S : Sto) (n : Nat) (h : n ≤ 16777216) : walk .range1 [.int n] S = .ok (.row ((List.range n).map fun (i : Nat) => D.int i)) S := walk_range S n h
theorem w_r3 (S : Sto) : walk .range1 [.int 3] S = .ok (.row [.int 0, .int 1, .int 2]) S := rfl
theorem w_r4 (S : Sto) : walk .range1 [.int 4] S = .ok (.row ((List.range 4).map fun (i : Nat) => D.int i)) S := walk_range S 4 (by decide)
theorem w_r5 (S : Sto) : walk .range1 [.int 5] S = .ok (.row ((List.range 5).map fun (i : Nat) => D.int i)) S := walk_range S 5 (by decide)
theorem w_r6 (S : Sto) : walk .range1 [.int 6] S = .ok (.row ((List.range 6).map fun (i : Nat) => D.int i)) S := walk_range S 6 (by decide)
theorem w_r7 (S : Sto) : walk .range1 [.int 7] S = .ok (.row ((List.range 7).map fun (i : Nat) => D.int i)) S := walk_range S 7 (by decide)
theorem w_r8 (S : Sto) : walk .range1 [.int 8] S = .ok (.row ((List.range 8).map fun (i : Nat) => D.int i)) S := walk_range S 8 (by decide)
theorem w_r9 (S : Sto) : walk .range1 [.int 9] S = .ok (.row ((List.range 9).map fun (i : Nat) => D.int i)) S := walk_range S 9 (by decide)
theorem w_r10 (S : Sto) : walk .range1 [.int 10] S = .ok (.row ((List.range 10).map fun (i : Nat) => D.int i)) S := walk_range S 10 (by decide)
theorem w_r11 (S : Sto) : walk .range1 [.int 11] S = .ok (.row ((List.range 11).map fun (i : Nat) => D.int i)) S := walk_range S 11 (by decide)
theorem w_r12 (S : Sto) : walk .range1 [.int 12] S = .ok (.row ((List.range 12).map fun (i : Nat) => D.int i)) S := walk_range S 12 (by decide)
theorem w_r20 (S : Sto) : walk .range1 [.int 20] S = .ok (.row ((List.range 20).map fun (i : Nat) => D.int i)) S := walk_range S 20 (by decide)
theorem w_r30 (S : Sto) : walk .range1 [.int 30] S = .ok (.row ((List.range 30).map fun (i : Nat) => D.int i)) S := walk_range S 30 (by decide)
theorem w_r40 (S : Sto) : walk .range1 [.int 40] S = .ok (.row ((List.range 40).map fun (i : Nat) => D.int i)) S := walk_range S 40 (by decide)
theorem w_r50 (S : Sto) : walk .range1 [.int 50] S = .ok (.row ((List.range 50).map fun (i : Nat) => D.int i)) S := walk_range S 50 (by decide)
theorem w_r60 (S : Sto) : walk .range1 [.int 60] S = .ok (.row ((List.range 60).map fun (i : Nat) => D.int i)) S := walk_range S 60 (by decide)
theorem fr_cons (f : D → Ev → Sto → RS) (d : D) (r : List D) (e : Ev) (S : Sto) : forRow f (d :: r) e S = (f d e S).item fun e S => forRow f r e S := rfl
theorem it_nx (e : Ev) (S : Sto) (f : Ev → Sto → RS) (u : Tag f) : (RS.nx e S).item f u = f e S := rfl
theorem it_ct (e : Ev) (S : Sto) (f : Ev → Sto → RS) (u : Tag f) : (RS.ct e S).item f u = f e S := rfl
theorem it_rt (d : D) (S : Sto) (f : Ev → Sto → RS) (u : Tag f) : (RS.rt d S).item f u = .rt d S := rfl
theorem it_ex (c : Nat) (e : Ev) (S : Sto) (f : Ev → Sto → RS) (u : Tag f) : (RS.ex c e S).item f u = .ex c e S := rfl
theorem w_r0 (S : Sto) : walk .range1 [.int 0] S = .ok (.row []) S := rfl
theorem w_r1 (S : Sto) : walk .range1 [.int 1] S = .ok (.row [.int 0]) S := rfl
theorem w_r2 (S : Sto) : walk .range1 [.int 2] S = .ok (.row [.int 0, .int 1]) S := rfl
theorem es_m2 (e : Ev) (i0 i1 : Nat) (a0 a1 : D) (S : Sto) : evset e (.many [i0, i1]) (.tup [a0, a1]) S = .ok ((e.set i0 (some a0)).set i1 (some a1)) S := rfl
theorem es_m3 (e : Ev) (i0 i1 i2 : Nat) (a0 a1 a2 : D) (S : Sto) : evset e (.many [i0, i1, i2]) (.tup [a0, a1, a2]) S = .ok (((e.set i0 (some a0)).set i1 (some a1)).set i2 (some a2)) S := rfl
theorem es_m4 (e : Ev) (i0 i1 i2 i3 : Nat) (a0 a1 a2 a3 : D) (S : Sto) : evset e (.many [i0, i1, i2, i3]) (.tup [a0, a1, a2, a3]) S = .ok ((((e.set i0 (some a0)).set i1 (some a1)).set i2 (some a2)).set i3 (some a3)) S := rfl
theorem w_zip (S : Sto) (a b : List D) : walk .zip [.tup a, .tup b] S = .ok (.row ((a.zip b).map fun p => D.tup [p.1, p.2])) S := rfl
theorem w_enumT (S : Sto) (a : List D) : walk .enum [.tup a] S = .ok (.row (a.zipIdx.map fun p => D.tup [.int (p.2 : Nat), p.1])) S := rfl
theorem w_enum (S : Sto) (a : List D) : walk .enum [.lst a] S = .ok (.row (a.zipIdx.map fun p => D.tup [.int (p.2 : Nat), p.1])) S := rfl
theorem cw_row (f : D → Sto → R (List D)) (ds : List D) (n : Nat) (S : Sto) : compW f (.row ds) n S = compRow f ds S := rfl
theorem fw_row (f : D → Ev → Sto → RS) (ds : List D) (n : Nat) (e : Ev) (S : Sto) : forW f (.row ds) n e S = forRow f ds e S := rfl
theorem cr_nil (f : D → Sto → R (List D)) (S : Sto) : compRow f [] S = .ok [] S := rfl
theorem cr_cons (f : D → Sto → R (List D)) (d : D) (r : List D) (S : Sto) : compRow f (d :: r) S = (f d S).bnd fun a S => (compRow f r S).bnd fun b S => .ok (a ++ b) S := rfl
theorem fr_nil (f : D → Ev → Sto → RS) (e : Ev) (S : Sto) : forRow f [] e S = .nx e S := rfl
theorem mkL_f (ds : List D) (S : Sto) : mkL false ds S = .ok (.lst ds) S := rfl
theorem mkD_f (ks : List Key) (ds : List D) (S : Sto) : mkD false ks ds S = .ok (.dct ks ds) S := rfl
theorem es_one (e : Ev) (i : Nat) (d : D) (S : Sto) : evset e (.one i) d S = .ok (e.set i (some d)) S := rfl
theorem wp_nil (e : Ev) : wipe e [] = e := rfl
theorem wp_cons (e : Ev) (v : Nat) (vs : List Nat) : wipe e (v :: vs) = (wipe e vs).set v none := rfl
theorem cal_wf (P : Prg) (wf n : Nat) : (cal P wf n).wf = wf := by cases n <;> rfl
theorem key_str (s : Str) : keyOf (.str s) = some (.inr s) := rfl
theorem key_int (s : Int) : keyOf (.int s) = some (.inl s) := rfl
theorem prj1 {α β : Type} (a : α) (b : β) : (a, b).1 = a := rfl
theorem prj2 {α β : Type} (a : α) (b : β) : (a, b).2 = b := rfl
theorem gD_some {α : Type} (a b : α) : (some a).getD b = a := rfl
theorem gD_none {α : Type} (b : α) : (none : Option α).getD b = b := rfl
theorem asD_dct (S : Sto) (ks : List Key) (ds : List D) : asD S (.dct ks ds) = some (ks, ds) := rfl
theorem q_int (i : Int) : D.int? (.int i) = some i := rfl
theorem q_str (i : Str) : D.str? (.str i) = some i := rfl
theorem q_bl (i : Bool) : D.bl? (.bl i) = some i := rfl
theorem q_tup (i : List D) : D.tup? (.tup i) = some i := rfl
end CP

open CP in
local macro_rules
  | `(tactic| simp_all! [$ls,*]) => `(tactic| simp (dsimp := false) (disch := first | omega | (simp; done) | (simp; omega)) only [ct_nx, ct_rt, ct_ct, ct_ex, rr_ok, rr_ex, oo_some, r_ok, r_ex, o_some, os_some, rs_ok, rs_ex, nx_nx, nx_rt, nx_ct, nx_ex, end_rt, end_nx, end_ex, ev_glo, ev_int, ev_bl, ev_non, ev_str, ev_bin, ev_neg, ev_not, ev_and, ev_or, ev_ite, ev_cmp, ev_chain, ev_call, ev_make, ev_meth, ev_isi, ev_b1, ev_max2, ev_min2, ev_lenset, ev_sortset, ev_dictzip, ev_append, ev_extend, ev_pop, ev_get1, ev_get2, ev_join, ev_split, ev_index, ev_count, ev_update, ev_gsub, ev_pop0, ev_attr, ev_sub, ev_sl, ev_slm, ev_tup, ev_lst, ev_dct, ev_fstr, ev_frz, ev_ink, ev_sbk, ev_tidx, ev_dpk, evs_0, evs_1, evA_0, evA_1, evA_2, evO_0, evO_1, evO_2, evP_0, evP_1, evP_2, evF_0, evF_1, ex_expr, ex_set, ex_par, ex_attr, ex_sub, ex_sbk, ex_ret, ex_ite, ex_raise, ex_try, ex_cont, ex_pass, exs_0, exs_1, evq_rev, ↓evq_comp, rv_tup, rv_lst, ↓exq_for, ↓exq_while, fb_ap, wc_ap, wb_ap, cb_ap, ev_v0, ev_v1, ev_v2, ev_v3, ev_v4, ev_v5, ev_v6, ev_v7, ev_v8, ev_v9, ev_v10, ev_v11, ev_v12, ev_v13, ev_v14, ev_v15, ev_v16, ev_v17, ev_v18, ev_v19, ev_v20, ev_v21, ev_v22, ev_v23, ev_v24, ev_v25, isi_non_int, isi_non_str, isi_non_bool, isi_non_tuple, isi_non_list, isi_non_dict, isi_bl_int, isi_bl_str, isi_bl_bool, isi_bl_tuple, isi_bl_list, isi_bl_dict, isi_int_int, isi_int_str, isi_int_bool, isi_int_tuple, isi_int_list, isi_int_dict, isi_str_int, isi_str_str, isi_str_bool, isi_str_tuple, isi_str_list, isi_str_dict, isi_tup_int, isi_tup_str, isi_tup_bool, isi_tup_tuple, isi_tup_list, isi_tup_dict, isi_lst_int, isi_lst_str, isi_lst_bool, isi_lst_tuple, isi_lst_list, isi_lst_dict, isi_dct_int, isi_dct_str, isi_dct_bool, isi_dct_tuple, isi_dct_list, isi_dct_dict, tr_non, tr_bl, tr_int, tr_tup, tr_lst, tr_scr, tr_dct, b_add, b_sub, b_addS, b_addT, b_addL, b_mod, b_fdiv, b_mulL, b_mulR, b_mulT, c_eq_ss, c_ne_ss, c_eq_ii, c_ne_ii, c_eq_si, c_ne_si, c_eq_is, c_ne_is, c_eq_ns, c_ne_ns, c_eq_bs, c_ne_bs, c_eq_ni, c_ne_ni, c_eq_bb, c_ne_bb, c_eq_nn, c_ne_nn, c_lt, c_le, c_gt, c_ge, c_is_non, c_isn_non, c_is_bl, c_isn_bl, c_is_int, c_isn_int, c_is_str, c_isn_str, c_is_tup, c_isn_tup, c_is_lst, c_isn_lst, c_is_dct, c_isn_dct, c_in_ss, c_in_dct, c_nin_dct, c_in_tup, c_nin_tup, c_in_lst, c_nin_lst, s_tup, s_lst, s_dct, of_some, at_0, at_1, at_2, at_3, at_4, at_5, at_6, at_7, at_m1, sl_tup, sl_lst, pt_0, pt_1, l_tup, l_lst, l_dct, l_scr, l_str, tup_lst, tup_tup, lst_tup, lst_lst, all_bs, any_bs, sum_is, all2, all_map, any_map, sum_map, int_i, int_b, w_tup, w_lst, w_str, w_range, w_r3, w_r4, w_r5, w_r6, w_r7, w_r8, w_r9, w_r10, w_r11, w_r12, w_r20, w_r30, w_r40, w_r50, w_r60, ↓fr_cons, it_nx, it_ct, it_rt, it_ex, w_r0, w_r1, w_r2, es_m2, es_m3, es_m4, w_zip, w_enumT, w_enum, ↓cw_row, ↓fw_row, ↓cr_nil, ↓cr_cons, ↓fr_nil, mkL_f, mkD_f, es_one, wp_nil, wp_cons, cal_wf, key_str, key_int, prj1, prj2, gD_some, gD_none, asD_dct, q_int, q_str, q_bl, q_tup, List.map_cons, List.map_nil, List.length_cons, List.length_nil, List.length_map, List.getElem?_cons_zero, List.getElem?_cons_succ, Option.bind_some, List.set_cons_zero, List.set_cons_succ, ↓reduceIte, fits_ok, Bool.false_eq_true, Bool.true_and, Bool.and_true, Bool.false_and, Bool.and_false, Bool.or_false, Bool.false_or, Bool.true_or, Bool.or_true, Bool.not_true, Bool.not_false, decide_true, decide_false, List.isEmpty_cons, List.isEmpty_nil, List.cons_append, List.nil_append, Nat.zero_add, Int.cast_ofNat_Int, Int.natCast_zero, Nat.reduceAdd, Nat.reduceSub, Nat.reduceLT, Nat.reduceLeDiff, Nat.reduceEqDiff, Nat.reduceBEq, Int.reduceLT, Int.reduceLE, Int.reduceEq, Int.reduceNe, Int.reduceBEq, Int.reduceBNe, Int.reduceAdd, Int.reduceSub, Int.reduceNeg, Int.reduceMul, Int.reduceToNat, ofS_inj, String.reduceEq, reduceCtorEq, beq_self_eq_true, $ls,*])

namespace CP
open PySem CT
@[reducible] def f_parts_of : Def := { ps := 1, ns := 1, own := false, body := [(.ite (.not (.isi (.var 0) .tuple))
   [(.ret (.tup []))]
   []),
   (.ite (.cmp .eq (.sub (.var 0) (.int 0)) (.str "call"))
   [(.ret (.sub (.var 0) (.int 2)))]
   []),
   (.ret (.sl (.var 0) [(.int 1)] []))] }
@[reducible] def f_called_in_L1 : List CT.S := [(.set (.one 1) (.bin .add false (.var 1) (.call 79 [(.var 2)])))]
@[reducible] def f_called_in : Def := { ps := 1, ns := 3, own := false, body := [(.set (.one 1) (.tup [])),
   (.for (.one 2) .seq [(.call 25 [(.var 0)])]
   f_called_in_L1),
   (.ite (.and [(.isi (.var 0) .tuple), (.cmp .eq (.sub (.var 0) (.int 0)) (.str "call"))])
   [(.set (.one 1) (.bin .add false (.var 1) (.tup [(.sub (.var 0) (.int 1))])))]
   []),
   (.ret (.var 1))] }
@[reducible] def f_turning : Def := { ps := 2, ns := 3, own := false, body := [(.ite (.not (.isi (.var 0) .tuple))
   [(.ret (.bl true))]
   []),
   (.ite (.cmp .eq (.sub (.var 0) (.int 0)) (.str "if"))
   [(.ret (.and [(.call 88 [(.sub (.var 0) (.int 1)), (.var 1)]), (.call 87 [(.sub (.var 0) (.int 2)), (.var 1)]), (.call 87 [(.sub (.var 0) (.int 3)), (.var 1)])]))]
   []),
   (.ret (.b1 .all false (.comp false (.call 88 [(.var 2), (.var 1)]) (.one 2) .seq [(.call 25 [(.var 0)])] [] [2])))] }
@[reducible] def f_none_of : Def := { ps := 2, ns := 3, own := false, body := [(.ret (.not (.b1 .any false (.comp false (.cmp .isin (.var 2) (.var 1)) (.one 2) .seq [(.call 79 [(.var 0)])] [] [2]))))] }
@[reducible] def f_last_calls : Def := { ps := 2, ns := 5, own := false, body := [(.set (.one 2) (.sub (.comp false (.var 4) (.one 4) .seq [(.var 0)] [(.cmp .eq (.sub (.var 4) (.int 0)) (.var 1))] [4]) (.int 0))),
   (.set (.one 3) (.sortset (.call 79 [(.sub (.var 2) (.int 2))]))),
   (.ret (.b1 .tuple false (.comp false (.var 4) (.one 4) .seq [(.var 3)] [(.call 87 [(.sub (.var 2) (.int 2)), (.tup [(.var 4)])])] [4])))] }
@[reducible] def f_law_same : Def := { ps := 2, ns := 4, own := false, body := [(.ite (.cmp .is (.var 1) .non)
   [(.ret (.cmp .is (.var 0) .non))]
   []),
   (.ite (.isi (.var 1) .bool)
   [(.ret (.and [(.isi (.var 0) .bool), (.cmp .eq (.var 0) (.var 1))]))]
   []),
   (.ite (.isi (.var 1) .tuple)
   [(.ite (.or [(.not (.isi (.var 0) .tuple)), (.cmp .ne (.b1 .len false (.var 0)) (.b1 .len false (.var 1)))])
   [(.ret (.bl false))]
   []),
   (.ret (.b1 .all false (.comp false (.call 9 [(.var 2), (.var 3)]) (.many [2, 3]) .zip [(.var 0), (.var 1)] [] [2, 3])))]
   []),
   (.ite (.isi (.var 1) .str)
   [(.ret (.and [(.isi (.var 0) .str), (.cmp .eq (.var 0) (.var 1))]))]
   []),
   (.ret (.and [(.isi (.var 0) .int), (.not (.isi (.var 0) .bool)), (.cmp .eq (.var 0) (.var 1))]))] }
@[reducible] def f_law_draw : Def := { ps := 3, ns := 6, own := false, body := [(.expr (.append (.var 1) (.int 0))),
   (.set (.one 3) (.b1 .len false (.var 1))),
   (.set (.one 4) (.int 0)),
   (.ite (.var 0)
   [(.set (.one 4) (.sub (.var 0) (.bin .mod false (.var 3) (.b1 .len false (.var 0)))))]
   []),
   (.set (.one 5) (.bin .mod false (.bin .add false (.var 4) (.bin .mul false (.int 104729) (.var 3))) (.int 4294967291))),
   (.set (.one 5) (.bin .mod false (.bin .mul false (.bin .mod false (.bin .mul false (.var 5) (.var 5)) (.int 4294967279)) (.int 48271)) (.int 4294967291))),
   (.ret (.bin .mod false (.bin .fdiv false (.var 5) (.int 64)) (.var 2)))] }
@[reducible] def f_law_pick : Def := { ps := 3, ns := 3, own := false, body := [(.ret (.sub (.var 2) (.call 10 [(.var 0), (.var 1), (.b1 .len false (.var 2))])))] }
@[reducible] def f_law_leaf : Def := { ps := 3, ns := 4, own := false, body := [(.set (.one 3) (.call 11 [(.var 0), (.var 1), (.lst false [(.int 0), (.int 1), (.int 1), (.int 2), (.int 3), (.int 7), (.int 10006), (.call 10 [(.var 0), (.var 1), (.int 10007)])])])),
   (.ret (.call 11 [(.var 0), (.var 1), (.bin .add false (.bin .add false (.b1 .list false (.var 2)) (.b1 .list false (.var 2))) (.lst false [(.var 3)]))]))] }
@[reducible] def f_law_sum : Def := { ps := 5, ns := 12, own := false, body := [(.set (.one 5) (.call 10 [(.var 0), (.var 1), (.int 12)])),
   (.ite (.or [(.cmp .eq (.var 4) (.int 0)), (.cmp .lt (.var 5) (.int 3))])
   [(.ret (.call 12 [(.var 0), (.var 1), (.var 2)]))]
   []),
   (.ite (.cmp .lt (.var 5) (.int 8))
   [(.set (.one 6) (.call 11 [(.var 0), (.var 1), (.lst false [(.str "plus"), (.str "times"), (.str "less"), (.str "least"), (.str "most"), (.str "same"), (.str "under"), (.str "half")])])),
   (.set (.one 7) (.call 13 [(.var 0), (.var 1), (.var 2), (.var 3), (.bin .sub false (.var 4) (.int 1))])),
   (.ite (.cmp .eq (.var 6) (.str "half"))
   [(.ret (.tup [(.var 6), (.var 7)]))]
   []),
   (.ret (.tup [(.var 6), (.var 7), (.call 13 [(.var 0), (.var 1), (.var 2), (.var 3), (.bin .sub false (.var 4) (.int 1))])]))]
   []),
   (.ite (.or [(.cmp .lt (.var 5) (.int 10)), (.not (.var 3))])
   [(.set (.one 8) (.comp false (.call 13 [(.var 0), (.var 1), (.var 2), (.var 3), (.bin .sub false (.var 4) (.int 1))]) (.one 11) .range1 [(.int 3)] [] [11])),
   (.ret (.tup [(.str "if"), (.sub (.var 8) (.int 0)), (.sub (.var 8) (.int 1)), (.sub (.var 8) (.int 2))]))]
   []),
   (.set (.many [9, 10]) (.call 11 [(.var 0), (.var 1), (.var 3)])),
   (.ret (.tup [(.str "call"), (.var 9), (.b1 .tuple false (.comp false (.call 13 [(.var 0), (.var 1), (.var 2), (.var 3), (.bin .sub false (.var 4) (.int 1))]) (.one 11) .range1 [(.var 10)] [] [11]))]))] }
@[reducible] def f_law_tree : Def := { ps := 5, ns := 9, own := false, body := [(.set (.one 5) (.call 10 [(.var 0), (.var 1), (.int 6)])),
   (.ite (.or [(.cmp .eq (.var 4) (.int 0)), (.cmp .lt (.var 5) (.int 1))])
   [(.ret (.tup [(.str "tell"), (.call 13 [(.var 0), (.var 1), (.var 2), (.var 3), (.int 2)])]))]
   []),
   (.ite (.cmp .lt (.var 5) (.int 3))
   [(.ret (.tup [(.str "again"), (.b1 .tuple false (.comp false (.call 13 [(.var 0), (.var 1), (.var 2), (.var 3), (.int 2)]) (.one 8) .range1 [(.b1 .len false (.var 2))] [] [8]))]))]
   []),
   (.set (.one 6) (.call 13 [(.var 0), (.var 1), (.var 2), (.var 3), (.int 2)])),
   (.set (.one 7) (.call 14 [(.var 0), (.var 1), (.var 2), (.var 3), (.bin .sub false (.var 4) (.int 1))])),
   (.ret (.tup [(.str "if"), (.var 6), (.var 7), (.call 14 [(.var 0), (.var 1), (.var 2), (.var 3), (.bin .sub false (.var 4) (.int 1))])]))] }
@[reducible] def f_law_maker_L1 : List CT.S := [(.set (.one 5) (.bin .add false (.var 5) (.tup [(.tup [(.sub (.lst false [(.str "k"), (.str "acc")]) (.var 6)), (.call 13 [(.var 0), (.var 1), (.var 4), (.var 3), (.int 2)])])])))]
@[reducible] def f_law_maker : Def := { ps := 4, ns := 9, own := false, body := [(.set (.one 4) (.sl (.tup [(.str "n"), (.str "m"), (.str "x"), (.str "step")]) [] [(.sub (.b1 .dict false (.var 3)) (.var 2))])),
   (.ite (.cmp .gt (.call 10 [(.var 0), (.var 1), (.int 3)]) (.int 0))
   [(.ret (.tup [(.var 2), (.var 4), (.call 13 [(.var 0), (.var 1), (.var 4), (.var 3), (.int 4)])]))]
   []),
   (.set (.one 5) (.tup [])),
   (.for (.one 6) .range1 [(.call 10 [(.var 0), (.var 1), (.int 3)])]
   f_law_maker_L1),
   (.set (.one 7) (.bin .add false (.var 4) (.b1 .tuple false (.comp false (.sub (.var 8) (.int 0)) (.one 8) .seq [(.var 5)] [] [8])))),
   (.ret (.tup [(.var 2), (.var 4), (.var 5), (.call 14 [(.var 0), (.var 1), (.var 7), (.var 3), (.int 3)])]))] }
@[reducible] def f_law_book : Def := { ps := 2, ns := 5, own := false, body := [(.set (.one 2) (.sl (.lst false [(.str "f"), (.str "g"), (.str "main"), (.str "h")]) [] [(.bin .add false (.call 10 [(.var 0), (.var 1), (.int 4)]) (.int 1))])),
   (.set (.one 3) (.comp false (.tup [(.var 4), (.call 10 [(.var 0), (.var 1), (.int 4)])]) (.one 4) .seq [(.var 2)] [] [4])),
   (.ret (.b1 .tuple false (.comp false (.call 15 [(.var 0), (.var 1), (.var 4), (.var 3)]) (.one 4) .seq [(.var 2)] [] [4])))] }
@[reducible] def f_law_called_L1 : List CT.S := [(.set (.one 1) (.bin .add true (.var 1) (.call 83 [(.var 3)])))]
@[reducible] def f_law_called : Def := { ps := 1, ns := 4, own := true, body := [(.ite (.not (.isi (.var 0) .tuple))
   [(.ret (.lst false []))]
   []),
   (.set (.one 1) (.lst true [])),
   (.set (.one 2) (.sl (.var 0) [(.int 1)] [])),
   (.ite (.cmp .eq (.sub (.var 0) (.int 0)) (.str "call"))
   [(.expr (.append (.var 1) (.sub (.var 0) (.int 1)))),
   (.set (.one 2) (.sub (.var 0) (.int 2)))]
   []),
   (.ite (.cmp .eq (.sub (.var 0) (.int 0)) (.str "again"))
   [(.set (.one 2) (.sub (.var 0) (.int 1)))]
   []),
   (.for (.one 3) .seq [(.var 2)]
   f_law_called_L1),
   (.ret (.frz (.var 1)))] }
@[reducible] def f_law_all_last : Def := { ps := 2, ns := 3, own := false, body := [(.ite (.not (.comp false (.var 2) (.one 2) .seq [(.call 83 [(.var 0)])] [(.cmp .isin (.var 2) (.var 1))] [2]))
   [(.ret (.bl true))]
   []),
   (.ite (.cmp .eq (.sub (.var 0) (.int 0)) (.str "if"))
   [(.ite (.comp false (.var 2) (.one 2) .seq [(.call 83 [(.sub (.var 0) (.int 1))])] [(.cmp .isin (.var 2) (.var 1))] [2])
   [(.ret (.bl false))]
   []),
   (.ret (.and [(.call 90 [(.sub (.var 0) (.int 2)), (.var 1)]), (.call 90 [(.sub (.var 0) (.int 3)), (.var 1)])]))]
   []),
   (.ite (.or [(.cmp .ne (.sub (.var 0) (.int 0)) (.str "call")), (.cmp .nin (.sub (.var 0) (.int 1)) (.var 1))])
   [(.ret (.bl false))]
   []),
   (.ret (.not (.comp false (.var 2) (.one 2) .seq [(.call 83 [(.bin .add false (.tup [(.str "if")]) (.sub (.var 0) (.int 2)))])] [(.cmp .isin (.var 2) (.var 1))] [2])))] }
@[reducible] def f_law_tail : Def := { ps := 6, ns := 14, own := false, body := [(.set (.one 6) (.call 10 [(.var 0), (.var 1), (.int 8)])),
   (.ite (.or [(.cmp .eq (.var 5) (.int 0)), (.cmp .lt (.var 6) (.int 2))])
   [(.ret (.call 13 [(.var 0), (.var 1), (.var 2), (.var 4), (.int 2)]))]
   []),
   (.ite (.cmp .lt (.var 6) (.int 4))
   [(.set (.many [11, 12]) (.call 11 [(.var 0), (.var 1), (.var 3)])),
   (.set (.one 10) (.comp false (.call 11 [(.var 0), (.var 1), (.lst false [(.tup [(.str "less"), (.var 9), (.int 1)]), (.var 9), (.tup [(.str "half"), (.var 9)])])]) (.one 9) .seq [(.var 2)] [] [9])),
   (.set (.one 10) (.bin .add false (.var 10) (.comp false (.call 13 [(.var 0), (.var 1), (.var 2), (.var 4), (.int 1)]) (.one 13) .range1 [(.var 12)] [] [13]))),
   (.ret (.tup [(.str "call"), (.var 11), (.b1 .tuple false (.sl (.var 10) [] [(.var 12)]))]))]
   []),
   (.set (.one 7) (.lst false [(.tup [(.str "under"), (.int 1), (.sub (.var 2) (.int 0))]), (.tup [(.str "under"), (.sub (.var 2) (.int 0)), (.int 3)]), (.tup [(.str "same"), (.sub (.var 2) (.neg (.int 1))), (.int 0)])])),
   (.set (.one 8) (.call 11 [(.var 0), (.var 1), (.bin .add false (.b1 .list false (.var 2)) (.var 7))])),
   (.set (.one 9) (.call 91 [(.var 0), (.var 1), (.var 2), (.var 3), (.var 4), (.bin .sub false (.var 5) (.int 1))])),
   (.ret (.tup [(.str "if"), (.var 8), (.var 9), (.call 91 [(.var 0), (.var 1), (.var 2), (.var 3), (.var 4), (.bin .sub false (.var 5) (.int 1))])]))] }
@[reducible] def f_law_k07_L1 : List CT.S := [(.ite (.cmp .eq (.b1 .len false (.var 4)) (.int 3))
   [(.set (.one 6) (.b1 .sorted false (.b1 .dict false (.comp false (.tup [(.var 8), (.int 0)]) (.one 8) .seq [(.call 83 [(.sub (.var 4) (.int 2))])] [] [8])))),
   (.set (.one 7) (.b1 .tuple false (.comp false (.var 8) (.one 8) .seq [(.var 6)] [(.call 90 [(.sub (.var 4) (.int 2)), (.lst false [(.var 8)])])] [8]))),
   (.ite (.not (.call 9 [(.call 89 [(.var 3), (.sub (.var 4) (.int 0))]), (.var 7)]))
   [(.ret (.bl false))]
   [])]
   [])]
@[reducible] def f_law_k07_L2 : List CT.S := [(.set (.one 3) (.call 16 [(.var 0), (.var 1)])),
   (.ite (.cmp .lt (.var 2) (.int 5))
   [(.set (.one 5) (.call 91 [(.var 0), (.var 1), (.tup [(.str "n"), (.str "m")]), (.lst false [(.tup [(.str "f"), (.int 2)]), (.tup [(.str "g"), (.int 1)])]), (.sl (.lst false [(.tup [(.str "g"), (.int 1)])]) [] [(.bin .mod false (.var 2) (.int 2))]), (.int 3)])),
   (.set (.one 3) (.tup [(.tup [(.str "f"), (.tup [(.str "n"), (.str "m")]), (.var 5)]), (.tup [(.str "g"), (.tup [(.str "x")]), (.call 13 [(.var 0), (.var 1), (.tup [(.str "x")]), (.lst false [(.tup [(.str "f"), (.int 2)])]), (.int 2)])])]))]
   []),
   (.for (.one 4) .seq [(.var 3)]
   f_law_k07_L1)]
@[reducible] def f_law_k07 : Def := { ps := 1, ns := 9, own := false, body := [(.set (.one 1) (.lst true [])),
   (.for (.one 2) .range1 [(.int 10)]
   f_law_k07_L2),
   (.ret (.bl true))] }
def prg : Prg := { fn := [(25, f_parts_of), (79, f_called_in), (87, f_turning), (88, f_none_of), (89, f_last_calls), (9, f_law_same), (10, f_law_draw), (11, f_law_pick), (12, f_law_leaf), (13, f_law_sum), (14, f_law_tree), (15, f_law_maker), (16, f_law_book), (83, f_law_called), (90, f_law_all_last), (91, f_law_tail), (92, f_law_k07)], cl := [] }
theorem fn_at {i n : Nat} {d : Def} (h : prg.fn.lookup i = some d) (ds : List D) (S : Sto) (hl : ds.length = d.ps) : (cal prg 4000 (n + 1)).fn i ds S = endOf d.own S (exs (cal prg 4000 n) d.body (start d.ns ds) S) := by
  simp [cal, h, hl]
theorem P_parts_of : prg.fn.lookup 25 = some f_parts_of := by kernel_rfl
theorem E_parts_of (n : Nat) (a0 : D) (S : Sto) : (cal prg 4000 (n + 1)).fn 25 [a0] S = endOf false S (exs (cal prg 4000 n) f_parts_of.body [some a0] S) := fn_at P_parts_of _ _ rfl
theorem P_called_in : prg.fn.lookup 79 = some f_called_in := by kernel_rfl
theorem E_called_in (n : Nat) (a0 : D) (S : Sto) : (cal prg 4000 (n + 1)).fn 79 [a0] S = endOf false S (exs (cal prg 4000 n) f_called_in.body [some a0, none, none] S) := fn_at P_called_in _ _ rfl
theorem P_turning : prg.fn.lookup 87 = some f_turning := by kernel_rfl
theorem E_turning (n : Nat) (a0 a1 : D) (S : Sto) : (cal prg 4000 (n + 1)).fn 87 [a0, a1] S = endOf false S (exs (cal prg 4000 n) f_turning.body [some a0, some a1, none] S) := fn_at P_turning _ _ rfl
theorem P_none_of : prg.fn.lookup 88 = some f_none_of := by kernel_rfl
theorem E_none_of (n : Nat) (a0 a1 : D) (S : Sto) : (cal prg 4000 (n + 1)).fn 88 [a0, a1] S = endOf false S (exs (cal prg 4000 n) f_none_of.body [some a0, some a1, none] S) := fn_at P_none_of _ _ rfl
theorem P_last_calls : prg.fn.lookup 89 = some f_last_calls := by kernel_rfl
theorem E_last_calls (n : Nat) (a0 a1 : D) (S : Sto) : (cal prg 4000 (n + 1)).fn 89 [a0, a1] S = endOf false S (exs (cal prg 4000 n) f_last_calls.body [some a0, some a1, none, none, none] S) := fn_at P_last_calls _ _ rfl
theorem P_law_same : prg.fn.lookup 9 = some f_law_same := by kernel_rfl
theorem E_law_same (n : Nat) (a0 a1 : D) (S : Sto) : (cal prg 4000 (n + 1)).fn 9 [a0, a1] S = endOf false S (exs (cal prg 4000 n) f_law_same.body [some a0, some a1, none, none] S) := fn_at P_law_same _ _ rfl
theorem P_law_draw : prg.fn.lookup 10 = some f_law_draw := by kernel_rfl
theorem E_law_draw (n : Nat) (a0 a1 a2 : D) (S : Sto) : (cal prg 4000 (n + 1)).fn 10 [a0, a1, a2] S = endOf false S (exs (cal prg 4000 n) f_law_draw.body [some a0, some a1, some a2, none, none, none] S) := fn_at P_law_draw _ _ rfl
theorem P_law_pick : prg.fn.lookup 11 = some f_law_pick := by kernel_rfl
theorem E_law_pick (n : Nat) (a0 a1 a2 : D) (S : Sto) : (cal prg 4000 (n + 1)).fn 11 [a0, a1, a2] S = endOf false S (exs (cal prg 4000 n) f_law_pick.body [some a0, some a1, some a2] S) := fn_at P_law_pick _ _ rfl
theorem P_law_leaf : prg.fn.lookup 12 = some f_law_leaf := by kernel_rfl
theorem E_law_leaf (n : Nat) (a0 a1 a2 : D) (S : Sto) : (cal prg 4000 (n + 1)).fn 12 [a0, a1, a2] S = endOf false S (exs (cal prg 4000 n) f_law_leaf.body [some a0, some a1, some a2, none] S) := fn_at P_law_leaf _ _ rfl
theorem P_law_sum : prg.fn.lookup 13 = some f_law_sum := by kernel_rfl
theorem E_law_sum (n : Nat) (a0 a1 a2 a3 a4 : D) (S : Sto) : (cal prg 4000 (n + 1)).fn 13 [a0, a1, a2, a3, a4] S = endOf false S (exs (cal prg 4000 n) f_law_sum.body [some a0, some a1, some a2, some a3, some a4, none, none, none, none, none, none, none] S) := fn_at P_law_sum _ _ rfl
theorem P_law_tree : prg.fn.lookup 14 = some f_law_tree := by kernel_rfl
theorem E_law_tree (n : Nat) (a0 a1 a2 a3 a4 : D) (S : Sto) : (cal prg 4000 (n + 1)).fn 14 [a0, a1, a2, a3, a4] S = endOf false S (exs (cal prg 4000 n) f_law_tree.body [some a0, some a1, some a2, some a3, some a4, none, none, none, none] S) := fn_at P_law_tree _ _ rfl
theorem P_law_maker : prg.fn.lookup 15 = some f_law_maker := by kernel_rfl
theorem E_law_maker (n : Nat) (a0 a1 a2 a3 : D) (S : Sto) : (cal prg 4000 (n + 1)).fn 15 [a0, a1, a2, a3] S = endOf false S (exs (cal prg 4000 n) f_law_maker.body [some a0, some a1, some a2, some a3, none, none, none, none, none] S) := fn_at P_law_maker _ _ rfl
theorem P_law_book : prg.fn.lookup 16 = some f_law_book := by kernel_rfl
theorem E_law_book (n : Nat) (a0 a1 : D) (S : Sto) : (cal prg 4000 (n + 1)).fn 16 [a0, a1] S = endOf false S (exs (cal prg 4000 n) f_law_book.body [some a0, some a1, none, none, none] S) := fn_at P_law_book _ _ rfl
theorem P_law_called : prg.fn.lookup 83 = some f_law_called := by kernel_rfl
theorem E_law_called (n : Nat) (a0 : D) (S : Sto) : (cal prg 4000 (n + 1)).fn 83 [a0] S = endOf true S (exs (cal prg 4000 n) f_law_called.body [some a0, none, none, none] S) := fn_at P_law_called _ _ rfl
theorem P_law_all_last : prg.fn.lookup 90 = some f_law_all_last := by kernel_rfl
theorem E_law_all_last (n : Nat) (a0 a1 : D) (S : Sto) : (cal prg 4000 (n + 1)).fn 90 [a0, a1] S = endOf false S (exs (cal prg 4000 n) f_law_all_last.body [some a0, some a1, none] S) := fn_at P_law_all_last _ _ rfl
theorem P_law_tail : prg.fn.lookup 91 = some f_law_tail := by kernel_rfl
theorem E_law_tail (n : Nat) (a0 a1 a2 a3 a4 a5 : D) (S : Sto) : (cal prg 4000 (n + 1)).fn 91 [a0, a1, a2, a3, a4, a5] S = endOf false S (exs (cal prg 4000 n) f_law_tail.body [some a0, some a1, some a2, some a3, some a4, some a5, none, none, none, none, none, none, none, none] S) := fn_at P_law_tail _ _ rfl
theorem P_law_k07 : prg.fn.lookup 92 = some f_law_k07 := by kernel_rfl
theorem E_law_k07 (n : Nat) (a0 : D) (S : Sto) : (cal prg 4000 (n + 1)).fn 92 [a0] S = endOf false S (exs (cal prg 4000 n) f_law_k07.body [some a0, none, none, none, none, none, none, none, none] S) := fn_at P_law_k07 _ _ rfl
end CP
section
/-! callturn proofs, plain part: sums, trees, makers, books as Lean data -/
namespace CP
open PySem CT
inductive Wd where | plus | times | less | least | most | same | under
  deriving DecidableEq
def Wd.str : Wd → Str
  | .plus => "plus" | .times => "times" | .less => "less" | .least => "least" | .most => "most" | .same => "same" | .under => "under"
inductive Sm where
  | num (i : Int) | nam (x : Str) | half (a : Sm) | two (w : Wd) (a b : Sm) | ite (t a b : Sm) | call (f : Str) (as : List Sm)
  deriving Inhabited
mutual
def Sm.toD : Sm → D
  | .num i => .int i
  | .nam x => .str x
  | .half a => .tup [.str "half", a.toD]
  | .two w a b => .tup [.str w.str, a.toD, b.toD]
  | .ite t a b => .tup [.str "if", t.toD, a.toD, b.toD]
  | .call f as => .tup [.str "call", .str f, .tup (toDs as)]
def toDs : List Sm → List D
  | [] => []
  | a :: r => a.toD :: toDs r
end
theorem toDs_map : ∀ as : List Sm, toDs as = as.map Sm.toD
  | [] => rfl
  | a :: r => by rw [toDs, toDs_map r]; rfl
mutual
def Sm.dep : Sm → Nat
  | .num _ => 0
  | .nam _ => 0
  | .half a => a.dep + 1
  | .two _ a b => max a.dep b.dep + 1
  | .ite t a b => max t.dep (max a.dep b.dep) + 1
  | .call _ as => deps as + 1
def deps : List Sm → Nat
  | [] => 0
  | a :: r => max a.dep (deps r)
end
theorem deps_le : ∀ {as : List Sm} {n : Nat}, deps as ≤ n ↔ ∀ a ∈ as, a.dep ≤ n
  | [], n => by simp [deps]
  | a :: r, n => by
    simp only [deps, List.mem_cons, forall_eq_or_imp, ← deps_le (as := r)]
    omega
mutual
/-- a sum of these names, that calls these makers -/
def Sm.Wf (nm : List Str) (cs : List (Str × Nat)) : Sm → Prop
  | .num i => 0 ≤ i ∧ i < 10007
  | .nam x => x ∈ nm
  | .half a => a.Wf nm cs
  | .two _ a b => a.Wf nm cs ∧ b.Wf nm cs
  | .ite t a b => t.Wf nm cs ∧ a.Wf nm cs ∧ b.Wf nm cs
  | .call f as => (f, as.length) ∈ cs ∧ Wfs nm cs as
def Wfs (nm : List Str) (cs : List (Str × Nat)) : List Sm → Prop
  | [] => True
  | a :: r => a.Wf nm cs ∧ Wfs nm cs r
end
theorem Wfs_iff {nm : List Str} {cs : List (Str × Nat)} : ∀ {as : List Sm}, Wfs nm cs as ↔ ∀ a ∈ as, a.Wf nm cs
  | [] => by simp [Wfs]
  | a :: r => by simp only [Wfs, List.mem_cons, forall_eq_or_imp, Wfs_iff (as := r)]
/-- induction over sums -/
theorem Sm.ind {P : Sm → Prop} (num : ∀ i, P (.num i)) (nam : ∀ x, P (.nam x)) (half : ∀ a, P a → P (.half a)) (two : ∀ w a b, P a → P b → P (.two w a b))
    (ite : ∀ t a b, P t → P a → P b → P (.ite t a b)) (call : ∀ f as, (∀ a ∈ as, P a) → P (.call f as)) : ∀ s, P s := by
  have key : ∀ n s, Sm.dep s ≤ n → P s := by
    intro n
    induction n with
    | zero =>
      intro s h
      cases s with
      | num i => exact num i
      | nam x => exact nam x
      | half a => simp [Sm.dep] at h
      | two w a b => simp [Sm.dep] at h
      | ite t a b => simp [Sm.dep] at h
      | call f as => simp [Sm.dep] at h
    | succ n ih =>
      intro s h
      cases s with
      | num i => exact num i
      | nam x => exact nam x
      | half a => simp only [Sm.dep] at h; exact half _ (ih _ (by omega))
      | two w a b => simp only [Sm.dep] at h; exact two _ _ _ (ih _ (by omega)) (ih _ (by omega))
      | ite t a b => simp only [Sm.dep] at h; exact ite _ _ _ (ih _ (by omega)) (ih _ (by omega)) (ih _ (by omega))
      | call f as => simp only [Sm.dep] at h; exact call _ _ fun a ha => ih _ (deps_le.mp (by omega) a ha)
  exact fun s => key _ s (Nat.le_refl _)
inductive Tr where
  | tell (s : Sm) | again (ss : List Sm) | ite (t : Sm) (a b : Tr)
  deriving Inhabited
def Tr.toD : Tr → D
  | .tell s => .tup [.str "tell", s.toD]
  | .again ss => .tup [.str "again", .tup (ss.map Sm.toD)]
  | .ite t a b => .tup [.str "if", t.toD, a.toD, b.toD]
def Tr.dep : Tr → Nat
  | .tell _ => 1
  | .again _ => 1
  | .ite _ a b => max a.dep b.dep + 1
/-- how deep its sums are -/
def Tr.sdep : Tr → Nat
  | .tell s => s.dep
  | .again ss => deps ss
  | .ite t a b => max t.dep (max a.sdep b.sdep)
def Tr.Wf (nm : List Str) (cs : List (Str × Nat)) : Tr → Prop
  | .tell s => s.Wf nm cs
  | .again ss => ss.length = nm.length ∧ Wfs nm cs ss
  | .ite t a b => t.Wf nm cs ∧ a.Wf nm cs ∧ b.Wf nm cs
inductive Mk where
  | fn (name : Str) (names : List Str) (body : Sm)
  | lp (name : Str) (names : List Str) (kept : List (Str × Sm)) (tree : Tr)
  deriving Inhabited
def Mk.name : Mk → Str
  | .fn n _ _ => n
  | .lp n _ _ _ => n
def Mk.names : Mk → List Str
  | .fn _ n _ => n
  | .lp _ n _ _ => n
def nmD (ns : List Str) : D := .tup (ns.map D.str)
def ktD (p : Str × Sm) : D := .tup [.str p.1, p.2.toD]
def Mk.toD : Mk → D
  | .fn n ns b => .tup [.str n, nmD ns, b.toD]
  | .lp n ns k t => .tup [.str n, nmD ns, .tup (k.map ktD), t.toD]
def bkD (b : List Mk) : D := .tup (b.map Mk.toD)
def Mk.Wf (cs : List (Str × Nat)) : Mk → Prop
  | .fn n ns b => (n, ns.length) ∈ cs ∧ ns.Nodup ∧ b.Wf ns cs
  | .lp n ns k t => (n, ns.length) ∈ cs ∧ (ns ++ k.map (·.1)).Nodup ∧ (∀ p ∈ k, p.2.Wf ns cs) ∧ t.Wf (ns ++ k.map (·.1)) cs
end CP

end
section
set_option maxHeartbeats 1000000
/-! callturn proofs, plain part: what is drawn -/
namespace CP
open PySem CT
/-- the town after so many draws -/
def tw (S : Sto) (t k : Nat) : Sto := S.set t (.lst (List.replicate k (.int 0)))
theorem tw_get {S : Sto} {t : Nat} (k : Nat) (h : t < S.length) : (tw S t k)[t]? = some (.lst (List.replicate k (.int 0))) := by
  unfold tw; rw [List.getElem?_set_self h]
theorem tw_tw (S : Sto) (t k : Nat) (o : Ob) : (tw S t k).set t o = S.set t o := by
  unfold tw; rw [List.set_set]
theorem tw_next (S : Sto) (t k : Nat) : (tw S t k).set t (.lst (List.replicate k (.int 0) ++ [.int 0])) = tw S t (k + 1) := by
  rw [tw_tw, ← List.replicate_succ']; rfl
def drawn (ns : List Int) (k : Nat) (m : Int) : Int :=
  let c := if ns = [] then 0 else ns.getD (k % ns.length) 0
  let a := (c + 104729 * (k : Int)) % 4294967291
  (a * a % 4294967279 * 48271 % 4294967291) / 64 % m
theorem at_mod (ns : List Int) (k : Nat) (h : ns ≠ []) : at_ (ns.map D.int) ((k : Int) % (ns.length : Int)) = some (.int (ns.getD (k % ns.length) 0)) := by
  have hp : 0 < ns.length := List.length_pos_iff.mpr h
  have hl : k % ns.length < ns.length := Nat.mod_lt _ hp
  have e : ((k : Int) % (ns.length : Int)) = ((k % ns.length : Nat) : Int) := by omega
  rw [e, at_nat, List.getElem?_map, List.getElem?_eq_getElem hl]
  simp [List.getD_eq_getElem?_getD, List.getElem?_eq_getElem hl]
theorem s_scr (S : Sto) (ns : List Int) (k : Nat) (h : ns ≠ []) : subs (.scr ns) (.int ((k : Int) % (ns.length : Int))) S = .ok (.int (ns.getD (k % ns.length) 0)) S := by
  show R.of S (at_ (ns.map D.int) _) = _
  rw [at_mod ns k h]; rfl
theorem draw_eq (n : Nat) (ns : List Int) {S : Sto} {t k : Nat} {m : Int} (ht : t < S.length) (hk : k + 1 ≤ 16777216) (hm : 0 < m) :
    (cal prg 4000 (n + 1)).fn 10 [.scr ns, .loc t, .int m] (tw S t k) = .ok (.int (drawn ns (k + 1) m)) (tw S t (k + 1)) := by
  have b1' : ∀ c : Int, (0 : Int) ≤ (c + 104729 * ((k + 1 : Nat) : Int)) % 4294967291 ∧ (c + 104729 * ((k + 1 : Nat) : Int)) % 4294967291 < 4294967291 := fun c => ⟨Int.emod_nonneg _ (by decide), Int.emod_lt_of_pos _ (by decide)⟩
  have b2' : ∀ a : Int, (0 : Int) ≤ a * a % 4294967279 ∧ a * a % 4294967279 < 4294967279 := fun a => ⟨Int.emod_nonneg _ (by decide), Int.emod_lt_of_pos _ (by decide)⟩
  have la : b1 .len false (.loc t) (tw S t (k + 1)) = .ok (.int ((k + 1 : Nat) : Int)) (tw S t (k + 1)) := by
    simp [b1, asQ, asL, tw_get (k + 1) ht]
  have hk' : (List.replicate k (D.int 0)).length + 1 ≤ 16777216 := by simpa using hk
  rw [E_law_draw]
  unfold drawn
  by_cases hn : ns = []
  · subst hn
    obtain ⟨p1, p2⟩ := b1' 0
    obtain ⟨p3, p4⟩ := b2' ((0 + 104729 * ((k + 1 : Nat) : Int)) % 4294967291)
    simp_all! [f_law_draw, lstAt, tw_get k ht, hk', tw_next, la]
  · obtain ⟨p1, p2⟩ := b1' (ns.getD ((k + 1) % ns.length) 0)
    obtain ⟨p3, p4⟩ := b2' ((ns.getD ((k + 1) % ns.length) 0 + 104729 * ((k + 1 : Nat) : Int)) % 4294967291)
    have hp : 0 < ns.length := List.length_pos_iff.mpr hn
    have hne : (!ns.isEmpty) = true := by simp [hn]
    simp_all! [f_law_draw, lstAt, tw_get k ht, hk', tw_next, la, hne, s_scr _ ns (k + 1) hn, hn]
theorem draw_ok (n : Nat) (ns : List Int) {S : Sto} {t k : Nat} {m : Int} (ht : t < S.length) (hk : k + 1 ≤ 16777216) (hm : 0 < m) :
    ∃ j : Int, 0 ≤ j ∧ j < m ∧ (cal prg 4000 (n + 1)).fn 10 [.scr ns, .loc t, .int m] (tw S t k) = .ok (.int j) (tw S t (k + 1)) :=
  ⟨_, Int.emod_nonneg _ (by omega), Int.emod_lt_of_pos _ hm, draw_eq n ns ht hk hm⟩
theorem at_int {α : Type} (xs : List α) (j : Int) (h0 : 0 ≤ j) (h1 : j < xs.length) : ∃ x ∈ xs, at_ xs j = some x := by
  obtain ⟨n, rfl⟩ := Int.eq_ofNat_of_zero_le h0
  have hl : n < xs.length := by omega
  exact ⟨xs[n], List.getElem_mem hl, by rw [at_nat, List.getElem?_eq_getElem hl]⟩
theorem pick_ok (n : Nat) (ns : List Int) {S : Sto} {t k : Nat} (ds : List D) (ht : t < S.length) (hk : k + 1 ≤ 16777216) (hd : ds ≠ []) :
    ∃ d ∈ ds, (cal prg 4000 (n + 2)).fn 11 [.scr ns, .loc t, .lst ds] (tw S t k) = .ok d (tw S t (k + 1)) := by
  have hp : 0 < ds.length := List.length_pos_iff.mpr hd
  obtain ⟨j, j0, j1, e⟩ := draw_ok n ns (m := (ds.length : Int)) ht hk (by omega)
  obtain ⟨x, hx, ex⟩ := at_int ds j j0 j1
  refine ⟨x, hx, ?_⟩
  rw [E_law_pick]
  simp_all! [f_law_pick, e, ex]

/-- things drawn one behind the other -/
theorem compRow_gen {f : D → Sto → R (List D)} {S : Sto} {t : Nat} {Q : D → Prop} {b M : Nat} : ∀ {ds : List D}, (∀ d ∈ ds, ∀ k, k + b ≤ M → ∃ x k', f d (tw S t k) = .ok [x] (tw S t k') ∧ k ≤ k' ∧ k' ≤ k + b ∧ Q x) →
    ∀ k, k + ds.length * b ≤ M → ∃ xs k', compRow f ds (tw S t k) = .ok xs (tw S t k') ∧ xs.length = ds.length ∧ k ≤ k' ∧ k' ≤ k + ds.length * b ∧ ∀ x ∈ xs, Q x
  | [], _, k, _ => ⟨[], k, rfl, rfl, Nat.le_refl _, by simp, by simp⟩
  | d :: r, h, k, hk => by
    have e : (d :: r).length * b = b + r.length * b := by rw [List.length_cons, Nat.add_mul, Nat.one_mul, Nat.add_comm]
    rw [e] at hk
    obtain ⟨x, k1, h1, h2, h3, h4⟩ := h d (by simp) k (by omega)
    obtain ⟨xs, k2, g1, g2, g3, g4, g5⟩ := compRow_gen (ds := r) (fun d' hd' => h d' (by simp [hd'])) k1 (by omega)
    refine ⟨x :: xs, k2, ?_, by simp [g2], by omega, by rw [e]; omega, ?_⟩
    · rw [compRow, h1, rr_ok, g1, rr_ok]; rfl
    · intro y hy
      rcases List.mem_cons.mp hy with rfl | hy
      · exact h4
      · exact g5 y hy
def IsLeaf (nm : List Str) (s : Sm) : Prop := (∃ i, s = .num i ∧ 0 ≤ i ∧ i < 10007) ∨ ∃ x ∈ nm, s = .nam x
theorem leaf_ok (n : Nat) (ns : List Int) {S : Sto} {t k : Nat} (nm : List Str) (ht : t < S.length) (hk : k + 3 ≤ 16777216) (hl : nm.length ≤ 100) :
    ∃ s : Sm, IsLeaf nm s ∧ (cal prg 4000 (n + 3)).fn 12 [.scr ns, .loc t, .tup (nm.map D.str)] (tw S t k) = .ok s.toD (tw S t (k + 3)) := by
  obtain ⟨j, j0, j1, e1⟩ := draw_ok (n + 1) ns (k := k) (m := 10007) ht (by omega) (by decide)
  obtain ⟨w, hw, e2⟩ := pick_ok n ns (k := k + 1) [.int 0, .int 1, .int 1, .int 2, .int 3, .int 7, .int 10006, .int j] ht (by omega) (by simp)
  obtain ⟨i, rfl, i0, i1⟩ : ∃ i, w = .int i ∧ 0 ≤ i ∧ i < 10007 := by
    simp only [List.mem_cons, List.not_mem_nil, or_false] at hw
    rcases hw with rfl | rfl | rfl | rfl | rfl | rfl | rfl | rfl <;> exact ⟨_, rfl, by omega, by omega⟩
  obtain ⟨d, hd, e3⟩ := pick_ok n ns (k := k + 2) (nm.map D.str ++ nm.map D.str ++ [.int i]) ht (by omega) (by simp)
  have run : (cal prg 4000 (n + 3)).fn 12 [.scr ns, .loc t, .tup (nm.map D.str)] (tw S t k) = .ok d (tw S t (k + 3)) := by
    rw [E_law_leaf]
    simp_all! [f_law_leaf, e1, e2, e3]
  simp only [List.mem_append, List.mem_map, List.mem_singleton] at hd
  rcases hd with (⟨x, hx, rfl⟩ | ⟨x, hx, rfl⟩) | rfl
  · exact ⟨.nam x, .inr ⟨x, hx, rfl⟩, run⟩
  · exact ⟨.nam x, .inr ⟨x, hx, rfl⟩, run⟩
  · exact ⟨.num i, .inl ⟨i, rfl, i0, i1⟩, run⟩
def csD (cs : List (Str × Nat)) : D := .lst (cs.map fun c => .tup [.str c.1, .int (c.2 : Nat)])
def bs : Nat → Nat
  | 0 => 4
  | d + 1 => 4 + 4 * bs d
theorem bs_pos : ∀ d, 4 ≤ bs d
  | 0 => by simp [bs]
  | d + 1 => by simp [bs]
theorem IsLeaf.wf {nm : List Str} {cs : List (Str × Nat)} {s : Sm} (h : IsLeaf nm s) : s.Wf nm cs ∧ s.dep = 0 := by
  rcases h with ⟨i, rfl, h0, h1⟩ | ⟨x, hx, rfl⟩
  · exact ⟨by simp only [Sm.Wf]; exact ⟨h0, h1⟩, rfl⟩
  · exact ⟨by simp only [Sm.Wf]; exact hx, rfl⟩
theorem Wd.ne_half (w : Wd) : decide (w.str = "half") = false := by
  cases w <;> simp [Wd.str, ofS_inj]
theorem tr_cs (S : Sto) {cs : List (Str × Nat)} (h : cs ≠ []) : truth S (csD cs) = some true := by
  cases cs with
  | nil => exact absurd rfl h
  | cons => rfl
theorem tr_cs0 (S : Sto) : truth S (csD []) = some false := (rfl)
theorem all_toD {Q : Sm → Prop} : ∀ {xs : List D}, (∀ x ∈ xs, ∃ s : Sm, x = s.toD ∧ Q s) → ∃ as : List Sm, xs = as.map Sm.toD ∧ ∀ a ∈ as, Q a
  | [], _ => ⟨[], rfl, by simp⟩
  | x :: r, h => by
    obtain ⟨s, rfl, hs⟩ := h x (by simp)
    obtain ⟨as, rfl, ha⟩ := all_toD (xs := r) fun y hy => h y (by simp [hy])
    exact ⟨s :: as, rfl, by
      intro a h
      rcases List.mem_cons.mp h with rfl | h
      · exact hs
      · exact ha a h⟩
set_option hygiene false in
theorem sum_ok (ns : List Int) (nm : List Str) (cs : List (Str × Nat)) {S : Sto} {t : Nat} (ht : t < S.length) (hl : nm.length ≤ 100) (hc : ∀ c ∈ cs, c.2 ≤ 4) : ∀ deep n k : Nat, deep + 4 ≤ n → k + bs deep ≤ 16777216 →
    ∃ (s : Sm) (k' : Nat), (cal prg 4000 n).fn 13 [.scr ns, .loc t, .tup (nm.map D.str), csD cs, .int deep] (tw S t k) = .ok s.toD (tw S t k') ∧ k ≤ k' ∧ k' ≤ k + bs deep ∧ s.Wf nm cs ∧ s.dep ≤ deep := by
  intro deep
  induction deep with
  | zero =>
    intro n k hn hk
    obtain ⟨n, rfl⟩ : ∃ m, n = m + 4 := ⟨n - 4, by omega⟩
    simp only [bs] at hk
    obtain ⟨j, j0, j1, e1⟩ := draw_ok (n + 2) ns (k := k) (m := 12) ht (by omega) (by decide)
    obtain ⟨s, hs, e2⟩ := leaf_ok n ns (k := k + 1) nm ht (by omega) hl
    refine ⟨s, k + 4, ?_, by omega, by simp [bs], hs.wf.1, by rw [(hs.wf (cs := cs)).2]; exact Nat.le_refl _⟩
    rw [E_law_sum]
    simp_all! [f_law_sum, e1, e2, Int.natCast_zero]
  | succ d ih =>
    intro n k hn hk
    obtain ⟨n, rfl⟩ : ∃ m, n = m + 5 := ⟨n - 5, by omega⟩
    simp only [bs] at hk
    have hb := bs_pos d
    have z1 : ((d + 1 : Nat) : Int) - 1 = (d : Int) := by omega
    have z2 : decide (((d + 1 : Nat) : Int) = 0) = false := by simp; omega
    obtain ⟨j, j0, j1, e1⟩ := draw_ok (n + 3) ns (k := k) (m := 12) ht (by omega) (by decide)
    by_cases c1 : j < 3
    · obtain ⟨s, hs, e2⟩ := leaf_ok (n + 1) ns (k := k + 1) nm ht (by omega) hl
      refine ⟨s, k + 4, ?_, by omega, by simp only [bs]; omega, hs.wf.1, by rw [(hs.wf (cs := cs)).2]; exact Nat.zero_le _⟩
      rw [E_law_sum]
      simp_all! [f_law_sum, e1, e2, z2, c1]
    by_cases c2 : j < 8
    · obtain ⟨w, hw, e2⟩ := pick_ok (n + 2) ns (k := k + 1) [.str "plus", .str "times", .str "less", .str "least", .str "most", .str "same", .str "under", .str "half"] ht (by omega) (by simp)
      obtain ⟨a, k1, e3, l1, l2, wa, da⟩ := ih (n + 4) (k + 2) (by omega) (by omega)
      have hw' : w = .str "half" ∨ ∃ w' : Wd, w = .str w'.str := by
        simp only [List.mem_cons, List.not_mem_nil, or_false] at hw
        rcases hw with rfl | rfl | rfl | rfl | rfl | rfl | rfl | rfl
        · exact .inr ⟨.plus, rfl⟩
        · exact .inr ⟨.times, rfl⟩
        · exact .inr ⟨.less, rfl⟩
        · exact .inr ⟨.least, rfl⟩
        · exact .inr ⟨.most, rfl⟩
        · exact .inr ⟨.same, rfl⟩
        · exact .inr ⟨.under, rfl⟩
        · exact .inl rfl
      rcases hw' with rfl | ⟨w, rfl⟩
      · refine ⟨.half a, k1, ?_, by omega, by simp only [bs]; omega, wa, by simp only [Sm.dep]; omega⟩
        rw [E_law_sum]
        simp_all! [f_law_sum, e1, e2, e3, z1, z2, c1, c2]
        rfl
      · obtain ⟨b, k2, e4, l3, l4, wb, db⟩ := ih (n + 4) k1 (by omega) (by omega)
        refine ⟨.two w a b, k2, ?_, by omega, by simp only [bs]; omega, ⟨wa, wb⟩, by simp only [Sm.dep]; omega⟩
        rw [E_law_sum]
        simp_all! [f_law_sum, e1, e2, e3, e4, z1, z2, c1, c2, Wd.ne_half]
        rfl
    by_cases c3 : j < 10 ∨ cs = []
    · obtain ⟨a, k1, e2, l1, l2, wa, da⟩ := ih (n + 4) (k + 1) (by omega) (by omega)
      obtain ⟨b, k2, e3, l3, l4, wb, db⟩ := ih (n + 4) k1 (by omega) (by omega)
      obtain ⟨c, k3, e4, l5, l6, wc, dc⟩ := ih (n + 4) k2 (by omega) (by omega)
      refine ⟨.ite a b c, k3, ?_, by omega, by simp only [bs]; omega, ⟨wa, wb, wc⟩, by simp only [Sm.dep]; omega⟩
      rw [E_law_sum]
      rcases c3 with c3 | rfl
      · simp_all! [f_law_sum, e1, e2, e3, e4, z1, z2, c1, c2, c3]
        rfl
      · by_cases c4 : j < 10
        · simp_all! [f_law_sum, e1, e2, e3, e4, z1, z2, c1, c2, c4]
          rfl
        · simp_all! [f_law_sum, e1, e2, e3, e4, z1, z2, c1, c2, c4, tr_cs0]
          rfl
    · have c4 : ¬ j < 10 := fun h => c3 (.inl h)
      have c5 : cs ≠ [] := fun h => c3 (.inr h)
      obtain ⟨p, hp, e2⟩ := pick_ok (n + 2) ns (k := k + 1) (cs.map fun c => .tup [.str c.1, .int (c.2 : Nat)]) ht (by omega) (by simpa using c5)
      obtain ⟨⟨f, m⟩, hm, rfl⟩ := List.mem_map.mp hp
      have hm4 := hc _ hm
      simp only at hm4
      obtain ⟨xs, k1, g1, g2, g3, g4, g5⟩ := compRow_gen (S := S) (t := t) (Q := fun x => ∃ s : Sm, x = s.toD ∧ s.Wf nm cs ∧ s.dep ≤ d) (b := bs d) (M := 16777216) (ds := (List.range m).map fun (i : Nat) => D.int i)
        (f := fun _ S => ((cal prg 4000 (n + 4)).fn 13 [.scr ns, .loc t, .tup (nm.map D.str), csD cs, .int d] S).bind fun x S => .ok [x] S) (by
          intro x _ k hk
          obtain ⟨s, k', e, l, l', ws, ds⟩ := ih (n + 4) k (by omega) hk
          exact ⟨s.toD, k', by simp only [e, rr_ok], l, l', s, rfl, ws, ds⟩) (k + 2) (by
          simp only [List.length_map, List.length_range]
          have : m * bs d ≤ 4 * bs d := Nat.mul_le_mul_right _ hm4
          omega)
      simp only [List.length_map, List.length_range] at g2 g4
      have hmb : m * bs d ≤ 4 * bs d := Nat.mul_le_mul_right _ hm4
      obtain ⟨as, rfl, ha⟩ := all_toD g5
      refine ⟨.call f as, k1, ?_, by omega, by simp only [bs]; omega, ⟨by rw [List.length_map] at g2; rw [g2]; exact hm, Wfs_iff.mpr fun a h => (ha a h).1⟩, by
        simp only [Sm.dep]
        have := deps_le.mpr fun a h => (ha a h).2
        omega⟩
      rw [E_law_sum]
      have hlen : as.length ≤ 16777216 := by rw [List.length_map] at g2; omega
      have e2' : (cal prg 4000 (n + 4)).fn 11 [.scr ns, .loc t, csD cs] (tw S t (k + 1)) = _ := e2
      simp_all! [f_law_sum, e1, e2', z1, z2, c1, c2, c4, tr_cs _ c5, g1]
      simp only [Sm.toD, toDs_map]
end CP

end
section
set_option maxHeartbeats 1000000
/-! callturn proofs, plain part: drawn trees, makers, books -/
namespace CP
open PySem CT
def bt : Nat → Nat
  | 0 => 1 + 9 * bs 2
  | d + 1 => 1 + 9 * bs 2 + 2 * bt d
theorem tree_ok (ns : List Int) (nm : List Str) (cs : List (Str × Nat)) {S : Sto} {t : Nat} (ht : t < S.length) (hl : nm.length ≤ 8) (hc : ∀ c ∈ cs, c.2 ≤ 4) : ∀ deep n k : Nat, deep + 8 ≤ n → k + bt deep ≤ 16777216 →
    ∃ (s : Tr) (k' : Nat), (cal prg 4000 n).fn 14 [.scr ns, .loc t, .tup (nm.map D.str), csD cs, .int deep] (tw S t k) = .ok s.toD (tw S t k') ∧ k ≤ k' ∧ k' ≤ k + bt deep ∧ s.Wf nm cs ∧ s.dep ≤ deep + 1 ∧ s.sdep ≤ 2 := by
  have hsum := sum_ok ns nm cs ht (by omega) hc 2
  have hmul : nm.length * bs 2 ≤ 8 * bs 2 := Nat.mul_le_mul_right _ hl
  intro deep
  induction deep with
  | zero =>
    intro n k hn hk
    obtain ⟨n, rfl⟩ : ∃ m, n = m + 8 := ⟨n - 8, by omega⟩
    simp only [bt] at hk
    obtain ⟨j, j0, j1, e1⟩ := draw_ok (n + 6) ns (k := k) (m := 6) ht (by omega) (by decide)
    obtain ⟨s, k1, e2, l1, l2, ws, ds⟩ := hsum (n + 7) (k + 1) (by omega) (by omega)
    refine ⟨.tell s, k1, ?_, by omega, by simp only [bt]; omega, ws, by simp [Tr.dep], ds⟩
    rw [E_law_tree]
    have e2' : (cal prg 4000 (n + 7)).fn 13 [.scr ns, .loc t, .tup (nm.map D.str), csD cs, .int 2] (tw S t (k + 1)) = _ := e2
    simp_all! [f_law_tree, e1, e2', Int.natCast_zero]
    rfl
  | succ d ih =>
    intro n k hn hk
    obtain ⟨n, rfl⟩ : ∃ m, n = m + 9 := ⟨n - 9, by omega⟩
    simp only [bt] at hk
    have z1 : ((d + 1 : Nat) : Int) - 1 = (d : Int) := by omega
    have z2 : decide (((d + 1 : Nat) : Int) = 0) = false := by simp; omega
    obtain ⟨j, j0, j1, e1⟩ := draw_ok (n + 7) ns (k := k) (m := 6) ht (by omega) (by decide)
    obtain ⟨s, k1, e2, l1, l2, ws, ds⟩ := hsum (n + 8) (k + 1) (by omega) (by omega)
    have e2' : (cal prg 4000 (n + 8)).fn 13 [.scr ns, .loc t, .tup (nm.map D.str), csD cs, .int 2] (tw S t (k + 1)) = _ := e2
    by_cases c1 : j < 1
    · refine ⟨.tell s, k1, ?_, by omega, by simp only [bt]; omega, ws, by simp [Tr.dep], ds⟩
      rw [E_law_tree]
      simp_all! [f_law_tree, e1, e2', z2, c1]
      rfl
    by_cases c2 : j < 3
    · obtain ⟨xs, k2, g1, g2, g3, g4, g5⟩ := compRow_gen (S := S) (t := t) (Q := fun x => ∃ s : Sm, x = s.toD ∧ s.Wf nm cs ∧ s.dep ≤ 2) (b := bs 2) (M := 16777216) (ds := (List.range nm.length).map fun (i : Nat) => D.int i)
        (f := fun _ S => ((cal prg 4000 (n + 8)).fn 13 [.scr ns, .loc t, .tup (nm.map D.str), csD cs, .int 2] S).bind fun x S => .ok [x] S) (by
          intro x _ k hk
          obtain ⟨s, k', e, l, l', ws, ds⟩ := hsum (n + 8) k (by omega) hk
          have e' : (cal prg 4000 (n + 8)).fn 13 [.scr ns, .loc t, .tup (nm.map D.str), csD cs, .int 2] (tw S t k) = _ := e
          exact ⟨s.toD, k', by simp only [e', rr_ok], l, l', s, rfl, ws, ds⟩) (k + 1) (by
          simp only [List.length_map, List.length_range]; omega)
      simp only [List.length_map, List.length_range] at g2 g4
      obtain ⟨as, rfl, ha⟩ := all_toD g5
      rw [List.length_map] at g2
      refine ⟨.again as, k2, ?_, by omega, by simp only [bt]; omega, ⟨g2, Wfs_iff.mpr fun a h => (ha a h).1⟩, by simp [Tr.dep], deps_le.mpr fun a h => (ha a h).2⟩
      rw [E_law_tree]
      simp_all! [f_law_tree, e1, z2, c1, c2, g1]
      rfl
    · obtain ⟨a, k2, e3, l3, l4, wa, da, sa⟩ := ih (n + 8) k1 (by omega) (by omega)
      obtain ⟨b, k3, e4, l5, l6, wb, db, sb⟩ := ih (n + 8) k2 (by omega) (by omega)
      refine ⟨.ite s a b, k3, ?_, by omega, by simp only [bt]; omega, ⟨ws, wa, wb⟩, by simp only [Tr.dep]; omega, by simp only [Tr.sdep]; omega⟩
      rw [E_law_tree]
      simp_all! [f_law_tree, e1, e2', e3, e4, z1, z2, c1, c2]
      rfl
end CP

end
section
set_option maxHeartbeats 1000000
/-! callturn proofs, plain part: drawn makers, books -/
namespace CP
open PySem CT
/-- two rows, thing by thing -/
def F2 {α β : Type} (Q : α → β → Prop) : List α → List β → Prop
  | [], [] => True
  | a :: x, b :: y => Q a b ∧ F2 Q x y
  | _, _ => False
theorem F2.length {α β : Type} {Q : α → β → Prop} : ∀ {x : List α} {y : List β}, F2 Q x y → y.length = x.length
  | [], [], _ => rfl
  | _ :: _, _ :: _, h => by simp [F2.length h.2]
  | [], _ :: _, h => h.elim
  | _ :: _, [], h => h.elim
theorem F2.mapR {α β γ : Type} {Q : α → β → Prop} {g : β → γ} {h : α → γ} (e : ∀ a b, Q a b → g b = h a) : ∀ {x : List α} {y : List β}, F2 Q x y → y.map g = x.map h
  | [], [], _ => rfl
  | _ :: _, _ :: _, q => by rw [List.map_cons, List.map_cons, e _ _ q.1, F2.mapR e q.2]
  | [], _ :: _, q => q.elim
  | _ :: _, [], q => q.elim
theorem F2.memR {α β : Type} {Q : α → β → Prop} {b : β} : ∀ {x : List α} {y : List β}, F2 Q x y → b ∈ y → ∃ a ∈ x, Q a b
  | [], [], _, h => by simp at h
  | a :: x, c :: y, q, h => by
    rcases List.mem_cons.mp h with rfl | h
    · exact ⟨a, by simp, q.1⟩
    · obtain ⟨a', h1, h2⟩ := F2.memR q.2 h
      exact ⟨a', by simp [h1], h2⟩
  | [], _ :: _, q, _ => q.elim
  | _ :: _, [], q, _ => q.elim
theorem compRow_genM {ι Y : Type} (td : ι → D) (u : Y → D) (Q : ι → Y → Prop) {f : D → Sto → R (List D)} {S : Sto} {t b M : Nat} : ∀ {ps : List ι}, (∀ p ∈ ps, ∀ k, k + b ≤ M → ∃ y k', f (td p) (tw S t k) = .ok [u y] (tw S t k') ∧ k ≤ k' ∧ k' ≤ k + b ∧ Q p y) →
    ∀ k, k + ps.length * b ≤ M → ∃ ys k', compRow f (ps.map td) (tw S t k) = .ok (ys.map u) (tw S t k') ∧ F2 Q ps ys ∧ k ≤ k' ∧ k' ≤ k + ps.length * b
  | [], _, k, _ => ⟨[], k, rfl, trivial, Nat.le_refl _, by simp⟩
  | d :: r, h, k, hk => by
    have e : (d :: r).length * b = b + r.length * b := by rw [List.length_cons, Nat.add_mul, Nat.one_mul, Nat.add_comm]
    rw [e] at hk
    obtain ⟨x, k1, h1, h2, h3, h4⟩ := h d (by simp) k (by omega)
    obtain ⟨xs, k2, g1, g2, g3, g4⟩ := compRow_genM td u Q (ps := r) (fun d' hd' => h d' (by simp [hd'])) k1 (by omega)
    refine ⟨x :: xs, k2, ?_, ⟨h4, g2⟩, by omega, by rw [e]; omega⟩
    rw [List.map_cons, compRow, h1, rr_ok, g1, rr_ok]; rfl
theorem cut_take {α : Type} (xs : List α) (m : Nat) : cut xs none (some (m : Int)) = xs.take m := by
  have h : ¬ ((m : Int) < 0) := by omega
  simp only [cut, sIx, h, if_false, Int.toNat_natCast, List.drop_zero, Nat.sub_zero]
  rw [Nat.min_def]
  split
  · rfl
  · rw [List.take_of_length_le (Nat.le_refl _), List.take_of_length_le (by omega)]
theorem cut_drop {α : Type} (xs : List α) (m : Nat) : cut xs (some (m : Int)) none = xs.drop m := by
  have h : ¬ ((m : Int) < 0) := by omega
  simp only [cut, sIx, h, if_false, Int.toNat_natCast]
  rw [Nat.min_def]
  split
  · rw [List.take_of_length_le (by simp)]
  · rw [List.drop_of_length_le (Nat.le_refl _), List.drop_of_length_le (by omega)]; simp
def n4 : List Str := ["n", "m", "x", "step"]
def m4 : List Str := ["f", "g", "main", "h"]
theorem cut_n4 (m : Nat) : cut [D.str "n", D.str "m", D.str "x", D.str "step"] none (some (m : Int)) = (n4.take m).map D.str := by
  rw [cut_take, List.map_take]; rfl
theorem cut_m4 (m : Nat) : cut [D.str "f", D.str "g", D.str "main", D.str "h"] none (some (m : Int)) = (m4.take m).map D.str := by
  rw [cut_take, List.map_take]; rfl
/-! ### dicts of rows -/
theorem dput_new {ks : List Key} {ds : List D} {j : Key} {x : D} (h : j ∉ ks) : dput ks ds j x = (ks ++ [j], ds ++ [x]) := by
  have : (ks.any fun k => decide (k = j)) = false := by
    rw [List.any_eq_false]
    intro k hk e
    exact h (by simp at e; rw [← e]; exact hk)
  simp [dput, this]
theorem dmerge_new : ∀ {js : List Key} {es : List D} {ks : List Key} {ds : List D}, js.length = es.length → js.Nodup → (∀ j ∈ js, j ∉ ks) → dmerge ks ds js es = (ks ++ js, ds ++ es)
  | [], [], _, _, _, _, _ => by simp [dmerge]
  | [], _ :: _, _, _, h, _, _ => by simp at h
  | _ :: _, [], _, _, h, _, _ => by simp at h
  | j :: js, e :: es, ks, ds, h, hn, hd => by
    rw [dmerge, dput_new (hd j (by simp))]
    have hn' := List.nodup_cons.mp hn
    rw [dmerge_new (by simpa using h) hn'.2 (fun i hi hm => ?_)]
    · simp
    · rcases List.mem_append.mp hm with hm | hm
      · exact hd i (by simp [hi]) hm
      · simp at hm
        subst hm
        exact hn'.1 hi
theorem dget_cs {f : Str} {m : Nat} : ∀ {cs : List (Str × Nat)}, (cs.map (·.1)).Nodup → (f, m) ∈ cs → dget (cs.map fun c => .inr c.1) (cs.map fun c => D.int (c.2 : Nat)) (.inr f) = some (.int m)
  | [], _, h => by simp at h
  | (g, j) :: cs, hn, h => by
    have hn' := List.nodup_cons.mp hn
    simp only [List.map_cons, dget]
    rcases List.mem_cons.mp h with e | h
    · cases e; simp
    · have : g ≠ f := by
        intro e
        subst e
        exact hn'.1 (List.mem_map.mpr ⟨(g, m), h, rfl⟩)
      rw [if_neg (by intro e; exact this (Sum.inr.inj e))]
      exact dget_cs hn'.2 h
theorem prs_cs : ∀ cs : List (Str × Nat), prs (cs.map fun c => D.tup [.str c.1, .int (c.2 : Nat)]) = some (cs.map fun c => .inr c.1, cs.map fun c => D.int (c.2 : Nat))
  | [] => rfl
  | c :: r => by
    simp only [List.map_cons, prs, keyOf, prs_cs r]
theorem dict_cs (S : Sto) {cs : List (Str × Nat)} (hn : (cs.map (·.1)).Nodup) : b1 .dict false (csD cs) S = .ok (.dct (cs.map fun c => .inr c.1) (cs.map fun c => D.int (c.2 : Nat))) S := by
  have e : dmerge [] [] (cs.map fun c => (.inr c.1 : Key)) (cs.map fun c => D.int (c.2 : Nat)) = (cs.map fun c => .inr c.1, cs.map fun c => D.int (c.2 : Nat)) := by
    rw [dmerge_new (by simp) ?_ (by simp)]
    · simp
    · have : (cs.map fun c => (.inr c.1 : Key)) = (cs.map (·.1)).map Sum.inr := by simp
      rw [this]
      exact List.Pairwise.map _ (fun _ _ h e => h (Sum.inr.inj e)) hn
  show orNo (((asM S (.lst (cs.map fun c => .tup [.str c.1, .int (c.2 : Nat)]))).bind prs)) _ = _
  rw [show asM S (.lst (cs.map fun c => .tup [.str c.1, .int (c.2 : Nat)])) = some (cs.map fun c => .tup [.str c.1, .int (c.2 : Nat)]) from rfl]
  rw [Option.bind_some, prs_cs, oo_some]
  simp only [e]
  rfl
def Mk.Gen (d : Nat) : Mk → Prop
  | .fn _ ns b => (∃ m ≤ 3, ns = n4.take m) ∧ b.dep ≤ d
  | .lp _ ns k t => (∃ m ≤ 3, ns = n4.take m) ∧ (∃ j ≤ 2, k.map (·.1) = (["k", "acc"] : List Str).take j) ∧ (∀ p ∈ k, p.2.dep ≤ 2) ∧ t.dep ≤ 4 ∧ t.sdep ≤ 2
def bm (d : Nat) : Nat := 2 + 2 * bs 2 + bs d + bt 3
theorem n4_nodup (m : Nat) : (n4.take m).Nodup := List.Pairwise.sublist (List.take_sublist _ _) (by decide +kernel)
theorem n4_k (m : Nat) (l : List Str) (hl : l.Sublist ["k", "acc"]) : (n4.take m ++ l).Nodup :=
  List.Pairwise.sublist (List.Sublist.append (List.take_sublist m n4) hl) (by decide +kernel)
end CP

end
section
set_option maxHeartbeats 1000000
/-! callturn proofs, plain part: drawn makers, books -/
namespace CP
open PySem CT
structure MkOk (cs : List (Str × Nat)) (d : Nat) (f : Str) (m : Nat) (k : Mk) : Prop where
  name : k.name = f
  names : k.names = n4.take m
  wf : k.Wf cs
  gen : k.Gen d
theorem n4_len {m : Nat} (h : m ≤ 4) : (n4.take m).length = m := by simp [n4]; omega
theorem maker_ok (ns : List Int) {cs : List (Str × Nat)} {S : Sto} {t : Nat} (ht : t < S.length) (hc : ∀ c ∈ cs, c.2 ≤ 3) (hn : (cs.map (·.1)).Nodup) {f : Str} {m : Nat} (hm : (f, m) ∈ cs) (n k : Nat) (hf : 20 ≤ n) (hk : k + bm 4 ≤ 16777216) :
    ∃ (s : Mk) (k' : Nat), (cal prg 4000 n).fn 15 [.scr ns, .loc t, .str f, csD cs] (tw S t k) = .ok s.toD (tw S t k') ∧ k ≤ k' ∧ k' ≤ k + bm 4 ∧ MkOk cs 4 f m s := by
  obtain ⟨n, rfl⟩ : ∃ m, n = m + 20 := ⟨n - 20, by omega⟩
  have hm3 : m ≤ 3 := hc _ hm
  have hc4 : ∀ c ∈ cs, c.2 ≤ 4 := fun c h => Nat.le_succ_of_le (hc c h)
  have hln : (n4.take m).length = m := n4_len (by omega)
  unfold bm at hk
  have hdg := dget_cs hn hm
  obtain ⟨j, j0, j1, e1⟩ := draw_ok (n + 18) ns (k := k) (m := 3) ht (by omega) (by decide)
  by_cases c1 : 0 < j
  · obtain ⟨s, k1, e2, l1, l2, ws, ds⟩ := sum_ok ns (n4.take m) cs ht (by omega) hc4 4 (n + 19) (k + 1) (by omega) (by omega)
    have e2' : (cal prg 4000 (n + 19)).fn 13 [.scr ns, .loc t, .tup ((n4.take m).map D.str), csD cs, .int 4] (tw S t (k + 1)) = _ := e2
    refine ⟨.fn f (n4.take m) s, k1, ?_, by omega, by unfold bm; omega, rfl, rfl, ⟨by rw [hln]; exact hm, n4_nodup m, ws⟩, ⟨m, hm3, rfl⟩, ds⟩
    rw [E_law_maker]
    simp_all! [f_law_maker, dict_cs _ hn, hdg, cut_n4, e1, e2', c1]
    rfl
  · obtain ⟨i, i0, i1, e2⟩ := draw_ok (n + 18) ns (k := k + 1) (m := 3) ht (by omega) (by decide)
    obtain ⟨a, k1, e3, l1, l2, wa, da⟩ := sum_ok ns (n4.take m) cs ht (by omega) hc4 2 (n + 19) (k + 2) (by omega) (by omega)
    obtain ⟨b, k2, e4, l3, l4, wb, db⟩ := sum_ok ns (n4.take m) cs ht (by omega) hc4 2 (n + 19) k1 (by omega) (by omega)
    have e3' : (cal prg 4000 (n + 19)).fn 13 [.scr ns, .loc t, .tup ((n4.take m).map D.str), csD cs, .int 2] (tw S t (k + 2)) = _ := e3
    have e4' : (cal prg 4000 (n + 19)).fn 13 [.scr ns, .loc t, .tup ((n4.take m).map D.str), csD cs, .int 2] (tw S t k1) = _ := e4
    obtain rfl | rfl | rfl : i = 0 ∨ i = 1 ∨ i = 2 := by omega
    · obtain ⟨r, k3, e5, l5, l6, wr, dr, sr⟩ := tree_ok ns (n4.take m ++ []) cs ht (by simp; omega) hc4 3 (n + 19) (k + 2) (by omega) (by omega)
      have e5' : (cal prg 4000 (n + 19)).fn 14 [.scr ns, .loc t, .tup ((n4.take m).map D.str ++ []), csD cs, .int 3] (tw S t (k + 2)) = .ok r.toD (tw S t k3) := by
        rw [List.map_append] at e5; exact e5
      refine ⟨.lp f (n4.take m) [] r, k3, ?_, by omega, by unfold bm; omega, rfl, rfl, ⟨by rw [hln]; exact hm, n4_k m [] (by decide), by simp, wr⟩, ⟨m, hm3, rfl⟩, ⟨0, by omega, rfl⟩, by simp, dr, sr⟩
      rw [E_law_maker]
      simp_all! [f_law_maker, dict_cs _ hn, hdg, cut_n4, e1, e2, e5', c1]
      rfl
    · obtain ⟨r, k3, e5, l5, l6, wr, dr, sr⟩ := tree_ok ns (n4.take m ++ (["k"] : List Str)) cs ht (by simp; omega) hc4 3 (n + 19) k1 (by omega) (by omega)
      have e5' : (cal prg 4000 (n + 19)).fn 14 [.scr ns, .loc t, .tup ((n4.take m).map D.str ++ [D.str "k"]), csD cs, .int 3] (tw S t k1) = .ok r.toD (tw S t k3) := by
        rw [List.map_append] at e5; exact e5
      refine ⟨.lp f (n4.take m) [("k", a)] r, k3, ?_, by omega, by unfold bm; omega, rfl, rfl, ⟨by rw [hln]; exact hm, n4_k m ["k"] (by decide +kernel), by simpa using wa, wr⟩, ⟨m, hm3, rfl⟩, ⟨1, by omega, rfl⟩, by simpa using da, dr, sr⟩
      rw [E_law_maker]
      simp_all! [f_law_maker, dict_cs _ hn, hdg, cut_n4, e1, e2, e3', e5', c1]
      rfl
    · obtain ⟨r, k3, e5, l5, l6, wr, dr, sr⟩ := tree_ok ns (n4.take m ++ (["k", "acc"] : List Str)) cs ht (by simp; omega) hc4 3 (n + 19) k2 (by omega) (by omega)
      have e5' : (cal prg 4000 (n + 19)).fn 14 [.scr ns, .loc t, .tup ((n4.take m).map D.str ++ [D.str "k", D.str "acc"]), csD cs, .int 3] (tw S t k2) = .ok r.toD (tw S t k3) := by
        rw [List.map_append] at e5; exact e5
      refine ⟨.lp f (n4.take m) [("k", a), ("acc", b)] r, k3, ?_, by omega, by unfold bm; omega, rfl, rfl, ⟨by rw [hln]; exact hm, n4_k m ["k", "acc"] (List.Sublist.refl _), ?_, wr⟩, ⟨m, hm3, rfl⟩, ⟨2, by omega, rfl⟩, ?_, dr, sr⟩
      · rw [E_law_maker]
        simp_all! [f_law_maker, dict_cs _ hn, hdg, cut_n4, e1, e2, e3', e4', e5', c1]
        rfl
      · intro p hp; simp at hp; rcases hp with rfl | rfl
        · exact wa
        · exact wb
      · intro p hp; simp at hp; rcases hp with rfl | rfl
        · exact da
        · exact db
theorem csD_fold (cs : List (Str × Nat)) : D.lst (cs.map fun c => D.tup [.str c.1, .int (c.2 : Nat)]) = csD cs := (rfl)
/-- a drawn book -/
structure Bk (d : Nat) (b : List Mk) : Prop where
  pos : 1 ≤ b.length
  len : b.length ≤ 4
  names : b.map Mk.name = m4.take b.length
  wf : ∀ m ∈ b, m.Wf (b.map fun m => (m.name, m.names.length))
  gen : ∀ m ∈ b, m.Gen d
def bb (d : Nat) : Nat := 5 + 4 * bm d
theorem nodup_m4 (m : Nat) : (m4.take m).Nodup := List.Pairwise.sublist (List.take_sublist _ _) (by decide +kernel)
theorem book_ok (ns : List Int) {S : Sto} {t : Nat} (ht : t < S.length) (n k : Nat) (hf : 21 ≤ n) (hk : k + bb 4 ≤ 16777216) :
    ∃ (b : List Mk) (k' : Nat), (cal prg 4000 n).fn 16 [.scr ns, .loc t] (tw S t k) = .ok (bkD b) (tw S t k') ∧ k ≤ k' ∧ k' ≤ k + bb 4 ∧ Bk 4 b := by
  obtain ⟨n, rfl⟩ : ∃ m, n = m + 21 := ⟨n - 21, by omega⟩
  unfold bb at hk
  obtain ⟨j, j0, j1, e1⟩ := draw_ok (n + 19) ns (k := k) (m := 4) ht (by omega) (by decide)
  obtain ⟨q, rfl⟩ := Int.eq_ofNat_of_zero_le j0
  have hq : q < 4 := by omega
  have hl4 : (m4.take (q + 1)).length = q + 1 := by simp [m4]; omega
  have hmul : (m4.take (q + 1)).length * 1 ≤ 4 := by omega
  obtain ⟨cs, k1, g1, g2, g3, g4⟩ := compRow_genM D.str (fun c : Str × Nat => D.tup [.str c.1, .int (c.2 : Nat)]) (fun f c => c.1 = f ∧ c.2 ≤ 3) (S := S) (t := t) (b := 1) (M := 16777216) (ps := m4.take (q + 1))
    (f := fun d S => ((((((cal prg 4000 (n + 20)).fn 10 [.scr ns, .loc t, .int 4] S).bnd fun x S => (evs (cal prg 4000 (n + 20)) [] [some (.scr ns), some (.loc t), some (.lst ((m4.take (q + 1)).map D.str)), none, some d] S).bnd fun xs S => R.ok (x :: xs) S).bnd fun xs S => R.ok (d :: xs) S).bnd fun vs S => if fits vs.length = true then R.ok (.tup vs) S else .no).bind fun x S => R.ok [x] S)) (by
      intro f _ k hk
      obtain ⟨i, i0, i1, e⟩ := draw_ok (n + 19) ns (k := k) (m := 4) ht (by omega) (by decide)
      obtain ⟨i, rfl⟩ := Int.eq_ofNat_of_zero_le i0
      refine ⟨(f, i), k + 1, ?_, by omega, by omega, rfl, by omega⟩
      simp_all! [e]) (k + 1) (by omega)
  have hnames : cs.map (·.1) = m4.take (q + 1) := by
    have := g2.mapR (g := fun c => c.1) (h := fun f => f) (fun a b h => h.1)
    simpa using this
  have hnd : (cs.map (·.1)).Nodup := by rw [hnames]; exact nodup_m4 _
  have hle : ∀ c ∈ cs, c.2 ≤ 3 := fun c h => by
    obtain ⟨_, _, _, h⟩ := g2.memR h
    exact h
  have hmul2 : (m4.take (q + 1)).length * bm 4 ≤ 4 * bm 4 := Nat.mul_le_mul_right _ (by omega)
  obtain ⟨b, k2, r1, r2, r3, r4⟩ := compRow_genM D.str Mk.toD (fun f s => ∃ m, (f, m) ∈ cs ∧ MkOk cs 4 f m s) (S := S) (t := t) (b := bm 4) (M := 16777216) (ps := m4.take (q + 1))
    (f := fun d S => ((cal prg 4000 (n + 20)).fn 15 [.scr ns, .loc t, d, csD cs] S).bind fun x S => .ok [x] S) (by
      intro f hf k hk
      obtain ⟨m, hm⟩ : ∃ m, (f, m) ∈ cs := by
        rw [← hnames] at hf
        obtain ⟨⟨f', m⟩, h, rfl⟩ := List.mem_map.mp hf
        exact ⟨m, h⟩
      obtain ⟨s, k', e, l, l', h⟩ := maker_ok ns ht hle hnd hm (n + 20) k (by omega) hk
      exact ⟨s, k', by simp only [e, rr_ok], l, l', m, hm, h⟩) k1 (by omega)
  have hln := g2.length
  have hlb := r2.length
  have hbn : b.map Mk.name = m4.take (q + 1) := by
    have := r2.mapR (g := Mk.name) (h := fun f => f) (fun a b h => by obtain ⟨m, _, h⟩ := h; exact h.name)
    simpa using this
  have hbc : (b.map fun m => (m.name, m.names.length)) = cs := by
    have key : ∀ (x : List Str) (y : List Mk) (z : List (Str × Nat)), F2 (fun f s => ∃ m, (f, m) ∈ cs ∧ MkOk cs 4 f m s) x y → F2 (fun f c => c.1 = f ∧ c.2 ≤ 3) x z → (∀ c ∈ z, c ∈ cs) → (y.map fun m => (m.name, m.names.length)) = z := by
      intro x
      induction x with
      | nil =>
        intro y z h1 h2 _
        cases y with
        | nil =>
          cases z with
          | nil => rfl
          | cons => exact h2.elim
        | cons => exact h1.elim
      | cons f x ih =>
        intro y z h1 h2 h3
        cases y with
        | nil => exact h1.elim
        | cons s y =>
          cases z with
          | nil => exact h2.elim
          | cons c z =>
            obtain ⟨⟨m, hm, ho⟩, h1⟩ := h1
            obtain ⟨⟨hc1, hc2⟩, h2⟩ := h2
            rw [List.map_cons, ih y z h1 h2 (fun c h => h3 c (by simp [h]))]
            have hcm : c ∈ cs := h3 c (by simp)
            have em : m = c.2 := by
              have d1 := dget_cs hnd hm
              have d2 := dget_cs hnd (f := c.1) (m := c.2) hcm
              rw [hc1, d1] at d2
              injection d2 with d2
              injection d2 with d2
              omega
            congr 1
            rw [ho.name, ho.names, n4_len (by omega), em, ← hc1]
    exact key _ b cs r2 g2 (fun _ h => h)
  refine ⟨b, k2, ?_, by omega, by unfold bb; omega, ⟨by omega, by omega, by rw [hbn, hlb, hl4], ?_, ?_⟩⟩
  · have zc : ((q : Nat) : Int) + 1 = ((q + 1 : Nat) : Int) := by omega
    have g1' : compRow (fun d S => ((((((cal prg 4000 (n + 20)).fn 10 [.scr ns, .loc t, .int 4] S).bnd fun x S => (evs (cal prg 4000 (n + 20)) [] [some (.scr ns), some (.loc t), some (.lst ((m4.take (q + 1)).map D.str)), none, some d] S).bnd fun xs S => R.ok (x :: xs) S).bnd fun xs S => R.ok (d :: xs) S).bnd fun vs S => if fits vs.length = true then R.ok (.tup vs) S else .no).bind fun x S => R.ok [x] S)) ((m4.take (q + 1)).map D.str) (tw S t (k + 1)) = .ok (cs.map fun c => D.tup [.str c.1, .int (c.2 : Nat)]) (tw S t k1) := g1
    rw [E_law_book]
    simp_all! [f_law_book, e1, zc, cut_m4, g1', csD_fold, r1]
    rfl
  · intro m hm
    obtain ⟨f, _, i, hi, ho⟩ := r2.memR hm
    rw [hbc]; exact ho.wf
  · intro m hm
    obtain ⟨f, _, i, hi, ho⟩ := r2.memR hm
    exact ho.gen
end CP

end
section
set_option maxHeartbeats 1000000
/-! callturn proofs, plain part: any things; names, sums, trees, makers, books among them -/
namespace CP
open PySem CT
/-- a text as texts are -/
def Sok (s : Str) : Prop := s.length ≤ 1000 ∧ s.cps.all (· < 1114112) = true
/-- plain things, at most so deep -/
def Pd : Nat → D → Prop
  | _, .non => True
  | _, .bl _ => True
  | _, .int _ => True
  | _, .str s => Sok s
  | n + 1, .tup ds => ds.length ≤ 1000 ∧ ∀ d ∈ ds, Pd n d
  | n + 1, .lst ds => ds.length ≤ 1000 ∧ ∀ d ∈ ds, Pd n d
  | _, _ => False
theorem Pd.mono : ∀ {n m : Nat} {d : D}, n ≤ m → Pd n d → Pd m d
  | _, _, .non, _, _ => by unfold Pd; trivial
  | _, _, .bl _, _, _ => by unfold Pd; trivial
  | _, _, .int _, _, _ => by unfold Pd; trivial
  | _, _, .str s, _, h => by unfold Pd at *; exact h
  | n + 1, m + 1, .tup ds, hl, h => by
    unfold Pd at *
    exact ⟨h.1, fun d hd => (h.2 d hd).mono (by omega)⟩
  | n + 1, m + 1, .lst ds, hl, h => by
    unfold Pd at *
    exact ⟨h.1, fun d hd => (h.2 d hd).mono (by omega)⟩
  | 0, _, .tup ds, _, h => by unfold Pd at h; exact h.elim
  | 0, _, .lst ds, _, h => by unfold Pd at h; exact h.elim
  | _, _, .dct _ _, _, h => by unfold Pd at h; exact h.elim
  | _, _, .loc _, _, h => by unfold Pd at h; exact h.elim
  | _, _, .scr _, _, h => by unfold Pd at h; exact h.elim
  | _ + 1, 0, .tup _, hl, _ => by omega
  | _ + 1, 0, .lst _, hl, _ => by omega
theorem Pd.deep : ∀ {n : Nat} {d : D}, Pd n d → D.deep n d = true
  | _, .non, _ => by simp [D.deep]
  | _, .bl _, _ => by simp [D.deep]
  | _, .int _, _ => by simp [D.deep]
  | _, .str s, h => by unfold Pd at h; simpa [D.deep] using h.2
  | n + 1, .tup ds, h => by
    unfold Pd at h
    simp only [D.deep]
    have : ∀ es : List D, (∀ d ∈ es, Pd n d) → deeps n es = true := by
      intro es
      induction es with
      | nil => intro _; simp [deeps]
      | cons e r ih => intro h; simp only [deeps, Bool.and_eq_true]; exact ⟨(h e (by simp)).deep, ih fun d hd => h d (by simp [hd])⟩
    exact this ds h.2
  | n + 1, .lst ds, h => by
    unfold Pd at h
    simp only [D.deep]
    have : ∀ es : List D, (∀ d ∈ es, Pd n d) → deeps n es = true := by
      intro es
      induction es with
      | nil => intro _; simp [deeps]
      | cons e r ih => intro h; simp only [deeps, Bool.and_eq_true]; exact ⟨(h e (by simp)).deep, ih fun d hd => h d (by simp [hd])⟩
    exact this ds h.2
  | 0, .tup ds, h => by unfold Pd at h; exact h.elim
  | 0, .lst ds, h => by unfold Pd at h; exact h.elim
  | _, .dct _ _, h => by unfold Pd at h; exact h.elim
  | _, .loc _, h => by unfold Pd at h; exact h.elim
  | _, .scr _, h => by unfold Pd at h; exact h.elim
theorem Pd.tup {n : Nat} {ds : List D} (h : Pd n (.tup ds)) : ds.length ≤ 1000 ∧ ∀ d ∈ ds, Pd n d := by
  cases n with
  | zero => unfold Pd at h; exact h.elim
  | succ n => unfold Pd at h; exact ⟨h.1, fun d hd => (h.2 d hd).mono (by omega)⟩
theorem Pd.str {n : Nat} {s : Str} (h : Pd n (.str s)) : Sok s := by
  unfold Pd at h; exact h
def words : List Str := ["plus", "times", "less", "least", "most", "same", "under", "half", "if", "call"]
def letters : Str := "abcdefghijklmnopqrstuvwxyz"
def nmOk (s : Str) : Bool := decide (1 ≤ s.length) && (decide (s.length ≤ 4) && (!words.contains s && s.cps.toList.all fun c => substr ⟨#[c]⟩ letters))
end CP

end
section
set_option maxHeartbeats 1000000
/-! callturn proofs, plain part: is a thing a sum, a tree? -/
namespace CP
open PySem CT
theorem cut1 {α : Type} (x : α) (xs : List α) : cut (x :: xs) (some 1) none = xs := cut_drop (x :: xs) 1
end CP

end
section
set_option maxHeartbeats 1000000
/-! callturn proofs, plain part: is a thing a tree, a maker, a book? -/
namespace CP
open PySem CT
theorem sok_tell : Sok "tell" := ⟨by decide +kernel, by decide +kernel⟩
theorem sok_again : Sok "again" := ⟨by decide +kernel, by decide +kernel⟩
theorem sok_if : Sok "if" := ⟨by decide +kernel, by decide +kernel⟩
theorem sok_call : Sok "call" := ⟨by decide +kernel, by decide +kernel⟩
theorem sok_half : Sok "half" := ⟨by decide +kernel, by decide +kernel⟩
end CP

end
section
set_option maxHeartbeats 1000000
/-! callturn proofs, plain part: is a thing names, kept ones, a maker, a book? -/
namespace CP
open PySem CT
end CP

end
section
set_option maxHeartbeats 1000000
/-! callturn proofs, plain part: kept ones, makers, books -/
namespace CP
open PySem CT
end CP

end
section
set_option maxHeartbeats 1000000
/-! callturn proofs, plain part: is a thing a book? -/
namespace CP
open PySem CT
mutual
theorem D.beq_refl : ∀ d : D, D.beq d d = true
  | .non => by simp [D.beq]
  | .bl _ => by simp [D.beq]
  | .int _ => by simp [D.beq]
  | .str _ => by simp [D.beq]
  | .tup ds => by simp only [D.beq]; exact beqs_refl ds
  | .lst ds => by simp only [D.beq]; exact beqs_refl ds
  | .dct ks ds => by simp only [D.beq, decide_true, Bool.true_and]; exact beqs_refl ds
  | .loc _ => by simp [D.beq]
  | .scr _ => by simp [D.beq]
theorem beqs_refl : ∀ ds : List D, beqs ds ds = true
  | [] => by simp [beqs]
  | d :: r => by simp only [beqs, D.beq_refl d, beqs_refl r, Bool.and_true]
end
theorem Ob.beq_refl (o : Ob) : Ob.beq o o = true := by
  cases o <;> simp [Ob.beq, beqs_refl]
theorem obeqs_refl : ∀ S : List Ob, obeqs S S = true
  | [] => rfl
  | o :: r => by simp only [obeqs, Ob.beq_refl o, obeqs_refl r, Bool.and_true]
theorem own_rt (S0 X : Sto) (d : D) (h : d.pure = true) : endOf true S0 (.rt d (S0 ++ X)) = .ok d S0 := by
  have e : (S0 ++ X).take S0.length = S0 := by simp
  simp only [endOf, endOf.fin, e, obeqs_refl, h, if_true, Bool.and_true]
theorem own_rt0 (S0 : Sto) (d : D) (h : d.pure = true) : endOf true S0 (.rt d S0) = .ok d S0 := by
  have := own_rt S0 [] d h
  simpa using this
/-- a maker's front -/
structure Fr where
  f : Str
  nm : List Str
  r : List D
def Fr.toD (x : Fr) : D := .tup (.str x.f :: nmD x.nm :: x.r)
structure Fr.Ok (k : Nat) (x : Fr) : Prop where
  f : nmOk x.f = true
  len : x.nm.length ≤ 4
  nm : x.nm.all nmOk = true
  nd : x.nm.Nodup
  r : x.r.length = 1 ∨ x.r.length = 2
  pd : ∀ d ∈ x.r, Pd k d
def Fr.key (x : Fr) : Str × Nat := (x.f, x.nm.length)
end CP

end
section
set_option maxHeartbeats 1000000
/-! callturn proofs, plain part: is a thing a book? -/
namespace CP
open PySem CT
end CP

end
section
set_option maxHeartbeats 1000000
/-! callturn proofs, plain part: what the program tells of sums -/
namespace CP
open PySem CT
def Sm.parts : Sm → List Sm
  | .num _ => []
  | .nam _ => []
  | .half a => [a]
  | .two _ a b => [a, b]
  | .ite t a b => [t, a, b]
  | .call _ as => as
mutual
def Sm.size : Sm → Nat
  | .num _ => 1
  | .nam _ => 1
  | .half a => a.size + 1
  | .two _ a b => a.size + b.size + 1
  | .ite t a b => t.size + a.size + b.size + 1
  | .call _ as => sizes as + 1
def sizes : List Sm → Nat
  | [] => 0
  | a :: r => a.size + sizes r
end
theorem sizes_sum : ∀ as : List Sm, sizes as = (as.map Sm.size).sum
  | [] => rfl
  | a :: r => by rw [sizes, sizes_sum r]; simp
theorem Sm.size_parts (s : Sm) : s.size = (s.parts.map Sm.size).sum + 1 := by
  cases s <;> simp [Sm.size, Sm.parts, sizes_sum] <;> omega
theorem Sm.size_pos (s : Sm) : 1 ≤ s.size := by rw [s.size_parts]; omega
theorem sum_mem {l : List Nat} {x : Nat} (h : x ∈ l) : x ≤ l.sum := by
  induction l with
  | nil => simp at h
  | cons a r ih =>
    rcases List.mem_cons.mp h with rfl | h
    · simp
    · have := ih h
      simp; omega
theorem Sm.size_part {s p : Sm} (h : p ∈ s.parts) : p.size < s.size := by
  rw [s.size_parts]
  have := sum_mem (List.mem_map.mpr ⟨p, h, rfl⟩ : p.size ∈ s.parts.map Sm.size)
  omega
theorem len_sum : ∀ l : List Sm, l.length ≤ (l.map Sm.size).sum
  | [] => by simp
  | a :: r => by
    have := len_sum r
    have := a.size_pos
    simp; omega
theorem Sm.parts_len (s : Sm) : s.parts.length < s.size := by
  rw [s.size_parts]
  have := len_sum s.parts
  omega
theorem Sm.dep_part {s p : Sm} (h : p ∈ s.parts) : p.dep + 1 ≤ s.dep := by
  cases s with
  | num => simp [Sm.parts] at h
  | nam => simp [Sm.parts] at h
  | half a => simp [Sm.parts] at h; subst h; simp [Sm.dep]
  | two w a b => simp [Sm.parts] at h; rcases h with rfl | rfl <;> simp only [Sm.dep] <;> omega
  | ite t a b => simp [Sm.parts] at h; rcases h with rfl | rfl | rfl <;> simp only [Sm.dep] <;> omega
  | call f as =>
    simp only [Sm.parts] at h
    have : p.dep ≤ deps as := deps_le.mp (Nat.le_refl _) p h
    simp only [Sm.dep]; omega
/-- induction by the parts -/
theorem Sm.indP {P : Sm → Prop} (h : ∀ s : Sm, (∀ p ∈ s.parts, P p) → P s) : ∀ s, P s := by
  have key : ∀ n (s : Sm), s.size ≤ n → P s := by
    intro n
    induction n with
    | zero => intro s hs; have := s.size_pos; omega
    | succ n ih => intro s hs; exact h s fun p hp => ih p (by have := Sm.size_part hp; omega)
  exact fun s => key _ s (Nat.le_refl _)
theorem Wd.n_call (w : Wd) : (w.str = "call") = False := by cases w <;> simp [Wd.str, ofS_inj]
theorem Wd.n_if (w : Wd) : (w.str = "if") = False := by cases w <;> simp [Wd.str, ofS_inj]
theorem parts_of_ok (n : Nat) (S : Sto) (s : Sm) : (cal prg 4000 (n + 1)).fn 25 [s.toD] S = .ok (.tup (s.parts.map Sm.toD)) S := by
  rw [E_parts_of]
  cases s <;> simp only [Sm.toD, Sm.parts, toDs_map]
  · simp_all! [f_parts_of]
  · simp_all! [f_parts_of]
  · simp_all! [f_parts_of, cut1]
  · simp_all! [f_parts_of, cut1, Wd.n_call]
  · simp_all! [f_parts_of, cut1]
  · simp_all! [f_parts_of]
/-! ### does it call? -/
def Sm.callOf (ns : List Str) : Sm → Bool
  | .call f _ => ns.contains f
  | _ => false
mutual
def Sm.callsAny (ns : List Str) : Sm → Bool
  | .num _ => false
  | .nam _ => false
  | .half a => a.callsAny ns
  | .two _ a b => a.callsAny ns || b.callsAny ns
  | .ite t a b => t.callsAny ns || (a.callsAny ns || b.callsAny ns)
  | .call f as => ns.contains f || callsAnys ns as
def callsAnys (ns : List Str) : List Sm → Bool
  | [] => false
  | a :: r => a.callsAny ns || callsAnys ns r
end
theorem callsAnys_any (ns : List Str) : ∀ as : List Sm, callsAnys ns as = as.any (Sm.callsAny ns)
  | [] => rfl
  | a :: r => by rw [callsAnys, callsAnys_any ns r]; rfl
theorem Sm.callsAny_parts (ns : List Str) (s : Sm) : s.callsAny ns = (s.callOf ns || s.parts.any (Sm.callsAny ns)) := by
  cases s <;> simp [Sm.callsAny, Sm.callOf, Sm.parts, callsAnys_any]
end CP

end
section
set_option maxHeartbeats 1000000
/-! callturn proofs, plain part: whom a sum calls -/
namespace CP
open PySem CT
/-! ### the called ones, in order -/
def Sm.own : Sm → List Str
  | .call f _ => [f]
  | _ => []
mutual
def Sm.called : Sm → List Str
  | .num _ => []
  | .nam _ => []
  | .half a => a.called
  | .two _ a b => a.called ++ b.called
  | .ite t a b => t.called ++ (a.called ++ b.called)
  | .call f as => calleds as ++ [f]
def calleds : List Sm → List Str
  | [] => []
  | a :: r => a.called ++ calleds r
end
theorem calleds_flat : ∀ as : List Sm, calleds as = as.flatMap Sm.called
  | [] => rfl
  | a :: r => by rw [calleds, calleds_flat r]; rfl
theorem Sm.called_parts (s : Sm) : s.called = s.parts.flatMap Sm.called ++ s.own := by
  cases s <;> simp [Sm.called, Sm.parts, Sm.own, calleds_flat]
theorem Sm.called_len : ∀ s : Sm, s.called.length ≤ s.size := by
  intro s
  induction s using Sm.indP with
  | h s ih =>
    rw [s.called_parts, s.size_parts]
    have h1 : s.own.length ≤ 1 := by cases s <;> simp [Sm.own]
    have h2 : ∀ l : List Sm, (∀ p ∈ l, p.called.length ≤ p.size) → (l.flatMap Sm.called).length ≤ (l.map Sm.size).sum := by
      intro l
      induction l with
      | nil => intro _; simp
      | cons a r ih2 =>
        intro h
        have := h a (by simp)
        have := ih2 fun p hp => h p (by simp [hp])
        rw [List.flatMap_cons, List.length_append, List.map_cons, List.sum_cons]; omega
    have := h2 s.parts ih
    rw [List.length_append]; omega
theorem called_in_loop (n : Nat) (d0 : D) (S : Sto) : ∀ (ps : List Sm) (acc : List Str) (x : Option D), (∀ p ∈ ps, (cal prg 4000 n).fn 79 [p.toD] S = .ok (.tup (p.called.map D.str)) S) → acc.length + (ps.flatMap Sm.called).length ≤ 16777216 →
    ∃ x', forRow (fbody (cal prg 4000 n) (.one 2) f_called_in_L1) (ps.map Sm.toD) [some d0, some (.tup (acc.map D.str)), x] S = .nx [some d0, some (.tup ((acc ++ ps.flatMap Sm.called).map D.str)), x'] S
  | [], acc, x, _, _ => ⟨x, by simp [forRow]⟩
  | p :: ps, acc, x, h, hl => by
    have hl' : acc.length + (p.called.length + (ps.flatMap Sm.called).length) ≤ 16777216 := by rw [List.flatMap_cons, List.length_append] at hl; exact hl
    obtain ⟨x', e⟩ := called_in_loop n d0 S ps (acc ++ p.called) (some p.toD) (fun q hq => h q (by simp [hq])) (by rw [List.length_append]; omega)
    refine ⟨x', ?_⟩
    have hm : acc.map D.str ++ p.called.map D.str = (acc ++ p.called).map D.str := by simp
    have hp := h p (by simp)
    have ea : acc ++ (p :: ps).flatMap Sm.called = acc ++ p.called ++ ps.flatMap Sm.called := by simp
    rw [ea]
    simp_all! [f_called_in_L1, hp, hm, e]
theorem called_in_ok (S : Sto) : ∀ (s : Sm) (n : Nat), s.dep + 2 ≤ n → s.size ≤ 16777215 → (cal prg 4000 n).fn 79 [s.toD] S = .ok (.tup (s.called.map D.str)) S := by
  intro s
  induction s using Sm.indP with
  | h s ih =>
  intro n hn hs
  obtain ⟨n, rfl⟩ : ∃ m, n = m + 2 := ⟨n - 2, by omega⟩
  have hlen := s.called_len
  rw [s.called_parts, List.length_append] at hlen
  obtain ⟨x', hf⟩ := called_in_loop (n + 1) s.toD S s.parts [] none (fun p hp => by
    have h1 := Sm.dep_part hp
    have h2 := Sm.size_part hp
    exact ih p hp (n + 1) (by omega) (by omega)) (by rw [List.length_nil]; omega)
  simp only [List.nil_append, List.map_nil] at hf
  have hp := parts_of_ok n S s
  rw [E_called_in, s.called_parts]
  have hl2 : (s.parts.flatMap Sm.called).length ≤ 16777215 := by omega
  cases s with
  | num i => simp only [Sm.toD, Sm.own, List.append_nil] at *; simp (dsimp := false) (disch := first | omega | (simp; done) | (simp; omega)) only [ct_nx, ct_rt, ct_ct, ct_ex, rr_ok, rr_ex, oo_some, r_ok, r_ex, o_some, os_some, rs_ok, rs_ex, nx_nx, nx_rt, nx_ct, nx_ex, end_rt, end_nx, end_ex, ev_glo, ev_int, ev_bl, ev_non, ev_str, ev_bin, ev_neg, ev_not, ev_and, ev_or, ev_ite, ev_cmp, ev_chain, ev_call, ev_make, ev_meth, ev_isi, ev_b1, ev_max2, ev_min2, ev_lenset, ev_sortset, ev_dictzip, ev_append, ev_extend, ev_pop, ev_get1, ev_get2, ev_join, ev_split, ev_index, ev_count, ev_update, ev_gsub, ev_pop0, ev_attr, ev_sub, ev_sl, ev_slm, ev_tup, ev_lst, ev_dct, ev_fstr, ev_frz, ev_ink, ev_sbk, ev_tidx, ev_dpk, evs_0, evs_1, evA_0, evA_1, evA_2, evO_0, evO_1, evO_2, evP_0, evP_1, evP_2, evF_0, evF_1, ex_expr, ex_set, ex_par, ex_attr, ex_sub, ex_sbk, ex_ret, ex_ite, ex_raise, ex_try, ex_cont, ex_pass, exs_0, exs_1, evq_rev, ↓evq_comp, rv_tup, rv_lst, ↓exq_for, ↓exq_while, fb_ap, wc_ap, wb_ap, cb_ap, ev_v0, ev_v1, ev_v2, ev_v3, ev_v4, ev_v5, ev_v6, ev_v7, ev_v8, ev_v9, ev_v10, ev_v11, ev_v12, ev_v13, ev_v14, ev_v15, ev_v16, ev_v17, ev_v18, ev_v19, ev_v20, ev_v21, ev_v22, ev_v23, ev_v24, ev_v25, isi_non_int, isi_non_str, isi_non_bool, isi_non_tuple, isi_non_list, isi_non_dict, isi_bl_int, isi_bl_str, isi_bl_bool, isi_bl_tuple, isi_bl_list, isi_bl_dict, isi_int_int, isi_int_str, isi_int_bool, isi_int_tuple, isi_int_list, isi_int_dict, isi_str_int, isi_str_str, isi_str_bool, isi_str_tuple, isi_str_list, isi_str_dict, isi_tup_int, isi_tup_str, isi_tup_bool, isi_tup_tuple, isi_tup_list, isi_tup_dict, isi_lst_int, isi_lst_str, isi_lst_bool, isi_lst_tuple, isi_lst_list, isi_lst_dict, isi_dct_int, isi_dct_str, isi_dct_bool, isi_dct_tuple, isi_dct_list, isi_dct_dict, tr_non, tr_bl, tr_int, tr_tup, tr_lst, tr_scr, tr_dct, b_add, b_sub, b_addS, b_addT, b_addL, b_mod, b_fdiv, b_mulL, b_mulR, b_mulT, c_eq_ss, c_ne_ss, c_eq_ii, c_ne_ii, c_eq_si, c_ne_si, c_eq_is, c_ne_is, c_eq_ns, c_ne_ns, c_eq_bs, c_ne_bs, c_eq_ni, c_ne_ni, c_eq_bb, c_ne_bb, c_eq_nn, c_ne_nn, c_lt, c_le, c_gt, c_ge, c_is_non, c_isn_non, c_is_bl, c_isn_bl, c_is_int, c_isn_int, c_is_str, c_isn_str, c_is_tup, c_isn_tup, c_is_lst, c_isn_lst, c_is_dct, c_isn_dct, c_in_ss, c_in_dct, c_nin_dct, c_in_tup, c_nin_tup, c_in_lst, c_nin_lst, s_tup, s_lst, s_dct, of_some, at_0, at_1, at_2, at_3, at_4, at_5, at_6, at_7, at_m1, sl_tup, sl_lst, pt_0, pt_1, l_tup, l_lst, l_dct, l_scr, l_str, tup_lst, tup_tup, lst_tup, lst_lst, all_bs, any_bs, sum_is, all2, all_map, any_map, sum_map, int_i, int_b, w_tup, w_lst, w_str, w_range, w_r3, w_r4, w_r5, w_r6, w_r7, w_r8, w_r9, w_r10, w_r11, w_r12, w_r20, w_r30, w_r40, w_r50, w_r60, ↓fr_cons, it_nx, it_ct, it_rt, it_ex, w_r0, w_r1, w_r2, es_m2, es_m3, es_m4, w_zip, w_enumT, w_enum, ↓cw_row, ↓fw_row, ↓cr_nil, ↓cr_cons, ↓fr_nil, mkL_f, mkD_f, es_one, wp_nil, wp_cons, cal_wf, key_str, key_int, prj1, prj2, gD_some, gD_none, asD_dct, q_int, q_str, q_bl, q_tup, List.map_nil, List.length_cons, List.length_nil, List.length_map, List.getElem?_cons_zero, List.getElem?_cons_succ, Option.bind_some, List.set_cons_zero, List.set_cons_succ, ↓reduceIte, fits_ok, Bool.false_eq_true, Bool.true_and, Bool.and_true, Bool.false_and, Bool.and_false, Bool.or_false, Bool.false_or, Bool.true_or, Bool.or_true, Bool.not_true, Bool.not_false, decide_true, decide_false, List.isEmpty_cons, List.isEmpty_nil, List.cons_append, List.nil_append, Nat.zero_add, Int.cast_ofNat_Int, Int.natCast_zero, Nat.reduceAdd, Nat.reduceSub, Nat.reduceLT, Nat.reduceLeDiff, Nat.reduceEqDiff, Nat.reduceBEq, Int.reduceLT, Int.reduceLE, Int.reduceEq, Int.reduceNe, Int.reduceBEq, Int.reduceBNe, Int.reduceAdd, Int.reduceSub, Int.reduceNeg, Int.reduceMul, Int.reduceToNat, ofS_inj, String.reduceEq, reduceCtorEq, beq_self_eq_true, f_called_in, hp, hf]
  | nam i => simp only [Sm.toD, Sm.own, List.append_nil] at *; simp (dsimp := false) (disch := first | omega | (simp; done) | (simp; omega)) only [ct_nx, ct_rt, ct_ct, ct_ex, rr_ok, rr_ex, oo_some, r_ok, r_ex, o_some, os_some, rs_ok, rs_ex, nx_nx, nx_rt, nx_ct, nx_ex, end_rt, end_nx, end_ex, ev_glo, ev_int, ev_bl, ev_non, ev_str, ev_bin, ev_neg, ev_not, ev_and, ev_or, ev_ite, ev_cmp, ev_chain, ev_call, ev_make, ev_meth, ev_isi, ev_b1, ev_max2, ev_min2, ev_lenset, ev_sortset, ev_dictzip, ev_append, ev_extend, ev_pop, ev_get1, ev_get2, ev_join, ev_split, ev_index, ev_count, ev_update, ev_gsub, ev_pop0, ev_attr, ev_sub, ev_sl, ev_slm, ev_tup, ev_lst, ev_dct, ev_fstr, ev_frz, ev_ink, ev_sbk, ev_tidx, ev_dpk, evs_0, evs_1, evA_0, evA_1, evA_2, evO_0, evO_1, evO_2, evP_0, evP_1, evP_2, evF_0, evF_1, ex_expr, ex_set, ex_par, ex_attr, ex_sub, ex_sbk, ex_ret, ex_ite, ex_raise, ex_try, ex_cont, ex_pass, exs_0, exs_1, evq_rev, ↓evq_comp, rv_tup, rv_lst, ↓exq_for, ↓exq_while, fb_ap, wc_ap, wb_ap, cb_ap, ev_v0, ev_v1, ev_v2, ev_v3, ev_v4, ev_v5, ev_v6, ev_v7, ev_v8, ev_v9, ev_v10, ev_v11, ev_v12, ev_v13, ev_v14, ev_v15, ev_v16, ev_v17, ev_v18, ev_v19, ev_v20, ev_v21, ev_v22, ev_v23, ev_v24, ev_v25, isi_non_int, isi_non_str, isi_non_bool, isi_non_tuple, isi_non_list, isi_non_dict, isi_bl_int, isi_bl_str, isi_bl_bool, isi_bl_tuple, isi_bl_list, isi_bl_dict, isi_int_int, isi_int_str, isi_int_bool, isi_int_tuple, isi_int_list, isi_int_dict, isi_str_int, isi_str_str, isi_str_bool, isi_str_tuple, isi_str_list, isi_str_dict, isi_tup_int, isi_tup_str, isi_tup_bool, isi_tup_tuple, isi_tup_list, isi_tup_dict, isi_lst_int, isi_lst_str, isi_lst_bool, isi_lst_tuple, isi_lst_list, isi_lst_dict, isi_dct_int, isi_dct_str, isi_dct_bool, isi_dct_tuple, isi_dct_list, isi_dct_dict, tr_non, tr_bl, tr_int, tr_tup, tr_lst, tr_scr, tr_dct, b_add, b_sub, b_addS, b_addT, b_addL, b_mod, b_fdiv, b_mulL, b_mulR, b_mulT, c_eq_ss, c_ne_ss, c_eq_ii, c_ne_ii, c_eq_si, c_ne_si, c_eq_is, c_ne_is, c_eq_ns, c_ne_ns, c_eq_bs, c_ne_bs, c_eq_ni, c_ne_ni, c_eq_bb, c_ne_bb, c_eq_nn, c_ne_nn, c_lt, c_le, c_gt, c_ge, c_is_non, c_isn_non, c_is_bl, c_isn_bl, c_is_int, c_isn_int, c_is_str, c_isn_str, c_is_tup, c_isn_tup, c_is_lst, c_isn_lst, c_is_dct, c_isn_dct, c_in_ss, c_in_dct, c_nin_dct, c_in_tup, c_nin_tup, c_in_lst, c_nin_lst, s_tup, s_lst, s_dct, of_some, at_0, at_1, at_2, at_3, at_4, at_5, at_6, at_7, at_m1, sl_tup, sl_lst, pt_0, pt_1, l_tup, l_lst, l_dct, l_scr, l_str, tup_lst, tup_tup, lst_tup, lst_lst, all_bs, any_bs, sum_is, all2, all_map, any_map, sum_map, int_i, int_b, w_tup, w_lst, w_str, w_range, w_r3, w_r4, w_r5, w_r6, w_r7, w_r8, w_r9, w_r10, w_r11, w_r12, w_r20, w_r30, w_r40, w_r50, w_r60, ↓fr_cons, it_nx, it_ct, it_rt, it_ex, w_r0, w_r1, w_r2, es_m2, es_m3, es_m4, w_zip, w_enumT, w_enum, ↓cw_row, ↓fw_row, ↓cr_nil, ↓cr_cons, ↓fr_nil, mkL_f, mkD_f, es_one, wp_nil, wp_cons, cal_wf, key_str, key_int, prj1, prj2, gD_some, gD_none, asD_dct, q_int, q_str, q_bl, q_tup, List.map_nil, List.length_cons, List.length_nil, List.length_map, List.getElem?_cons_zero, List.getElem?_cons_succ, Option.bind_some, List.set_cons_zero, List.set_cons_succ, ↓reduceIte, fits_ok, Bool.false_eq_true, Bool.true_and, Bool.and_true, Bool.false_and, Bool.and_false, Bool.or_false, Bool.false_or, Bool.true_or, Bool.or_true, Bool.not_true, Bool.not_false, decide_true, decide_false, List.isEmpty_cons, List.isEmpty_nil, List.cons_append, List.nil_append, Nat.zero_add, Int.cast_ofNat_Int, Int.natCast_zero, Nat.reduceAdd, Nat.reduceSub, Nat.reduceLT, Nat.reduceLeDiff, Nat.reduceEqDiff, Nat.reduceBEq, Int.reduceLT, Int.reduceLE, Int.reduceEq, Int.reduceNe, Int.reduceBEq, Int.reduceBNe, Int.reduceAdd, Int.reduceSub, Int.reduceNeg, Int.reduceMul, Int.reduceToNat, ofS_inj, String.reduceEq, reduceCtorEq, beq_self_eq_true, f_called_in, hp, hf]
  | half a => simp only [Sm.toD, Sm.own, List.append_nil] at *; simp (dsimp := false) (disch := first | omega | (simp; done) | (simp; omega)) only [ct_nx, ct_rt, ct_ct, ct_ex, rr_ok, rr_ex, oo_some, r_ok, r_ex, o_some, os_some, rs_ok, rs_ex, nx_nx, nx_rt, nx_ct, nx_ex, end_rt, end_nx, end_ex, ev_glo, ev_int, ev_bl, ev_non, ev_str, ev_bin, ev_neg, ev_not, ev_and, ev_or, ev_ite, ev_cmp, ev_chain, ev_call, ev_make, ev_meth, ev_isi, ev_b1, ev_max2, ev_min2, ev_lenset, ev_sortset, ev_dictzip, ev_append, ev_extend, ev_pop, ev_get1, ev_get2, ev_join, ev_split, ev_index, ev_count, ev_update, ev_gsub, ev_pop0, ev_attr, ev_sub, ev_sl, ev_slm, ev_tup, ev_lst, ev_dct, ev_fstr, ev_frz, ev_ink, ev_sbk, ev_tidx, ev_dpk, evs_0, evs_1, evA_0, evA_1, evA_2, evO_0, evO_1, evO_2, evP_0, evP_1, evP_2, evF_0, evF_1, ex_expr, ex_set, ex_par, ex_attr, ex_sub, ex_sbk, ex_ret, ex_ite, ex_raise, ex_try, ex_cont, ex_pass, exs_0, exs_1, evq_rev, ↓evq_comp, rv_tup, rv_lst, ↓exq_for, ↓exq_while, fb_ap, wc_ap, wb_ap, cb_ap, ev_v0, ev_v1, ev_v2, ev_v3, ev_v4, ev_v5, ev_v6, ev_v7, ev_v8, ev_v9, ev_v10, ev_v11, ev_v12, ev_v13, ev_v14, ev_v15, ev_v16, ev_v17, ev_v18, ev_v19, ev_v20, ev_v21, ev_v22, ev_v23, ev_v24, ev_v25, isi_non_int, isi_non_str, isi_non_bool, isi_non_tuple, isi_non_list, isi_non_dict, isi_bl_int, isi_bl_str, isi_bl_bool, isi_bl_tuple, isi_bl_list, isi_bl_dict, isi_int_int, isi_int_str, isi_int_bool, isi_int_tuple, isi_int_list, isi_int_dict, isi_str_int, isi_str_str, isi_str_bool, isi_str_tuple, isi_str_list, isi_str_dict, isi_tup_int, isi_tup_str, isi_tup_bool, isi_tup_tuple, isi_tup_list, isi_tup_dict, isi_lst_int, isi_lst_str, isi_lst_bool, isi_lst_tuple, isi_lst_list, isi_lst_dict, isi_dct_int, isi_dct_str, isi_dct_bool, isi_dct_tuple, isi_dct_list, isi_dct_dict, tr_non, tr_bl, tr_int, tr_tup, tr_lst, tr_scr, tr_dct, b_add, b_sub, b_addS, b_addT, b_addL, b_mod, b_fdiv, b_mulL, b_mulR, b_mulT, c_eq_ss, c_ne_ss, c_eq_ii, c_ne_ii, c_eq_si, c_ne_si, c_eq_is, c_ne_is, c_eq_ns, c_ne_ns, c_eq_bs, c_ne_bs, c_eq_ni, c_ne_ni, c_eq_bb, c_ne_bb, c_eq_nn, c_ne_nn, c_lt, c_le, c_gt, c_ge, c_is_non, c_isn_non, c_is_bl, c_isn_bl, c_is_int, c_isn_int, c_is_str, c_isn_str, c_is_tup, c_isn_tup, c_is_lst, c_isn_lst, c_is_dct, c_isn_dct, c_in_ss, c_in_dct, c_nin_dct, c_in_tup, c_nin_tup, c_in_lst, c_nin_lst, s_tup, s_lst, s_dct, of_some, at_0, at_1, at_2, at_3, at_4, at_5, at_6, at_7, at_m1, sl_tup, sl_lst, pt_0, pt_1, l_tup, l_lst, l_dct, l_scr, l_str, tup_lst, tup_tup, lst_tup, lst_lst, all_bs, any_bs, sum_is, all2, all_map, any_map, sum_map, int_i, int_b, w_tup, w_lst, w_str, w_range, w_r3, w_r4, w_r5, w_r6, w_r7, w_r8, w_r9, w_r10, w_r11, w_r12, w_r20, w_r30, w_r40, w_r50, w_r60, it_nx, it_ct, it_rt, it_ex, w_r0, w_r1, w_r2, es_m2, es_m3, es_m4, w_zip, w_enumT, w_enum, ↓cw_row, ↓fw_row, ↓cr_nil, ↓cr_cons, ↓fr_nil, mkL_f, mkD_f, es_one, wp_nil, wp_cons, cal_wf, key_str, key_int, prj1, prj2, gD_some, gD_none, asD_dct, q_int, q_str, q_bl, q_tup, List.map_nil, List.length_cons, List.length_nil, List.length_map, List.getElem?_cons_zero, List.getElem?_cons_succ, Option.bind_some, List.set_cons_zero, List.set_cons_succ, ↓reduceIte, fits_ok, Bool.false_eq_true, Bool.true_and, Bool.and_true, Bool.false_and, Bool.and_false, Bool.or_false, Bool.false_or, Bool.true_or, Bool.or_true, Bool.not_true, Bool.not_false, decide_true, decide_false, List.isEmpty_cons, List.isEmpty_nil, List.cons_append, List.nil_append, Nat.zero_add, Int.cast_ofNat_Int, Int.natCast_zero, Nat.reduceAdd, Nat.reduceSub, Nat.reduceLT, Nat.reduceLeDiff, Nat.reduceEqDiff, Nat.reduceBEq, Int.reduceLT, Int.reduceLE, Int.reduceEq, Int.reduceNe, Int.reduceBEq, Int.reduceBNe, Int.reduceAdd, Int.reduceSub, Int.reduceNeg, Int.reduceMul, Int.reduceToNat, ofS_inj, String.reduceEq, reduceCtorEq, beq_self_eq_true, f_called_in, hp, hf]
  | two w a b => simp only [Sm.toD, Sm.own, List.append_nil] at *; simp (dsimp := false) (disch := first | omega | (simp; done) | (simp; omega)) only [ct_nx, ct_rt, ct_ct, ct_ex, rr_ok, rr_ex, oo_some, r_ok, r_ex, o_some, os_some, rs_ok, rs_ex, nx_nx, nx_rt, nx_ct, nx_ex, end_rt, end_nx, end_ex, ev_glo, ev_int, ev_bl, ev_non, ev_str, ev_bin, ev_neg, ev_not, ev_and, ev_or, ev_ite, ev_cmp, ev_chain, ev_call, ev_make, ev_meth, ev_isi, ev_b1, ev_max2, ev_min2, ev_lenset, ev_sortset, ev_dictzip, ev_append, ev_extend, ev_pop, ev_get1, ev_get2, ev_join, ev_split, ev_index, ev_count, ev_update, ev_gsub, ev_pop0, ev_attr, ev_sub, ev_sl, ev_slm, ev_tup, ev_lst, ev_dct, ev_fstr, ev_frz, ev_ink, ev_sbk, ev_tidx, ev_dpk, evs_0, evs_1, evA_0, evA_1, evA_2, evO_0, evO_1, evO_2, evP_0, evP_1, evP_2, evF_0, evF_1, ex_expr, ex_set, ex_par, ex_attr, ex_sub, ex_sbk, ex_ret, ex_ite, ex_raise, ex_try, ex_cont, ex_pass, exs_0, exs_1, evq_rev, ↓evq_comp, rv_tup, rv_lst, ↓exq_for, ↓exq_while, fb_ap, wc_ap, wb_ap, cb_ap, ev_v0, ev_v1, ev_v2, ev_v3, ev_v4, ev_v5, ev_v6, ev_v7, ev_v8, ev_v9, ev_v10, ev_v11, ev_v12, ev_v13, ev_v14, ev_v15, ev_v16, ev_v17, ev_v18, ev_v19, ev_v20, ev_v21, ev_v22, ev_v23, ev_v24, ev_v25, isi_non_int, isi_non_str, isi_non_bool, isi_non_tuple, isi_non_list, isi_non_dict, isi_bl_int, isi_bl_str, isi_bl_bool, isi_bl_tuple, isi_bl_list, isi_bl_dict, isi_int_int, isi_int_str, isi_int_bool, isi_int_tuple, isi_int_list, isi_int_dict, isi_str_int, isi_str_str, isi_str_bool, isi_str_tuple, isi_str_list, isi_str_dict, isi_tup_int, isi_tup_str, isi_tup_bool, isi_tup_tuple, isi_tup_list, isi_tup_dict, isi_lst_int, isi_lst_str, isi_lst_bool, isi_lst_tuple, isi_lst_list, isi_lst_dict, isi_dct_int, isi_dct_str, isi_dct_bool, isi_dct_tuple, isi_dct_list, isi_dct_dict, tr_non, tr_bl, tr_int, tr_tup, tr_lst, tr_scr, tr_dct, b_add, b_sub, b_addS, b_addT, b_addL, b_mod, b_fdiv, b_mulL, b_mulR, b_mulT, c_eq_ss, c_ne_ss, c_eq_ii, c_ne_ii, c_eq_si, c_ne_si, c_eq_is, c_ne_is, c_eq_ns, c_ne_ns, c_eq_bs, c_ne_bs, c_eq_ni, c_ne_ni, c_eq_bb, c_ne_bb, c_eq_nn, c_ne_nn, c_lt, c_le, c_gt, c_ge, c_is_non, c_isn_non, c_is_bl, c_isn_bl, c_is_int, c_isn_int, c_is_str, c_isn_str, c_is_tup, c_isn_tup, c_is_lst, c_isn_lst, c_is_dct, c_isn_dct, c_in_ss, c_in_dct, c_nin_dct, c_in_tup, c_nin_tup, c_in_lst, c_nin_lst, s_tup, s_lst, s_dct, of_some, at_0, at_1, at_2, at_3, at_4, at_5, at_6, at_7, at_m1, sl_tup, sl_lst, pt_0, pt_1, l_tup, l_lst, l_dct, l_scr, l_str, tup_lst, tup_tup, lst_tup, lst_lst, all_bs, any_bs, sum_is, all2, all_map, any_map, sum_map, int_i, int_b, w_tup, w_lst, w_str, w_range, w_r3, w_r4, w_r5, w_r6, w_r7, w_r8, w_r9, w_r10, w_r11, w_r12, w_r20, w_r30, w_r40, w_r50, w_r60, it_nx, it_ct, it_rt, it_ex, w_r0, w_r1, w_r2, es_m2, es_m3, es_m4, w_zip, w_enumT, w_enum, ↓cw_row, ↓fw_row, ↓cr_nil, ↓cr_cons, ↓fr_nil, mkL_f, mkD_f, es_one, wp_nil, wp_cons, cal_wf, key_str, key_int, prj1, prj2, gD_some, gD_none, asD_dct, q_int, q_str, q_bl, q_tup, List.map_nil, List.length_cons, List.length_nil, List.length_map, List.getElem?_cons_zero, List.getElem?_cons_succ, Option.bind_some, List.set_cons_zero, List.set_cons_succ, ↓reduceIte, fits_ok, Bool.false_eq_true, Bool.true_and, Bool.and_true, Bool.false_and, Bool.and_false, Bool.or_false, Bool.false_or, Bool.true_or, Bool.or_true, Bool.not_true, Bool.not_false, decide_true, decide_false, List.isEmpty_cons, List.isEmpty_nil, List.cons_append, List.nil_append, Nat.zero_add, Int.cast_ofNat_Int, Int.natCast_zero, Nat.reduceAdd, Nat.reduceSub, Nat.reduceLT, Nat.reduceLeDiff, Nat.reduceEqDiff, Nat.reduceBEq, Int.reduceLT, Int.reduceLE, Int.reduceEq, Int.reduceNe, Int.reduceBEq, Int.reduceBNe, Int.reduceAdd, Int.reduceSub, Int.reduceNeg, Int.reduceMul, Int.reduceToNat, ofS_inj, String.reduceEq, reduceCtorEq, beq_self_eq_true, f_called_in, hp, hf, Wd.n_call]
  | ite t a b => simp only [Sm.toD, Sm.own, List.append_nil] at *; simp (dsimp := false) (disch := first | omega | (simp; done) | (simp; omega)) only [ct_nx, ct_rt, ct_ct, ct_ex, rr_ok, rr_ex, oo_some, r_ok, r_ex, o_some, os_some, rs_ok, rs_ex, nx_nx, nx_rt, nx_ct, nx_ex, end_rt, end_nx, end_ex, ev_glo, ev_int, ev_bl, ev_non, ev_str, ev_bin, ev_neg, ev_not, ev_and, ev_or, ev_ite, ev_cmp, ev_chain, ev_call, ev_make, ev_meth, ev_isi, ev_b1, ev_max2, ev_min2, ev_lenset, ev_sortset, ev_dictzip, ev_append, ev_extend, ev_pop, ev_get1, ev_get2, ev_join, ev_split, ev_index, ev_count, ev_update, ev_gsub, ev_pop0, ev_attr, ev_sub, ev_sl, ev_slm, ev_tup, ev_lst, ev_dct, ev_fstr, ev_frz, ev_ink, ev_sbk, ev_tidx, ev_dpk, evs_0, evs_1, evA_0, evA_1, evA_2, evO_0, evO_1, evO_2, evP_0, evP_1, evP_2, evF_0, evF_1, ex_expr, ex_set, ex_par, ex_attr, ex_sub, ex_sbk, ex_ret, ex_ite, ex_raise, ex_try, ex_cont, ex_pass, exs_0, exs_1, evq_rev, ↓evq_comp, rv_tup, rv_lst, ↓exq_for, ↓exq_while, fb_ap, wc_ap, wb_ap, cb_ap, ev_v0, ev_v1, ev_v2, ev_v3, ev_v4, ev_v5, ev_v6, ev_v7, ev_v8, ev_v9, ev_v10, ev_v11, ev_v12, ev_v13, ev_v14, ev_v15, ev_v16, ev_v17, ev_v18, ev_v19, ev_v20, ev_v21, ev_v22, ev_v23, ev_v24, ev_v25, isi_non_int, isi_non_str, isi_non_bool, isi_non_tuple, isi_non_list, isi_non_dict, isi_bl_int, isi_bl_str, isi_bl_bool, isi_bl_tuple, isi_bl_list, isi_bl_dict, isi_int_int, isi_int_str, isi_int_bool, isi_int_tuple, isi_int_list, isi_int_dict, isi_str_int, isi_str_str, isi_str_bool, isi_str_tuple, isi_str_list, isi_str_dict, isi_tup_int, isi_tup_str, isi_tup_bool, isi_tup_tuple, isi_tup_list, isi_tup_dict, isi_lst_int, isi_lst_str, isi_lst_bool, isi_lst_tuple, isi_lst_list, isi_lst_dict, isi_dct_int, isi_dct_str, isi_dct_bool, isi_dct_tuple, isi_dct_list, isi_dct_dict, tr_non, tr_bl, tr_int, tr_tup, tr_lst, tr_scr, tr_dct, b_add, b_sub, b_addS, b_addT, b_addL, b_mod, b_fdiv, b_mulL, b_mulR, b_mulT, c_eq_ss, c_ne_ss, c_eq_ii, c_ne_ii, c_eq_si, c_ne_si, c_eq_is, c_ne_is, c_eq_ns, c_ne_ns, c_eq_bs, c_ne_bs, c_eq_ni, c_ne_ni, c_eq_bb, c_ne_bb, c_eq_nn, c_ne_nn, c_lt, c_le, c_gt, c_ge, c_is_non, c_isn_non, c_is_bl, c_isn_bl, c_is_int, c_isn_int, c_is_str, c_isn_str, c_is_tup, c_isn_tup, c_is_lst, c_isn_lst, c_is_dct, c_isn_dct, c_in_ss, c_in_dct, c_nin_dct, c_in_tup, c_nin_tup, c_in_lst, c_nin_lst, s_tup, s_lst, s_dct, of_some, at_0, at_1, at_2, at_3, at_4, at_5, at_6, at_7, at_m1, sl_tup, sl_lst, pt_0, pt_1, l_tup, l_lst, l_dct, l_scr, l_str, tup_lst, tup_tup, lst_tup, lst_lst, all_bs, any_bs, sum_is, all2, all_map, any_map, sum_map, int_i, int_b, w_tup, w_lst, w_str, w_range, w_r3, w_r4, w_r5, w_r6, w_r7, w_r8, w_r9, w_r10, w_r11, w_r12, w_r20, w_r30, w_r40, w_r50, w_r60, it_nx, it_ct, it_rt, it_ex, w_r0, w_r1, w_r2, es_m2, es_m3, es_m4, w_zip, w_enumT, w_enum, ↓cw_row, ↓fw_row, ↓cr_nil, ↓cr_cons, ↓fr_nil, mkL_f, mkD_f, es_one, wp_nil, wp_cons, cal_wf, key_str, key_int, prj1, prj2, gD_some, gD_none, asD_dct, q_int, q_str, q_bl, q_tup, List.map_nil, List.length_cons, List.length_nil, List.length_map, List.getElem?_cons_zero, List.getElem?_cons_succ, Option.bind_some, List.set_cons_zero, List.set_cons_succ, ↓reduceIte, fits_ok, Bool.false_eq_true, Bool.true_and, Bool.and_true, Bool.false_and, Bool.and_false, Bool.or_false, Bool.false_or, Bool.true_or, Bool.or_true, Bool.not_true, Bool.not_false, decide_true, decide_false, List.isEmpty_cons, List.isEmpty_nil, List.cons_append, List.nil_append, Nat.zero_add, Int.cast_ofNat_Int, Int.natCast_zero, Nat.reduceAdd, Nat.reduceSub, Nat.reduceLT, Nat.reduceLeDiff, Nat.reduceEqDiff, Nat.reduceBEq, Int.reduceLT, Int.reduceLE, Int.reduceEq, Int.reduceNe, Int.reduceBEq, Int.reduceBNe, Int.reduceAdd, Int.reduceSub, Int.reduceNeg, Int.reduceMul, Int.reduceToNat, ofS_inj, String.reduceEq, reduceCtorEq, beq_self_eq_true, f_called_in, hp, hf]
  | call f as =>
    simp only [Sm.toD, Sm.own] at *
    have hadd : (((Sm.call f as).parts.flatMap Sm.called).map D.str).length + [D.str f].length ≤ 16777216 := by rw [List.length_map, List.length_singleton]; omega
    simp (dsimp := false) (disch := first | omega | (simp; done) | (simp; omega)) only [ct_nx, ct_rt, ct_ct, ct_ex, rr_ok, rr_ex, oo_some, r_ok, r_ex, o_some, os_some, rs_ok, rs_ex, nx_nx, nx_rt, nx_ct, nx_ex, end_rt, end_nx, end_ex, ev_glo, ev_int, ev_bl, ev_non, ev_str, ev_bin, ev_neg, ev_not, ev_and, ev_or, ev_ite, ev_cmp, ev_chain, ev_call, ev_make, ev_meth, ev_isi, ev_b1, ev_max2, ev_min2, ev_lenset, ev_sortset, ev_dictzip, ev_append, ev_extend, ev_pop, ev_get1, ev_get2, ev_join, ev_split, ev_index, ev_count, ev_update, ev_gsub, ev_pop0, ev_attr, ev_sub, ev_sl, ev_slm, ev_tup, ev_lst, ev_dct, ev_fstr, ev_frz, ev_ink, ev_sbk, ev_tidx, ev_dpk, evs_0, evs_1, evA_0, evA_1, evA_2, evO_0, evO_1, evO_2, evP_0, evP_1, evP_2, evF_0, evF_1, ex_expr, ex_set, ex_par, ex_attr, ex_sub, ex_sbk, ex_ret, ex_ite, ex_raise, ex_try, ex_cont, ex_pass, exs_0, exs_1, evq_rev, ↓evq_comp, rv_tup, rv_lst, ↓exq_for, ↓exq_while, fb_ap, wc_ap, wb_ap, cb_ap, ev_v0, ev_v1, ev_v2, ev_v3, ev_v4, ev_v5, ev_v6, ev_v7, ev_v8, ev_v9, ev_v10, ev_v11, ev_v12, ev_v13, ev_v14, ev_v15, ev_v16, ev_v17, ev_v18, ev_v19, ev_v20, ev_v21, ev_v22, ev_v23, ev_v24, ev_v25, isi_non_int, isi_non_str, isi_non_bool, isi_non_tuple, isi_non_list, isi_non_dict, isi_bl_int, isi_bl_str, isi_bl_bool, isi_bl_tuple, isi_bl_list, isi_bl_dict, isi_int_int, isi_int_str, isi_int_bool, isi_int_tuple, isi_int_list, isi_int_dict, isi_str_int, isi_str_str, isi_str_bool, isi_str_tuple, isi_str_list, isi_str_dict, isi_tup_int, isi_tup_str, isi_tup_bool, isi_tup_tuple, isi_tup_list, isi_tup_dict, isi_lst_int, isi_lst_str, isi_lst_bool, isi_lst_tuple, isi_lst_list, isi_lst_dict, isi_dct_int, isi_dct_str, isi_dct_bool, isi_dct_tuple, isi_dct_list, isi_dct_dict, tr_non, tr_bl, tr_int, tr_tup, tr_lst, tr_scr, tr_dct, b_add, b_sub, b_addS, b_addT, b_addL, b_mod, b_fdiv, b_mulL, b_mulR, b_mulT, c_eq_ss, c_ne_ss, c_eq_ii, c_ne_ii, c_eq_si, c_ne_si, c_eq_is, c_ne_is, c_eq_ns, c_ne_ns, c_eq_bs, c_ne_bs, c_eq_ni, c_ne_ni, c_eq_bb, c_ne_bb, c_eq_nn, c_ne_nn, c_lt, c_le, c_gt, c_ge, c_is_non, c_isn_non, c_is_bl, c_isn_bl, c_is_int, c_isn_int, c_is_str, c_isn_str, c_is_tup, c_isn_tup, c_is_lst, c_isn_lst, c_is_dct, c_isn_dct, c_in_ss, c_in_dct, c_nin_dct, c_in_tup, c_nin_tup, c_in_lst, c_nin_lst, s_tup, s_lst, s_dct, of_some, at_0, at_1, at_2, at_3, at_4, at_5, at_6, at_7, at_m1, sl_tup, sl_lst, pt_0, pt_1, l_tup, l_lst, l_dct, l_scr, l_str, tup_lst, tup_tup, lst_tup, lst_lst, all_bs, any_bs, sum_is, all2, all_map, any_map, sum_map, int_i, int_b, w_tup, w_lst, w_str, w_range, w_r3, w_r4, w_r5, w_r6, w_r7, w_r8, w_r9, w_r10, w_r11, w_r12, w_r20, w_r30, w_r40, w_r50, w_r60, it_nx, it_ct, it_rt, it_ex, w_r0, w_r1, w_r2, es_m2, es_m3, es_m4, w_zip, w_enumT, w_enum, ↓cw_row, ↓fw_row, ↓cr_nil, ↓cr_cons, ↓fr_nil, mkL_f, mkD_f, es_one, wp_nil, wp_cons, cal_wf, key_str, key_int, prj1, prj2, gD_some, gD_none, asD_dct, q_int, q_str, q_bl, q_tup, List.map_cons, List.map_nil, List.length_cons, List.length_nil, List.length_map, List.getElem?_cons_zero, List.getElem?_cons_succ, Option.bind_some, List.set_cons_zero, List.set_cons_succ, ↓reduceIte, fits_ok, Bool.false_eq_true, Bool.true_and, Bool.and_true, Bool.false_and, Bool.and_false, Bool.or_false, Bool.false_or, Bool.true_or, Bool.or_true, Bool.not_true, Bool.not_false, decide_true, decide_false, List.isEmpty_cons, List.isEmpty_nil, List.cons_append, List.nil_append, Nat.zero_add, Int.cast_ofNat_Int, Int.natCast_zero, Nat.reduceAdd, Nat.reduceSub, Nat.reduceLT, Nat.reduceLeDiff, Nat.reduceEqDiff, Nat.reduceBEq, Int.reduceLT, Int.reduceLE, Int.reduceEq, Int.reduceNe, Int.reduceBEq, Int.reduceBNe, Int.reduceAdd, Int.reduceSub, Int.reduceNeg, Int.reduceMul, Int.reduceToNat, ofS_inj, String.reduceEq, reduceCtorEq, beq_self_eq_true, f_called_in, hp, hf, b_addT _ _ _ _ hadd]
    simp only [List.map_append, List.map_cons, List.map_nil]
theorem none_of_ok (ns : List Str) (S : Sto) (s : Sm) (n : Nat) (hn : s.dep + 3 ≤ n) (hs : s.size ≤ 16777215) : (cal prg 4000 n).fn 88 [s.toD, .tup (ns.map D.str)] S = .ok (.bl (!s.called.any ns.contains)) S := by
  obtain ⟨n, rfl⟩ : ∃ m, n = m + 1 := ⟨n - 1, by omega⟩
  have h1 := called_in_ok S s n (by omega) hs
  have hl := s.called_len
  have hc : compRow (fun d S => (cmpop .isin d (.tup (ns.map D.str)) S).bind fun x S => .ok [x] S) (s.called.map D.str) S = .ok (s.called.map fun p => D.bl (ns.contains p)) S :=
    compRow_map _ _ fun p hp => by rw [c_in_tup]; rfl
  rw [E_none_of]
  simp_all! [f_none_of, h1, hc]
end CP

end
section
set_option maxHeartbeats 1000000
/-! callturn proofs, plain part: calls that come last; makers of books; like things -/
namespace CP
open PySem CT
def Sm.none (ns : List Str) (s : Sm) : Bool := !s.called.any ns.contains
def Sm.turning (ns : List Str) : Sm → Bool
  | .ite t a b => t.none ns && (a.turning ns && b.turning ns)
  | .half a => a.none ns
  | .two _ a b => a.none ns && b.none ns
  | .call _ as => as.all (Sm.none ns)
  | _ => true
theorem turning_ok (ns : List Str) (S : Sto) : ∀ (s : Sm) (n : Nat), s.dep + 3 ≤ n → s.size ≤ 16777215 → (cal prg 4000 n).fn 87 [s.toD, .tup (ns.map D.str)] S = .ok (.bl (s.turning ns)) S := by
  intro s
  induction s using Sm.indP with
  | h s ih =>
  intro n hn hs
  obtain ⟨n, rfl⟩ : ∃ m, n = m + 3 := ⟨n - 3, by omega⟩
  have hno : ∀ p ∈ s.parts, (cal prg 4000 (n + 2)).fn 88 [p.toD, .tup (ns.map D.str)] S = .ok (.bl (p.none ns)) S := fun p hp => by
    have h1 := Sm.dep_part hp
    have h2 := Sm.size_part hp
    exact none_of_ok ns S p (n + 2) (by omega) (by omega)
  have hc : compRow (fun d S => ((cal prg 4000 (n + 2)).fn 88 [d, .tup (ns.map D.str)] S).bind fun x S => .ok [x] S) (s.parts.map Sm.toD) S = .ok (s.parts.map fun p => D.bl (p.none ns)) S :=
    compRow_map _ _ fun p hp => by rw [hno p hp]; rfl
  have hl := s.parts_len
  have hp := parts_of_ok (n + 1) S s
  rw [E_turning]
  cases s with
  | num i => simp only [Sm.toD] at *; simp_all! [f_turning, Sm.turning]
  | nam i => simp only [Sm.toD] at *; simp_all! [f_turning, Sm.turning]
  | half a => simp only [Sm.toD] at *; simp (dsimp := false) (disch := first | omega | (simp; done) | (simp; omega)) only [ct_nx, ct_rt, ct_ct, ct_ex, rr_ok, rr_ex, oo_some, r_ok, r_ex, o_some, os_some, rs_ok, rs_ex, nx_nx, nx_rt, nx_ct, nx_ex, end_rt, end_nx, end_ex, ev_glo, ev_int, ev_bl, ev_non, ev_str, ev_bin, ev_neg, ev_not, ev_and, ev_or, ev_ite, ev_cmp, ev_chain, ev_call, ev_make, ev_meth, ev_isi, ev_b1, ev_max2, ev_min2, ev_lenset, ev_sortset, ev_dictzip, ev_append, ev_extend, ev_pop, ev_get1, ev_get2, ev_join, ev_split, ev_index, ev_count, ev_update, ev_gsub, ev_pop0, ev_attr, ev_sub, ev_sl, ev_slm, ev_tup, ev_lst, ev_dct, ev_fstr, ev_frz, ev_ink, ev_sbk, ev_tidx, ev_dpk, evs_0, evs_1, evA_0, evA_1, evA_2, evO_0, evO_1, evO_2, evP_0, evP_1, evP_2, evF_0, evF_1, ex_expr, ex_set, ex_par, ex_attr, ex_sub, ex_sbk, ex_ret, ex_ite, ex_raise, ex_try, ex_cont, ex_pass, exs_0, exs_1, evq_rev, ↓evq_comp, rv_tup, rv_lst, ↓exq_for, ↓exq_while, fb_ap, wc_ap, wb_ap, cb_ap, ev_v0, ev_v1, ev_v2, ev_v3, ev_v4, ev_v5, ev_v6, ev_v7, ev_v8, ev_v9, ev_v10, ev_v11, ev_v12, ev_v13, ev_v14, ev_v15, ev_v16, ev_v17, ev_v18, ev_v19, ev_v20, ev_v21, ev_v22, ev_v23, ev_v24, ev_v25, isi_non_int, isi_non_str, isi_non_bool, isi_non_tuple, isi_non_list, isi_non_dict, isi_bl_int, isi_bl_str, isi_bl_bool, isi_bl_tuple, isi_bl_list, isi_bl_dict, isi_int_int, isi_int_str, isi_int_bool, isi_int_tuple, isi_int_list, isi_int_dict, isi_str_int, isi_str_str, isi_str_bool, isi_str_tuple, isi_str_list, isi_str_dict, isi_tup_int, isi_tup_str, isi_tup_bool, isi_tup_tuple, isi_tup_list, isi_tup_dict, isi_lst_int, isi_lst_str, isi_lst_bool, isi_lst_tuple, isi_lst_list, isi_lst_dict, isi_dct_int, isi_dct_str, isi_dct_bool, isi_dct_tuple, isi_dct_list, isi_dct_dict, tr_non, tr_bl, tr_int, tr_tup, tr_lst, tr_scr, tr_dct, b_add, b_sub, b_addS, b_addT, b_addL, b_mod, b_fdiv, b_mulL, b_mulR, b_mulT, c_eq_ss, c_ne_ss, c_eq_ii, c_ne_ii, c_eq_si, c_ne_si, c_eq_is, c_ne_is, c_eq_ns, c_ne_ns, c_eq_bs, c_ne_bs, c_eq_ni, c_ne_ni, c_eq_bb, c_ne_bb, c_eq_nn, c_ne_nn, c_lt, c_le, c_gt, c_ge, c_is_non, c_isn_non, c_is_bl, c_isn_bl, c_is_int, c_isn_int, c_is_str, c_isn_str, c_is_tup, c_isn_tup, c_is_lst, c_isn_lst, c_is_dct, c_isn_dct, c_in_ss, c_in_dct, c_nin_dct, c_in_tup, c_nin_tup, c_in_lst, c_nin_lst, s_tup, s_lst, s_dct, of_some, at_0, at_1, at_2, at_3, at_4, at_5, at_6, at_7, at_m1, sl_tup, sl_lst, pt_0, pt_1, l_tup, l_lst, l_dct, l_scr, l_str, tup_lst, tup_tup, lst_tup, lst_lst, all_bs, any_bs, sum_is, all2, all_map, any_map, sum_map, int_i, int_b, w_tup, w_lst, w_str, w_range, w_r3, w_r4, w_r5, w_r6, w_r7, w_r8, w_r9, w_r10, w_r11, w_r12, w_r20, w_r30, w_r40, w_r50, w_r60, ↓fr_cons, it_nx, it_ct, it_rt, it_ex, w_r0, w_r1, w_r2, es_m2, es_m3, es_m4, w_zip, w_enumT, w_enum, ↓cw_row, ↓fw_row, ↓cr_nil, ↓fr_nil, mkL_f, mkD_f, es_one, wp_nil, wp_cons, cal_wf, key_str, key_int, prj1, prj2, gD_some, gD_none, asD_dct, q_int, q_str, q_bl, q_tup, List.map_nil, List.length_cons, List.length_nil, List.length_map, List.getElem?_cons_zero, List.getElem?_cons_succ, Option.bind_some, List.set_cons_zero, List.set_cons_succ, ↓reduceIte, fits_ok, Bool.false_eq_true, Bool.true_and, Bool.and_true, Bool.false_and, Bool.and_false, Bool.or_false, Bool.false_or, Bool.true_or, Bool.or_true, Bool.not_true, Bool.not_false, decide_true, decide_false, List.isEmpty_cons, List.isEmpty_nil, List.cons_append, List.nil_append, Nat.zero_add, Int.cast_ofNat_Int, Int.natCast_zero, Nat.reduceAdd, Nat.reduceSub, Nat.reduceLT, Nat.reduceLeDiff, Nat.reduceEqDiff, Nat.reduceBEq, Int.reduceLT, Int.reduceLE, Int.reduceEq, Int.reduceNe, Int.reduceBEq, Int.reduceBNe, Int.reduceAdd, Int.reduceSub, Int.reduceNeg, Int.reduceMul, Int.reduceToNat, ofS_inj, String.reduceEq, reduceCtorEq, beq_self_eq_true, f_turning, hp, hc]; simp [Sm.parts, Sm.turning]
  | two w a b => simp only [Sm.toD] at *; simp (dsimp := false) (disch := first | omega | (simp; done) | (simp; omega)) only [ct_nx, ct_rt, ct_ct, ct_ex, rr_ok, rr_ex, oo_some, r_ok, r_ex, o_some, os_some, rs_ok, rs_ex, nx_nx, nx_rt, nx_ct, nx_ex, end_rt, end_nx, end_ex, ev_glo, ev_int, ev_bl, ev_non, ev_str, ev_bin, ev_neg, ev_not, ev_and, ev_or, ev_ite, ev_cmp, ev_chain, ev_call, ev_make, ev_meth, ev_isi, ev_b1, ev_max2, ev_min2, ev_lenset, ev_sortset, ev_dictzip, ev_append, ev_extend, ev_pop, ev_get1, ev_get2, ev_join, ev_split, ev_index, ev_count, ev_update, ev_gsub, ev_pop0, ev_attr, ev_sub, ev_sl, ev_slm, ev_tup, ev_lst, ev_dct, ev_fstr, ev_frz, ev_ink, ev_sbk, ev_tidx, ev_dpk, evs_0, evs_1, evA_0, evA_1, evA_2, evO_0, evO_1, evO_2, evP_0, evP_1, evP_2, evF_0, evF_1, ex_expr, ex_set, ex_par, ex_attr, ex_sub, ex_sbk, ex_ret, ex_ite, ex_raise, ex_try, ex_cont, ex_pass, exs_0, exs_1, evq_rev, ↓evq_comp, rv_tup, rv_lst, ↓exq_for, ↓exq_while, fb_ap, wc_ap, wb_ap, cb_ap, ev_v0, ev_v1, ev_v2, ev_v3, ev_v4, ev_v5, ev_v6, ev_v7, ev_v8, ev_v9, ev_v10, ev_v11, ev_v12, ev_v13, ev_v14, ev_v15, ev_v16, ev_v17, ev_v18, ev_v19, ev_v20, ev_v21, ev_v22, ev_v23, ev_v24, ev_v25, isi_non_int, isi_non_str, isi_non_bool, isi_non_tuple, isi_non_list, isi_non_dict, isi_bl_int, isi_bl_str, isi_bl_bool, isi_bl_tuple, isi_bl_list, isi_bl_dict, isi_int_int, isi_int_str, isi_int_bool, isi_int_tuple, isi_int_list, isi_int_dict, isi_str_int, isi_str_str, isi_str_bool, isi_str_tuple, isi_str_list, isi_str_dict, isi_tup_int, isi_tup_str, isi_tup_bool, isi_tup_tuple, isi_tup_list, isi_tup_dict, isi_lst_int, isi_lst_str, isi_lst_bool, isi_lst_tuple, isi_lst_list, isi_lst_dict, isi_dct_int, isi_dct_str, isi_dct_bool, isi_dct_tuple, isi_dct_list, isi_dct_dict, tr_non, tr_bl, tr_int, tr_tup, tr_lst, tr_scr, tr_dct, b_add, b_sub, b_addS, b_addT, b_addL, b_mod, b_fdiv, b_mulL, b_mulR, b_mulT, c_eq_ss, c_ne_ss, c_eq_ii, c_ne_ii, c_eq_si, c_ne_si, c_eq_is, c_ne_is, c_eq_ns, c_ne_ns, c_eq_bs, c_ne_bs, c_eq_ni, c_ne_ni, c_eq_bb, c_ne_bb, c_eq_nn, c_ne_nn, c_lt, c_le, c_gt, c_ge, c_is_non, c_isn_non, c_is_bl, c_isn_bl, c_is_int, c_isn_int, c_is_str, c_isn_str, c_is_tup, c_isn_tup, c_is_lst, c_isn_lst, c_is_dct, c_isn_dct, c_in_ss, c_in_dct, c_nin_dct, c_in_tup, c_nin_tup, c_in_lst, c_nin_lst, s_tup, s_lst, s_dct, of_some, at_0, at_1, at_2, at_3, at_4, at_5, at_6, at_7, at_m1, sl_tup, sl_lst, pt_0, pt_1, l_tup, l_lst, l_dct, l_scr, l_str, tup_lst, tup_tup, lst_tup, lst_lst, all_bs, any_bs, sum_is, all2, all_map, any_map, sum_map, int_i, int_b, w_tup, w_lst, w_str, w_range, w_r3, w_r4, w_r5, w_r6, w_r7, w_r8, w_r9, w_r10, w_r11, w_r12, w_r20, w_r30, w_r40, w_r50, w_r60, ↓fr_cons, it_nx, it_ct, it_rt, it_ex, w_r0, w_r1, w_r2, es_m2, es_m3, es_m4, w_zip, w_enumT, w_enum, ↓cw_row, ↓fw_row, ↓cr_nil, ↓fr_nil, mkL_f, mkD_f, es_one, wp_nil, wp_cons, cal_wf, key_str, key_int, prj1, prj2, gD_some, gD_none, asD_dct, q_int, q_str, q_bl, q_tup, List.map_nil, List.length_cons, List.length_nil, List.length_map, List.getElem?_cons_zero, List.getElem?_cons_succ, Option.bind_some, List.set_cons_zero, List.set_cons_succ, ↓reduceIte, fits_ok, Bool.false_eq_true, Bool.true_and, Bool.and_true, Bool.false_and, Bool.and_false, Bool.or_false, Bool.false_or, Bool.true_or, Bool.or_true, Bool.not_true, Bool.not_false, decide_true, decide_false, List.isEmpty_cons, List.isEmpty_nil, List.cons_append, List.nil_append, Nat.zero_add, Int.cast_ofNat_Int, Int.natCast_zero, Nat.reduceAdd, Nat.reduceSub, Nat.reduceLT, Nat.reduceLeDiff, Nat.reduceEqDiff, Nat.reduceBEq, Int.reduceLT, Int.reduceLE, Int.reduceEq, Int.reduceNe, Int.reduceBEq, Int.reduceBNe, Int.reduceAdd, Int.reduceSub, Int.reduceNeg, Int.reduceMul, Int.reduceToNat, ofS_inj, String.reduceEq, reduceCtorEq, beq_self_eq_true, f_turning, hp, hc, Wd.n_if]; simp [Sm.parts, Sm.turning]
  | call f as => simp only [Sm.toD] at *; simp (dsimp := false) (disch := first | omega | (simp; done) | (simp; omega)) only [ct_nx, ct_rt, ct_ct, ct_ex, rr_ok, rr_ex, oo_some, r_ok, r_ex, o_some, os_some, rs_ok, rs_ex, nx_nx, nx_rt, nx_ct, nx_ex, end_rt, end_nx, end_ex, ev_glo, ev_int, ev_bl, ev_non, ev_str, ev_bin, ev_neg, ev_not, ev_and, ev_or, ev_ite, ev_cmp, ev_chain, ev_call, ev_make, ev_meth, ev_isi, ev_b1, ev_max2, ev_min2, ev_lenset, ev_sortset, ev_dictzip, ev_append, ev_extend, ev_pop, ev_get1, ev_get2, ev_join, ev_split, ev_index, ev_count, ev_update, ev_gsub, ev_pop0, ev_attr, ev_sub, ev_sl, ev_slm, ev_tup, ev_lst, ev_dct, ev_fstr, ev_frz, ev_ink, ev_sbk, ev_tidx, ev_dpk, evs_0, evs_1, evA_0, evA_1, evA_2, evO_0, evO_1, evO_2, evP_0, evP_1, evP_2, evF_0, evF_1, ex_expr, ex_set, ex_par, ex_attr, ex_sub, ex_sbk, ex_ret, ex_ite, ex_raise, ex_try, ex_cont, ex_pass, exs_0, exs_1, evq_rev, ↓evq_comp, rv_tup, rv_lst, ↓exq_for, ↓exq_while, fb_ap, wc_ap, wb_ap, cb_ap, ev_v0, ev_v1, ev_v2, ev_v3, ev_v4, ev_v5, ev_v6, ev_v7, ev_v8, ev_v9, ev_v10, ev_v11, ev_v12, ev_v13, ev_v14, ev_v15, ev_v16, ev_v17, ev_v18, ev_v19, ev_v20, ev_v21, ev_v22, ev_v23, ev_v24, ev_v25, isi_non_int, isi_non_str, isi_non_bool, isi_non_tuple, isi_non_list, isi_non_dict, isi_bl_int, isi_bl_str, isi_bl_bool, isi_bl_tuple, isi_bl_list, isi_bl_dict, isi_int_int, isi_int_str, isi_int_bool, isi_int_tuple, isi_int_list, isi_int_dict, isi_str_int, isi_str_str, isi_str_bool, isi_str_tuple, isi_str_list, isi_str_dict, isi_tup_int, isi_tup_str, isi_tup_bool, isi_tup_tuple, isi_tup_list, isi_tup_dict, isi_lst_int, isi_lst_str, isi_lst_bool, isi_lst_tuple, isi_lst_list, isi_lst_dict, isi_dct_int, isi_dct_str, isi_dct_bool, isi_dct_tuple, isi_dct_list, isi_dct_dict, tr_non, tr_bl, tr_int, tr_tup, tr_lst, tr_scr, tr_dct, b_add, b_sub, b_addS, b_addT, b_addL, b_mod, b_fdiv, b_mulL, b_mulR, b_mulT, c_eq_ss, c_ne_ss, c_eq_ii, c_ne_ii, c_eq_si, c_ne_si, c_eq_is, c_ne_is, c_eq_ns, c_ne_ns, c_eq_bs, c_ne_bs, c_eq_ni, c_ne_ni, c_eq_bb, c_ne_bb, c_eq_nn, c_ne_nn, c_lt, c_le, c_gt, c_ge, c_is_non, c_isn_non, c_is_bl, c_isn_bl, c_is_int, c_isn_int, c_is_str, c_isn_str, c_is_tup, c_isn_tup, c_is_lst, c_isn_lst, c_is_dct, c_isn_dct, c_in_ss, c_in_dct, c_nin_dct, c_in_tup, c_nin_tup, c_in_lst, c_nin_lst, s_tup, s_lst, s_dct, of_some, at_0, at_1, at_2, at_3, at_4, at_5, at_6, at_7, at_m1, sl_tup, sl_lst, pt_0, pt_1, l_tup, l_lst, l_dct, l_scr, l_str, tup_lst, tup_tup, lst_tup, lst_lst, all_bs, any_bs, sum_is, all2, all_map, any_map, sum_map, int_i, int_b, w_tup, w_lst, w_str, w_range, w_r3, w_r4, w_r5, w_r6, w_r7, w_r8, w_r9, w_r10, w_r11, w_r12, w_r20, w_r30, w_r40, w_r50, w_r60, ↓fr_cons, it_nx, it_ct, it_rt, it_ex, w_r0, w_r1, w_r2, es_m2, es_m3, es_m4, w_zip, w_enumT, w_enum, ↓cw_row, ↓fw_row, ↓cr_nil, ↓fr_nil, mkL_f, mkD_f, es_one, wp_nil, wp_cons, cal_wf, key_str, key_int, prj1, prj2, gD_some, gD_none, asD_dct, q_int, q_str, q_bl, q_tup, List.map_nil, List.length_cons, List.length_nil, List.length_map, List.getElem?_cons_zero, List.getElem?_cons_succ, Option.bind_some, List.set_cons_zero, List.set_cons_succ, ↓reduceIte, fits_ok, Bool.false_eq_true, Bool.true_and, Bool.and_true, Bool.false_and, Bool.and_false, Bool.or_false, Bool.false_or, Bool.true_or, Bool.or_true, Bool.not_true, Bool.not_false, decide_true, decide_false, List.isEmpty_cons, List.isEmpty_nil, List.cons_append, List.nil_append, Nat.zero_add, Int.cast_ofNat_Int, Int.natCast_zero, Nat.reduceAdd, Nat.reduceSub, Nat.reduceLT, Nat.reduceLeDiff, Nat.reduceEqDiff, Nat.reduceBEq, Int.reduceLT, Int.reduceLE, Int.reduceEq, Int.reduceNe, Int.reduceBEq, Int.reduceBNe, Int.reduceAdd, Int.reduceSub, Int.reduceNeg, Int.reduceMul, Int.reduceToNat, ofS_inj, String.reduceEq, reduceCtorEq, beq_self_eq_true, f_turning, hp, hc]; simp [Sm.parts, Sm.turning]
  | ite t a b =>
    have ha := Sm.dep_part (s := .ite t a b) (p := a) (by simp [Sm.parts])
    have hb := Sm.dep_part (s := .ite t a b) (p := b) (by simp [Sm.parts])
    have ha2 := Sm.size_part (s := .ite t a b) (p := a) (by simp [Sm.parts])
    have hb2 := Sm.size_part (s := .ite t a b) (p := b) (by simp [Sm.parts])
    have h1 := hno t (by simp [Sm.parts])
    have h2 := ih a (by simp [Sm.parts]) (n + 2) (by omega) (by omega)
    have h3 := ih b (by simp [Sm.parts]) (n + 2) (by omega) (by omega)
    simp only [Sm.toD]
    cases e1 : t.none ns
    · simp_all! [f_turning, h1, e1, Sm.turning]
    · cases e2 : a.turning ns
      · simp_all! [f_turning, h1, h2, e1, e2, Sm.turning]
      · simp_all! [f_turning, h1, h2, h3, e1, e2, Sm.turning]
theorem Sm.called_any (ns : List Str) : ∀ s : Sm, s.called.any ns.contains = s.callsAny ns := by
  intro s
  induction s using Sm.indP with
  | h s ih =>
    rw [s.called_parts, s.callsAny_parts, List.any_append, List.any_flatMap, Bool.or_comm]
    congr 1
    · cases s <;> simp [Sm.own, Sm.callOf]
    · rw [Bool.eq_iff_iff, List.any_eq_true, List.any_eq_true]
      exact ⟨fun ⟨x, h1, h2⟩ => ⟨x, h1, by rw [← ih x h1]; exact h2⟩, fun ⟨x, h1, h2⟩ => ⟨x, h1, by rw [ih x h1]; exact h2⟩⟩
/-! ### a maker of a book -/
end CP

end
section
set_option maxHeartbeats 1000000
/-! callturn proofs, plain part: like things; a book with another maker; the hand's called ones -/
namespace CP
open PySem CT
/-- plain things without lists -/
def Pt : Nat → D → Prop
  | _, .non => True
  | _, .bl _ => True
  | _, .int _ => True
  | _, .str _ => True
  | n + 1, .tup ds => ds.length ≤ 16777216 ∧ ∀ d ∈ ds, Pt n d
  | _, _ => False
theorem Pt.tup {n : Nat} {ds : List D} (h : Pt n (.tup ds)) : ∃ m, n = m + 1 ∧ ds.length ≤ 16777216 ∧ ∀ d ∈ ds, Pt m d := by
  cases n with
  | zero => unfold Pt at h; exact h.elim
  | succ n => unfold Pt at h; exact ⟨n, rfl, h⟩
theorem Pt.mk {n : Nat} {ds : List D} (h : ds.length ≤ 16777216) (h2 : ∀ d ∈ ds, Pt n d) : Pt (n + 1) (.tup ds) := by unfold Pt; exact ⟨h, h2⟩
theorem Pt.mono : ∀ {n m : Nat} {d : D}, n ≤ m → Pt n d → Pt m d
  | _, _, .non, _, _ => by unfold Pt; trivial
  | _, _, .bl _, _, _ => by unfold Pt; trivial
  | _, _, .int _, _, _ => by unfold Pt; trivial
  | _, _, .str s, _, h => by unfold Pt; trivial
  | n + 1, m + 1, .tup ds, hl, h => by unfold Pt at *; exact ⟨h.1, fun d hd => (h.2 d hd).mono (by omega)⟩
  | 0, _, .tup ds, _, h => by unfold Pt at h; exact h.elim
  | _, _, .lst _, _, h => by unfold Pt at h; exact h.elim
  | _, _, .dct _ _, _, h => by unfold Pt at h; exact h.elim
  | _, _, .loc _, _, h => by unfold Pt at h; exact h.elim
  | _, _, .scr _, _, h => by unfold Pt at h; exact h.elim
  | _ + 1, 0, .tup _, hl, _ => by omega
theorem zip_self {α : Type} (l : List α) : l.zip l = l.map fun x => (x, x) := by
  induction l with
  | nil => rfl
  | cons a r ih => simp [ih]
theorem same_ok (S : Sto) : ∀ (n : Nat) (d : D) (m : Nat), n + 1 ≤ m → Pt n d → (cal prg 4000 m).fn 9 [d, d] S = .ok (.bl true) S := by
  intro n
  induction n with
  | zero =>
    intro d m hm h
    obtain ⟨m, rfl⟩ : ∃ k, m = k + 1 := ⟨m - 1, by omega⟩
    rw [E_law_same]
    cases d with
    | non => simp_all! [f_law_same]
    | bl b => simp_all! [f_law_same]
    | int i => simp_all! [f_law_same]
    | str s => simp_all! [f_law_same]
    | _ => unfold Pt at h; exact h.elim
  | succ n ih =>
    intro d m hm h
    obtain ⟨m, rfl⟩ : ∃ k, m = k + 1 := ⟨m - 1, by omega⟩
    rw [E_law_same]
    cases d with
    | non => simp_all! [f_law_same]
    | bl b => simp_all! [f_law_same]
    | int i => simp_all! [f_law_same]
    | str s => simp_all! [f_law_same]
    | tup ds =>
      obtain ⟨k, hk, hl, hp⟩ := h.tup
      cases hk
      have hz : (ds.zip ds).map (fun p => D.tup [p.1, p.2]) = ds.map fun x => D.tup [x, x] := by rw [zip_self, List.map_map]; rfl
      simp_all! [f_law_same, hz]
      generalize hc : compRow _ _ _ = c
      obtain rfl := compRow_map_of (fun x => D.tup [x, x]) (fun _ => D.bl true) hc (fun p hp' => by
        have := ih p m (by omega) (hp p hp')
        simp_all! [this])
      have ha : ds.all (fun _ => true) = true := by simp
      simp_all! [all_map false S ds fun _ => true, ha]
    | _ => unfold Pt at h; exact h.elim
/-! ### the called ones by hand -/
mutual
def Sm.lcalled : Sm → List Str
  | .num _ => []
  | .nam _ => []
  | .half a => a.lcalled
  | .two _ a b => a.lcalled ++ b.lcalled
  | .ite t a b => t.lcalled ++ (a.lcalled ++ b.lcalled)
  | .call f as => f :: lcalleds as
def lcalleds : List Sm → List Str
  | [] => []
  | a :: r => a.lcalled ++ lcalleds r
end
theorem lcalleds_flat : ∀ as : List Sm, lcalleds as = as.flatMap Sm.lcalled
  | [] => rfl
  | a :: r => by rw [lcalleds, lcalleds_flat r]; rfl
theorem Sm.lcalled_parts (s : Sm) : s.lcalled = s.own ++ s.parts.flatMap Sm.lcalled := by
  cases s <;> simp [Sm.lcalled, Sm.parts, Sm.own, lcalleds_flat]
theorem Sm.lcalled_any (ns : List Str) : ∀ s : Sm, s.lcalled.any ns.contains = s.callsAny ns := by
  intro s
  induction s using Sm.indP with
  | h s ih =>
    rw [s.lcalled_parts, s.callsAny_parts, List.any_append, List.any_flatMap]
    congr 1
    · cases s <;> simp [Sm.own, Sm.callOf]
    · rw [Bool.eq_iff_iff, List.any_eq_true, List.any_eq_true]
      exact ⟨fun ⟨x, h1, h2⟩ => ⟨x, h1, by rw [← ih x h1]; exact h2⟩, fun ⟨x, h1, h2⟩ => ⟨x, h1, by rw [ih x h1]; exact h2⟩⟩
theorem Sm.lcalled_len : ∀ s : Sm, s.lcalled.length ≤ s.size := by
  intro s
  induction s using Sm.indP with
  | h s ih =>
    rw [s.lcalled_parts, s.size_parts]
    have h1 : s.own.length ≤ 1 := by cases s <;> simp [Sm.own]
    have h2 : ∀ l : List Sm, (∀ p ∈ l, p.lcalled.length ≤ p.size) → (l.flatMap Sm.lcalled).length ≤ (l.map Sm.size).sum := by
      intro l
      induction l with
      | nil => intro _; simp
      | cons a r ih2 =>
        intro h
        have := h a (by simp)
        have := ih2 fun p hp => h p (by simp [hp])
        rw [List.flatMap_cons, List.length_append, List.map_cons, List.sum_cons]; omega
    have := h2 s.parts ih
    rw [List.length_append]; omega
theorem law_called_loop (n : Nat) (d0 : D) (S0 : Sto) : ∀ (ps : List Sm) (acc : List Str) (T : Sto) (m : Nat) (y x : Option D), (∀ p ∈ ps, ∀ S, (cal prg 4000 n).fn 83 [p.toD] S = .ok (.lst (p.lcalled.map D.str)) S) →
    acc.length + (ps.flatMap Sm.lcalled).length ≤ 16777216 → S0.length ≤ m → (S0 ++ T)[m]? = some (.lst (acc.map D.str)) →
    ∃ T' m' x', forRow (fbody (cal prg 4000 n) (.one 3) f_law_called_L1) (ps.map Sm.toD) [some d0, some (.loc m), y, x] (S0 ++ T) = .nx [some d0, some (.loc m'), y, x'] (S0 ++ T') ∧ S0.length ≤ m' ∧ (S0 ++ T')[m']? = some (.lst ((acc ++ ps.flatMap Sm.lcalled).map D.str))
  | [], acc, T, m, y, x, _, _, hm, hg => ⟨T, m, x, by simp [forRow], hm, by simpa using hg⟩
  | p :: ps, acc, T, m, y, x, h, hl, hm, hg => by
    have hl' : acc.length + (p.lcalled.length + (ps.flatMap Sm.lcalled).length) ≤ 16777216 := by rw [List.flatMap_cons, List.length_append] at hl; exact hl
    have hadd : binop .add true (.loc m) (.lst (p.lcalled.map D.str)) (S0 ++ T) = .ok (.loc (S0 ++ T).length) (S0 ++ (T ++ [.lst ((acc ++ p.lcalled).map D.str)])) := by
      have h1 : asM (S0 ++ T) (.loc m) = some (acc.map D.str) := by simp [asM, hg]
      have h2 : asM (S0 ++ T) (.lst (p.lcalled.map D.str)) = some (p.lcalled.map D.str) := rfl
      show (match asM (S0 ++ T) (.loc m), asM (S0 ++ T) (.lst (p.lcalled.map D.str)) with
        | some a, some b => if fits (a.length + b.length) then mkL true (a ++ b) (S0 ++ T) else .no
        | _, _ => .no) = _
      rw [h1, h2]
      have hf : fits ((acc.map D.str).length + (p.lcalled.map D.str).length) = true := fits_le (by rw [List.length_map, List.length_map]; omega)
      simp only [hf, if_true, mkL]
      simp
    obtain ⟨T', m', x', e, h1, h2⟩ := law_called_loop n d0 S0 ps (acc ++ p.lcalled) (T ++ [.lst ((acc ++ p.lcalled).map D.str)]) (S0 ++ T).length y (some p.toD) (fun q hq => h q (by simp [hq])) (by rw [List.length_append]; omega) (by simp) (by rw [← List.append_assoc]; simp)
    refine ⟨T', m', x', ?_, h1, ?_⟩
    · have hp := h p (by simp) (S0 ++ T)
      simp_all! [f_law_called_L1, hp, hadd, e]
    · rw [h2]; simp
theorem pures_str (l : List Str) : D.pure (.lst (l.map D.str)) = true := by
  simp only [D.pure]
  induction l with
  | nil => rfl
  | cons a r ih => simp only [List.map_cons, pures, D.pure, Bool.true_and]; exact ih
theorem strip_own (S0 T : Sto) (m : Nat) (ds : List D) (hm : S0.length ≤ m) (hg : (S0 ++ T)[m]? = some (.lst ds)) : strip1 (S0 ++ T) (.loc m) = .ok (.lst ds) (S0 ++ T.set (m - S0.length) .ded) := by
  simp only [strip1, hg]
  rw [List.set_append_right _ _ hm]
theorem mkL_tt (ds : List D) (S : Sto) : mkL true ds S = .ok (.loc S.length) (S ++ [.lst ds]) := (rfl)
theorem law_called_op (n : Nat) (S : Sto) (w : Str) (ps : List Sm) (h1 : (w = "call") = False) (h2 : (w = "again") = False) (h : ∀ p ∈ ps, ∀ S, (cal prg 4000 n).fn 83 [p.toD] S = .ok (.lst (p.lcalled.map D.str)) S)
    (hl : (ps.flatMap Sm.lcalled).length ≤ 16777216) : (cal prg 4000 (n + 1)).fn 83 [.tup (.str w :: ps.map Sm.toD)] S = .ok (.lst ((ps.flatMap Sm.lcalled).map D.str)) S := by
  obtain ⟨T', m', x', e, hm, hg⟩ := law_called_loop n (.tup (.str w :: ps.map Sm.toD)) S ps [] [.lst []] S.length (some (.tup (ps.map Sm.toD))) none h (by rw [List.length_nil]; omega) (Nat.le_refl _) (by simp)
  rw [List.nil_append] at hg
  rw [E_law_called]
  simp (dsimp := false) (disch := first | omega | (simp; done) | (simp; omega)) only [ct_nx, ct_rt, ct_ct, ct_ex, rr_ok, rr_ex, oo_some, r_ok, r_ex, o_some, os_some, rs_ok, rs_ex, nx_nx, nx_rt, nx_ct, nx_ex, end_rt, end_nx, end_ex, ev_glo, ev_int, ev_bl, ev_non, ev_str, ev_bin, ev_neg, ev_not, ev_and, ev_or, ev_ite, ev_cmp, ev_chain, ev_call, ev_make, ev_meth, ev_isi, ev_b1, ev_max2, ev_min2, ev_lenset, ev_sortset, ev_dictzip, ev_append, ev_extend, ev_pop, ev_get1, ev_get2, ev_join, ev_split, ev_index, ev_count, ev_update, ev_gsub, ev_pop0, ev_attr, ev_sub, ev_sl, ev_slm, ev_tup, ev_lst, ev_dct, ev_fstr, ev_frz, ev_ink, ev_sbk, ev_tidx, ev_dpk, evs_0, evs_1, evA_0, evA_1, evA_2, evO_0, evO_1, evO_2, evP_0, evP_1, evP_2, evF_0, evF_1, ex_expr, ex_set, ex_par, ex_attr, ex_sub, ex_sbk, ex_ret, ex_ite, ex_raise, ex_try, ex_cont, ex_pass, exs_0, exs_1, evq_rev, ↓evq_comp, rv_tup, rv_lst, ↓exq_for, ↓exq_while, fb_ap, wc_ap, wb_ap, cb_ap, ev_v0, ev_v1, ev_v2, ev_v3, ev_v4, ev_v5, ev_v6, ev_v7, ev_v8, ev_v9, ev_v10, ev_v11, ev_v12, ev_v13, ev_v14, ev_v15, ev_v16, ev_v17, ev_v18, ev_v19, ev_v20, ev_v21, ev_v22, ev_v23, ev_v24, ev_v25, isi_non_int, isi_non_str, isi_non_bool, isi_non_tuple, isi_non_list, isi_non_dict, isi_bl_int, isi_bl_str, isi_bl_bool, isi_bl_tuple, isi_bl_list, isi_bl_dict, isi_int_int, isi_int_str, isi_int_bool, isi_int_tuple, isi_int_list, isi_int_dict, isi_str_int, isi_str_str, isi_str_bool, isi_str_tuple, isi_str_list, isi_str_dict, isi_tup_int, isi_tup_str, isi_tup_bool, isi_tup_tuple, isi_tup_list, isi_tup_dict, isi_lst_int, isi_lst_str, isi_lst_bool, isi_lst_tuple, isi_lst_list, isi_lst_dict, isi_dct_int, isi_dct_str, isi_dct_bool, isi_dct_tuple, isi_dct_list, isi_dct_dict, tr_non, tr_bl, tr_int, tr_tup, tr_lst, tr_scr, tr_dct, b_add, b_sub, b_addS, b_addT, b_addL, b_mod, b_fdiv, b_mulL, b_mulR, b_mulT, c_eq_ss, c_ne_ss, c_eq_ii, c_ne_ii, c_eq_si, c_ne_si, c_eq_is, c_ne_is, c_eq_ns, c_ne_ns, c_eq_bs, c_ne_bs, c_eq_ni, c_ne_ni, c_eq_bb, c_ne_bb, c_eq_nn, c_ne_nn, c_lt, c_le, c_gt, c_ge, c_is_non, c_isn_non, c_is_bl, c_isn_bl, c_is_int, c_isn_int, c_is_str, c_isn_str, c_is_tup, c_isn_tup, c_is_lst, c_isn_lst, c_is_dct, c_isn_dct, c_in_ss, c_in_dct, c_nin_dct, c_in_tup, c_nin_tup, c_in_lst, c_nin_lst, s_tup, s_lst, s_dct, of_some, at_0, at_1, at_2, at_3, at_4, at_5, at_6, at_7, at_m1, sl_tup, sl_lst, pt_0, pt_1, l_tup, l_lst, l_dct, l_scr, l_str, tup_lst, tup_tup, lst_tup, lst_lst, all_bs, any_bs, sum_is, all2, all_map, any_map, sum_map, int_i, int_b, w_tup, w_lst, w_str, w_range, w_r3, w_r4, w_r5, w_r6, w_r7, w_r8, w_r9, w_r10, w_r11, w_r12, w_r20, w_r30, w_r40, w_r50, w_r60, it_nx, it_ct, it_rt, it_ex, w_r0, w_r1, w_r2, es_m2, es_m3, es_m4, w_zip, w_enumT, w_enum, ↓cw_row, ↓fw_row, ↓cr_nil, ↓cr_cons, ↓fr_nil, mkL_f, mkD_f, es_one, wp_nil, wp_cons, cal_wf, key_str, key_int, prj1, prj2, gD_some, gD_none, asD_dct, q_int, q_str, q_bl, q_tup, List.map_nil, List.length_cons, List.length_nil, List.length_map, List.getElem?_cons_zero, List.getElem?_cons_succ, Option.bind_some, List.set_cons_zero, List.set_cons_succ, ↓reduceIte, fits_ok, Bool.false_eq_true, Bool.true_and, Bool.and_true, Bool.false_and, Bool.and_false, Bool.or_false, Bool.false_or, Bool.true_or, Bool.or_true, Bool.not_true, Bool.not_false, decide_true, decide_false, List.isEmpty_cons, List.isEmpty_nil, List.cons_append, List.nil_append, Nat.zero_add, Int.cast_ofNat_Int, Int.natCast_zero, Nat.reduceAdd, Nat.reduceSub, Nat.reduceLT, Nat.reduceLeDiff, Nat.reduceEqDiff, Nat.reduceBEq, Int.reduceLT, Int.reduceLE, Int.reduceEq, Int.reduceNe, Int.reduceBEq, Int.reduceBNe, Int.reduceAdd, Int.reduceSub, Int.reduceNeg, Int.reduceMul, Int.reduceToNat, ofS_inj, String.reduceEq, reduceCtorEq, beq_self_eq_true, f_law_called, mkL_tt, cut1, h1, h2, e, strip_own S T' m' _ hm hg, own_rt _ _ _ (pures_str _)]
theorem law_called_call (n : Nat) (S : Sto) (f : Str) (as : List Sm) (h : ∀ p ∈ as, ∀ S, (cal prg 4000 n).fn 83 [p.toD] S = .ok (.lst (p.lcalled.map D.str)) S)
    (hl : (as.flatMap Sm.lcalled).length + 1 ≤ 16777216) : (cal prg 4000 (n + 1)).fn 83 [.tup [.str "call", .str f, .tup (as.map Sm.toD)]] S = .ok (.lst ((f :: as.flatMap Sm.lcalled).map D.str)) S := by
  obtain ⟨T', m', x', e, hm, hg⟩ := law_called_loop n (.tup [.str "call", .str f, .tup (as.map Sm.toD)]) S as [f] [.lst [.str f]] S.length (some (.tup (as.map Sm.toD))) none h (by rw [List.length_singleton]; omega) (Nat.le_refl _) (by simp)
  have hla : lstAt (S ++ [.lst []]) (.loc S.length) = some (S.length, []) := by simp [lstAt]
  have hset : (S ++ [Ob.lst []]).set S.length (.lst ([] ++ [D.str f])) = S ++ [.lst [.str f]] := by
    rw [List.set_append_right _ _ (Nat.le_refl _)]; simp
  have hset' : (S ++ [Ob.lst []]).set S.length (.lst [D.str f]) = S ++ [.lst [.str f]] := by
    rw [List.set_append_right _ _ (Nat.le_refl _)]; simp
  rw [E_law_called]
  simp (dsimp := false) (disch := first | omega | (simp; done) | (simp; omega)) only [ct_nx, ct_rt, ct_ct, ct_ex, rr_ok, rr_ex, oo_some, r_ok, r_ex, o_some, os_some, rs_ok, rs_ex, nx_nx, nx_rt, nx_ct, nx_ex, end_rt, end_nx, end_ex, ev_glo, ev_int, ev_bl, ev_non, ev_str, ev_bin, ev_neg, ev_not, ev_and, ev_or, ev_ite, ev_cmp, ev_chain, ev_call, ev_make, ev_meth, ev_isi, ev_b1, ev_max2, ev_min2, ev_lenset, ev_sortset, ev_dictzip, ev_append, ev_extend, ev_pop, ev_get1, ev_get2, ev_join, ev_split, ev_index, ev_count, ev_update, ev_gsub, ev_pop0, ev_attr, ev_sub, ev_sl, ev_slm, ev_tup, ev_lst, ev_dct, ev_fstr, ev_frz, ev_ink, ev_sbk, ev_tidx, ev_dpk, evs_0, evs_1, evA_0, evA_1, evA_2, evO_0, evO_1, evO_2, evP_0, evP_1, evP_2, evF_0, evF_1, ex_expr, ex_set, ex_par, ex_attr, ex_sub, ex_sbk, ex_ret, ex_ite, ex_raise, ex_try, ex_cont, ex_pass, exs_0, exs_1, evq_rev, ↓evq_comp, rv_tup, rv_lst, ↓exq_for, ↓exq_while, fb_ap, wc_ap, wb_ap, cb_ap, ev_v0, ev_v1, ev_v2, ev_v3, ev_v4, ev_v5, ev_v6, ev_v7, ev_v8, ev_v9, ev_v10, ev_v11, ev_v12, ev_v13, ev_v14, ev_v15, ev_v16, ev_v17, ev_v18, ev_v19, ev_v20, ev_v21, ev_v22, ev_v23, ev_v24, ev_v25, isi_non_int, isi_non_str, isi_non_bool, isi_non_tuple, isi_non_list, isi_non_dict, isi_bl_int, isi_bl_str, isi_bl_bool, isi_bl_tuple, isi_bl_list, isi_bl_dict, isi_int_int, isi_int_str, isi_int_bool, isi_int_tuple, isi_int_list, isi_int_dict, isi_str_int, isi_str_str, isi_str_bool, isi_str_tuple, isi_str_list, isi_str_dict, isi_tup_int, isi_tup_str, isi_tup_bool, isi_tup_tuple, isi_tup_list, isi_tup_dict, isi_lst_int, isi_lst_str, isi_lst_bool, isi_lst_tuple, isi_lst_list, isi_lst_dict, isi_dct_int, isi_dct_str, isi_dct_bool, isi_dct_tuple, isi_dct_list, isi_dct_dict, tr_non, tr_bl, tr_int, tr_tup, tr_lst, tr_scr, tr_dct, b_add, b_sub, b_addS, b_addT, b_addL, b_mod, b_fdiv, b_mulL, b_mulR, b_mulT, c_eq_ss, c_ne_ss, c_eq_ii, c_ne_ii, c_eq_si, c_ne_si, c_eq_is, c_ne_is, c_eq_ns, c_ne_ns, c_eq_bs, c_ne_bs, c_eq_ni, c_ne_ni, c_eq_bb, c_ne_bb, c_eq_nn, c_ne_nn, c_lt, c_le, c_gt, c_ge, c_is_non, c_isn_non, c_is_bl, c_isn_bl, c_is_int, c_isn_int, c_is_str, c_isn_str, c_is_tup, c_isn_tup, c_is_lst, c_isn_lst, c_is_dct, c_isn_dct, c_in_ss, c_in_dct, c_nin_dct, c_in_tup, c_nin_tup, c_in_lst, c_nin_lst, s_tup, s_lst, s_dct, of_some, at_0, at_1, at_2, at_3, at_4, at_5, at_6, at_7, at_m1, sl_tup, sl_lst, pt_0, pt_1, l_tup, l_lst, l_dct, l_scr, l_str, tup_lst, tup_tup, lst_tup, lst_lst, all_bs, any_bs, sum_is, all2, all_map, any_map, sum_map, int_i, int_b, w_tup, w_lst, w_str, w_range, w_r3, w_r4, w_r5, w_r6, w_r7, w_r8, w_r9, w_r10, w_r11, w_r12, w_r20, w_r30, w_r40, w_r50, w_r60, it_nx, it_ct, it_rt, it_ex, w_r0, w_r1, w_r2, es_m2, es_m3, es_m4, w_zip, w_enumT, w_enum, ↓cw_row, ↓fw_row, ↓cr_nil, ↓cr_cons, ↓fr_nil, mkL_f, mkD_f, es_one, wp_nil, wp_cons, cal_wf, key_str, key_int, prj1, prj2, gD_some, gD_none, asD_dct, q_int, q_str, q_bl, q_tup, List.map_cons, List.map_nil, List.length_cons, List.length_nil, List.length_map, List.getElem?_cons_zero, List.getElem?_cons_succ, Option.bind_some, List.set_cons_zero, List.set_cons_succ, ↓reduceIte, fits_ok, Bool.false_eq_true, Bool.true_and, Bool.and_true, Bool.false_and, Bool.and_false, Bool.or_false, Bool.false_or, Bool.true_or, Bool.or_true, Bool.not_true, Bool.not_false, decide_true, decide_false, List.isEmpty_cons, List.isEmpty_nil, List.cons_append, List.nil_append, Nat.zero_add, Int.cast_ofNat_Int, Int.natCast_zero, Nat.reduceAdd, Nat.reduceSub, Nat.reduceLT, Nat.reduceLeDiff, Nat.reduceEqDiff, Nat.reduceBEq, Int.reduceLT, Int.reduceLE, Int.reduceEq, Int.reduceNe, Int.reduceBEq, Int.reduceBNe, Int.reduceAdd, Int.reduceSub, Int.reduceNeg, Int.reduceMul, Int.reduceToNat, ofS_inj, String.reduceEq, reduceCtorEq, beq_self_eq_true, f_law_called, mkL_tt, cut1, hla, hset, hset', e, strip_own S T' m' _ hm hg, own_rt _ _ _ (pures_str _)]
  exact own_rt _ _ _ (pures_str (f :: as.flatMap Sm.lcalled))
theorem law_called_ok : ∀ (s : Sm) (n : Nat) (S : Sto), s.dep + 1 ≤ n → s.size ≤ 16777215 → (cal prg 4000 n).fn 83 [s.toD] S = .ok (.lst (s.lcalled.map D.str)) S := by
  intro s
  induction s using Sm.indP with
  | h s ih =>
  intro n S hn hs
  obtain ⟨n, rfl⟩ : ∃ m, n = m + 1 := ⟨n - 1, by omega⟩
  have hlen := s.lcalled_len
  rw [s.lcalled_parts, List.length_append] at hlen
  have hi : ∀ p ∈ s.parts, ∀ S, (cal prg 4000 n).fn 83 [p.toD] S = .ok (.lst (p.lcalled.map D.str)) S := fun p hp S => by
    have h1 := Sm.dep_part hp
    have h2 := Sm.size_part hp
    exact ih p hp n S (by omega) (by omega)
  rw [s.lcalled_parts]
  cases s with
  | num i => rw [E_law_called]; simp only [Sm.toD, Sm.parts, Sm.own]; simp_all! [f_law_called, own_rt0 S (.lst []) rfl]; rfl
  | nam i => rw [E_law_called]; simp only [Sm.toD, Sm.parts, Sm.own]; simp_all! [f_law_called, own_rt0 S (.lst []) rfl]; rfl
  | half a =>
    have := law_called_op n S "half" [a] (by simp [ofS_inj]) (by simp [ofS_inj]) hi (by simp only [Sm.parts] at hlen; omega)
    exact this
  | two w a b =>
    have := law_called_op n S w.str [a, b] (w.n_call) (by cases w <;> simp [Wd.str, ofS_inj]) hi (by simp only [Sm.parts] at hlen; omega)
    exact this
  | ite t a b =>
    have := law_called_op n S "if" [t, a, b] (by simp [ofS_inj]) (by simp [ofS_inj]) hi (by simp only [Sm.parts] at hlen; omega)
    exact this
  | call f as =>
    have := law_called_call n S f as hi (by simp only [Sm.parts, Sm.own, List.length_singleton] at hlen; omega)
    simp only [Sm.toD, toDs_map]
    exact this
end CP

end
section
set_option maxHeartbeats 1000000
/-! callturn proofs, plain part: last calls made loops; calls that come last, by hand -/
namespace CP
open PySem CT
theorem Sm.none_eq (ns : List Str) (s : Sm) : s.none ns = !s.callsAny ns := by unfold Sm.none; rw [s.called_any]
/-! ### by hand -/
theorem comp_in (ns : List Str) (S : Sto) (K : Cal) (e : Ev) : ∀ (l : List Str), compRow (fun d S => (cmpop .isin d (.lst (ns.map D.str)) S).bind fun b S => orNo (truth S b) fun t => if t = true then R.ok [d] S else .ok [] S) (l.map D.str) S = .ok ((l.filter ns.contains).map D.str) S := fun l =>
  compRow_filter D.str D.str ns.contains fun p _ => by
    rw [c_in_lst]
    cases h : ns.contains p <;> simp [R.bind, orNo, truth, h]
theorem fil_empty (ns l : List Str) : (!((l.filter ns.contains).map D.str).isEmpty) = l.any ns.contains := by
  induction l with
  | nil => rfl
  | cons a r ih =>
    rw [List.any_cons]
    cases h : ns.contains a
    · rw [List.filter_cons_of_neg (by rw [h]; exact Bool.false_ne_true), ih]; rfl
    · rw [List.filter_cons_of_pos h]; rfl
theorem all_last_ok (ns : List Str) (S : Sto) : ∀ (s : Sm) (n : Nat), s.dep + 3 ≤ n → s.size ≤ 16777215 → (cal prg 4000 n).fn 90 [s.toD, .lst (ns.map D.str)] S = .ok (.bl (s.turning ns)) S := by
  intro s
  induction s using Sm.indP with
  | h s ih =>
  intro n hn hs
  obtain ⟨n, rfl⟩ : ∃ m, n = m + 1 := ⟨n - 1, by omega⟩
  have hl := s.lcalled_len
  have hfl : (s.lcalled.filter ns.contains).length ≤ 16777216 := Nat.le_trans (List.length_filter_le _ _) (by omega)
  have h1 := law_called_ok s n S (by omega) (by omega)
  have hc1 := comp_in ns S (cal prg 4000 n) [] s.lcalled
  have he1 := fil_empty ns s.lcalled
  rw [s.lcalled_any] at he1
  rw [E_law_all_last]
  cases hc : s.callsAny ns
  · simp_all! [f_law_all_last, h1, hc1, he1, hc]
    have key : ∀ s : Sm, s.callsAny ns = false → s.turning ns = true := by
      intro s
      induction s using Sm.indP with
      | h s ih2 =>
        intro hc
        rw [s.callsAny_parts, Bool.or_eq_false_iff, List.any_eq_false] at hc
        cases s with
        | num => rfl
        | nam => rfl
        | half a => simp only [Sm.turning, Sm.none_eq]; simpa using hc.2 a (by simp [Sm.parts])
        | two w a b =>
          simp only [Sm.turning, Sm.none_eq]
          have h1 := hc.2 a (by simp [Sm.parts])
          have h2 := hc.2 b (by simp [Sm.parts])
          simp at h1 h2
          simp [h1, h2]
        | ite t a b =>
          simp only [Sm.turning, Sm.none_eq]
          have h0 := hc.2 t (by simp [Sm.parts])
          have h1 := hc.2 a (by simp [Sm.parts])
          have h2 := hc.2 b (by simp [Sm.parts])
          simp at h0 h1 h2
          rw [ih2 a (by simp [Sm.parts]) h1, ih2 b (by simp [Sm.parts]) h2, h0]; rfl
        | call f as =>
          simp only [Sm.turning]
          rw [List.all_eq_true]
          intro p hp
          have := hc.2 p hp
          rw [Sm.none_eq]; simpa using this
    rw [key s hc]
  · cases s with
    | num => simp [Sm.callsAny] at hc
    | nam => simp [Sm.callsAny] at hc
    | half a =>
      simp only [Sm.toD] at h1 ⊢
      simp_all! [f_law_all_last, h1, hc1, he1, hc]
      simp only [Sm.callsAny] at hc
      simp [Sm.turning, Sm.none_eq, hc]
    | two w a b =>
      simp only [Sm.toD] at h1 ⊢
      simp_all! [f_law_all_last, h1, hc1, he1, hc, Wd.n_if, Wd.n_call]
      simp only [Sm.callsAny] at hc
      simp only [Sm.turning, Sm.none_eq]
      cases ha : a.callsAny ns <;> cases hb : b.callsAny ns <;> simp [ha, hb] at hc ⊢
    | ite t a b =>
      have dt := Sm.dep_part (s := .ite t a b) (p := t) (by simp [Sm.parts])
      have da := Sm.dep_part (s := .ite t a b) (p := a) (by simp [Sm.parts])
      have db := Sm.dep_part (s := .ite t a b) (p := b) (by simp [Sm.parts])
      have zt := Sm.size_part (s := .ite t a b) (p := t) (by simp [Sm.parts])
      have za := Sm.size_part (s := .ite t a b) (p := a) (by simp [Sm.parts])
      have zb := Sm.size_part (s := .ite t a b) (p := b) (by simp [Sm.parts])
      have h0 := law_called_ok t n S (by omega) (by omega)
      have hlt := t.lcalled_len
      have hft : (t.lcalled.filter ns.contains).length ≤ 16777216 := Nat.le_trans (List.length_filter_le _ _) (by omega)
      have hct := comp_in ns S (cal prg 4000 n) [] t.lcalled
      have het := fil_empty ns t.lcalled
      rw [t.lcalled_any] at het
      have h2 := ih a (by simp [Sm.parts]) n (by omega) (by omega)
      have h3 := ih b (by simp [Sm.parts]) n (by omega) (by omega)
      simp only [Sm.toD] at h1 ⊢
      simp only [Sm.turning, Sm.none_eq]
      cases e0 : t.callsAny ns
      · cases e2 : a.turning ns
        · simp_all! [f_law_all_last, h1, hc1, he1, hc, h0, hct, het, e0, h2, e2]
        · simp_all! [f_law_all_last, h1, hc1, he1, hc, h0, hct, het, e0, h2, e2, h3]
      · simp_all! [f_law_all_last, h1, hc1, he1, hc, h0, hct, het, e0]
    | call f as =>
      have hop : ∀ p ∈ as, ∀ S, (cal prg 4000 (n - 1)).fn 83 [p.toD] S = .ok (.lst (p.lcalled.map D.str)) S := fun p hp S => by
        have d1 := Sm.dep_part (s := .call f as) (p := p) hp
        have z1 := Sm.size_part (s := .call f as) (p := p) hp
        exact law_called_ok p (n - 1) S (by omega) (by omega)
      have hll : (as.flatMap Sm.lcalled).length ≤ 16777215 := by
        rw [Sm.lcalled_parts, List.length_append] at hl
        simp only [Sm.parts] at hl
        omega
      have hcl := law_called_op (n - 1) S "if" as (by simp [ofS_inj]) (by simp [ofS_inj]) hop (by omega)
      rw [show n - 1 + 1 = n by omega] at hcl
      have hcas := comp_in ns S (cal prg 4000 n) [] (as.flatMap Sm.lcalled)
      have hfas : ((as.flatMap Sm.lcalled).filter ns.contains).length ≤ 16777216 := Nat.le_trans (List.length_filter_le _ _) (by omega)
      have heas := fil_empty ns (as.flatMap Sm.lcalled)
      have hav : (as.flatMap Sm.lcalled).any ns.contains = as.any (Sm.callsAny ns) := by
        rw [List.any_flatMap, Bool.eq_iff_iff, List.any_eq_true, List.any_eq_true]
        exact ⟨fun ⟨x, h1, h2⟩ => ⟨x, h1, by rw [← x.lcalled_any]; exact h2⟩, fun ⟨x, h1, h2⟩ => ⟨x, h1, by rw [x.lcalled_any]; exact h2⟩⟩
      rw [hav] at heas
      have hlen : as.length < 16777215 := by
        have := (Sm.call f as).parts_len
        simp only [Sm.parts] at this
        omega
      simp only [Sm.toD, toDs_map] at h1 ⊢
      have htn : (Sm.call f as).turning ns = !as.any (Sm.callsAny ns) := by
        simp only [Sm.turning]
        rw [List.all_eq_not_any_not]
        congr 1
        rw [Bool.eq_iff_iff, List.any_eq_true, List.any_eq_true]
        exact ⟨fun ⟨x, h1, h2⟩ => ⟨x, h1, by rw [Sm.none_eq] at h2; simpa using h2⟩, fun ⟨x, h1, h2⟩ => ⟨x, h1, by rw [Sm.none_eq]; simp [h2]⟩⟩
      rw [htn]
      cases hf : ns.contains f
      · have : as.any (Sm.callsAny ns) = true := by
          simp only [Sm.callsAny, callsAnys_any, hf, Bool.false_or] at hc
          exact hc
        simp_all! [f_law_all_last, h1, hc1, he1, hc, hf]
        rw [this]; rfl
      · have hc9 : c_nin_lst S f ns = c_nin_lst S f ns := rfl
        simp_all! [f_law_all_last, h1, hc1, he1, hc, hf, hcl, hcas, heas]
end CP

end
section
set_option maxHeartbeats 1000000
/-! callturn proofs, plain part: plain things, at most so wide -/
namespace CP
open PySem CT
/-- plain things, at most so deep, rows at most so long -/
def Wide (L : Nat) : Nat → D → Prop
  | _, .non => True
  | _, .bl _ => True
  | _, .int _ => True
  | _, .str s => Sok s
  | n + 1, .tup ds => ds.length ≤ L ∧ ∀ d ∈ ds, Wide L n d
  | n + 1, .lst ds => ds.length ≤ L ∧ ∀ d ∈ ds, Wide L n d
  | _, _ => False
theorem Wide.mono {L M : Nat} (hL : L ≤ M) : ∀ {n m : Nat} {d : D}, n ≤ m → Wide L n d → Wide M m d
  | _, _, .non, _, _ => by unfold Wide; trivial
  | _, _, .bl _, _, _ => by unfold Wide; trivial
  | _, _, .int _, _, _ => by unfold Wide; trivial
  | _, _, .str s, _, h => by unfold Wide at *; exact h
  | n + 1, m + 1, .tup ds, hl, h => by unfold Wide at *; exact ⟨by omega, fun d hd => (h.2 d hd).mono hL (by omega)⟩
  | n + 1, m + 1, .lst ds, hl, h => by unfold Wide at *; exact ⟨by omega, fun d hd => (h.2 d hd).mono hL (by omega)⟩
  | 0, _, .tup ds, _, h => by unfold Wide at h; exact h.elim
  | 0, _, .lst ds, _, h => by unfold Wide at h; exact h.elim
  | _, _, .dct _ _, _, h => by unfold Wide at h; exact h.elim
  | _, _, .loc _, _, h => by unfold Wide at h; exact h.elim
  | _, _, .scr _, _, h => by unfold Wide at h; exact h.elim
  | _ + 1, 0, .tup _, hl, _ => by omega
  | _ + 1, 0, .lst _, hl, _ => by omega
theorem Wide.tup {L n : Nat} {ds : List D} (h : Wide L (n + 1) (.tup ds)) : ds.length ≤ L ∧ ∀ d ∈ ds, Wide L n d := by
  unfold Wide at h; exact h
theorem Wide.mk {L n : Nat} {ds : List D} (hl : ds.length ≤ L) (h : ∀ d ∈ ds, Wide L n d) : Wide L (n + 1) (.tup ds) := by
  unfold Wide; exact ⟨hl, h⟩
theorem Wide.str {L n : Nat} {s : Str} (h : Sok s) : Wide L n (.str s) := by unfold Wide; exact h
theorem Wide.int {L n : Nat} (i : Int) : Wide L n (.int i) := by unfold Wide; trivial
/-- a check of plain things, by running -/
def wideB (L : Nat) : Nat → D → Bool
  | _, .non => true
  | _, .bl _ => true
  | _, .int _ => true
  | _, .str s => decide (s.length ≤ 1000) && s.cps.all (· < 1114112)
  | n + 1, .tup ds => decide (ds.length ≤ L) && ds.all (wideB L n)
  | n + 1, .lst ds => decide (ds.length ≤ L) && ds.all (wideB L n)
  | _, _ => false
theorem Wide.of {L : Nat} : ∀ {n : Nat} {d : D}, wideB L n d = true → Wide L n d
  | _, .non, _ => by unfold Wide; trivial
  | _, .bl _, _ => by unfold Wide; trivial
  | _, .int _, _ => by unfold Wide; trivial
  | _, .str s, h => by
    unfold Wide; unfold wideB at h
    simp only [Bool.and_eq_true, decide_eq_true_eq] at h
    exact h
  | n + 1, .tup ds, h => by
    unfold Wide; unfold wideB at h
    simp only [Bool.and_eq_true, decide_eq_true_eq, List.all_eq_true] at h
    exact ⟨h.1, fun d hd => Wide.of (h.2 d hd)⟩
  | n + 1, .lst ds, h => by
    unfold Wide; unfold wideB at h
    simp only [Bool.and_eq_true, decide_eq_true_eq, List.all_eq_true] at h
    exact ⟨h.1, fun d hd => Wide.of (h.2 d hd)⟩
  | 0, .tup ds, h => by unfold wideB at h; cases h
  | 0, .lst ds, h => by unfold wideB at h; cases h
  | _, .dct _ _, h => by unfold wideB at h; cases h
  | _, .loc _, h => by unfold wideB at h; cases h
  | _, .scr _, h => by unfold wideB at h; cases h
theorem Wd.sok (w : Wd) : Sok w.str := by cases w <;> exact ⟨by decide +kernel, by decide +kernel⟩
theorem Sm.wide {nm : List Str} {cs : List (Str × Nat)} {L : Nat} (hL : 10 ≤ L) (hn : ∀ x ∈ nm, Sok x) (hc : ∀ c ∈ cs, Sok c.1 ∧ c.2 ≤ 10) : ∀ s : Sm, s.Wf nm cs → Wide L (2 * s.dep) s.toD := by
  intro s
  induction s using Sm.ind with
  | num i => intro _; exact Wide.int i
  | nam x => intro h; exact Wide.str (hn x h)
  | half a iha =>
    intro h
    simp only [Sm.toD, Sm.dep]
    refine Wide.mk (n := 2 * a.dep + 1) (by simp; omega) fun d hd => ?_
    simp at hd
    rcases hd with rfl | rfl
    · exact Wide.str sok_half
    · exact (iha h).mono (Nat.le_refl _) (by omega)
  | two w a b iha ihb =>
    intro h
    simp only [Sm.toD, Sm.dep]
    refine Wide.mk (n := 2 * (max a.dep b.dep) + 1) (by simp; omega) fun d hd => ?_
    simp at hd
    rcases hd with rfl | rfl | rfl
    · exact Wide.str w.sok
    · exact (iha h.1).mono (Nat.le_refl _) (by omega)
    · exact (ihb h.2).mono (Nat.le_refl _) (by omega)
  | ite t a b iht iha ihb =>
    intro h
    simp only [Sm.toD, Sm.dep]
    refine Wide.mk (n := 2 * (max t.dep (max a.dep b.dep)) + 1) (by simp; omega) fun d hd => ?_
    simp at hd
    rcases hd with rfl | rfl | rfl | rfl
    · exact Wide.str sok_if
    · exact (iht h.1).mono (Nat.le_refl _) (by omega)
    · exact (iha h.2.1).mono (Nat.le_refl _) (by omega)
    · exact (ihb h.2.2).mono (Nat.le_refl _) (by omega)
  | call f as ih =>
    intro h
    simp only [Sm.toD, Sm.dep]
    have hf := hc _ h.1
    simp only at hf
    refine Wide.mk (n := 2 * deps as + 1) (by simp; omega) fun d hd => ?_
    simp at hd
    rcases hd with rfl | rfl | rfl
    · exact Wide.str sok_call
    · exact Wide.str hf.1
    · refine Wide.mk (by rw [toDs_map, List.length_map]; omega) fun d hd => ?_
      rw [toDs_map] at hd
      obtain ⟨a, ha, rfl⟩ := List.mem_map.mp hd
      have hda : a.dep ≤ deps as := deps_le.mp (Nat.le_refl _) a ha
      exact (ih a ha (Wfs_iff.mp h.2 a ha)).mono (Nat.le_refl _) (by omega)
theorem Tr.wide {nm : List Str} {cs : List (Str × Nat)} {L : Nat} (hL : 10 ≤ L) (hn : ∀ x ∈ nm, Sok x) (hl : nm.length ≤ 10) (hc : ∀ c ∈ cs, Sok c.1 ∧ c.2 ≤ 10) : ∀ t : Tr, t.Wf nm cs → Wide L (t.dep + 1 + 2 * t.sdep) t.toD
  | .tell s, h => by
    simp only [Tr.toD, Tr.dep, Tr.sdep]
    have := Sm.wide hL hn hc s h
    refine (Wide.mk (n := 2 * s.dep) (by simp; omega) fun d hd => ?_).mono (Nat.le_refl _) (by omega)
    simp at hd
    rcases hd with rfl | rfl
    · exact Wide.str sok_tell
    · exact this
  | .again ss, h => by
    simp only [Tr.toD, Tr.dep, Tr.sdep]
    refine (Wide.mk (n := 2 * deps ss + 1) (by simp; omega) fun d hd => ?_).mono (Nat.le_refl _) (by omega)
    simp at hd
    rcases hd with rfl | rfl
    · exact Wide.str sok_again
    · refine Wide.mk (by rw [List.length_map, h.1]; omega) fun d hd => ?_
      obtain ⟨a, ha, rfl⟩ := List.mem_map.mp hd
      have hda : a.dep ≤ deps ss := deps_le.mp (Nat.le_refl _) a ha
      exact (Sm.wide hL hn hc a (Wfs_iff.mp h.2 a ha)).mono (Nat.le_refl _) (by omega)
  | .ite t a b, h => by
    simp only [Tr.toD, Tr.dep, Tr.sdep]
    have h1 := Sm.wide hL hn hc t h.1
    have h2 := Tr.wide hL hn hl hc a h.2.1
    have h3 := Tr.wide hL hn hl hc b h.2.2
    refine (Wide.mk (n := max a.dep b.dep + 1 + 2 * (max t.dep (max a.sdep b.sdep))) (by simp; omega) fun d hd => ?_).mono (Nat.le_refl _) (by omega)
    simp at hd
    rcases hd with rfl | rfl | rfl | rfl
    · exact Wide.str sok_if
    · exact h1.mono (Nat.le_refl _) (by omega)
    · exact h2.mono (Nat.le_refl _) (by omega)
    · exact h3.mono (Nat.le_refl _) (by omega)
def sokB (s : Str) : Bool := decide (s.length ≤ 1000) && s.cps.all (· < 1114112)
theorem sok_of {s : Str} (h : sokB s = true) : Sok s := by
  unfold sokB at h
  simp only [Bool.and_eq_true, decide_eq_true_eq] at h
  exact h
theorem sok_all {l : List Str} (h : l.all sokB = true) : ∀ x ∈ l, Sok x := fun x hx => sok_of (List.all_eq_true.mp h x hx)
theorem sok_n4 : ∀ x ∈ n4, Sok x := sok_all (by decide +kernel)
theorem sok_m4 : ∀ x ∈ m4, Sok x := sok_all (by decide +kernel)
theorem sok_kacc : ∀ x ∈ (["k", "acc"] : List Str), Sok x := sok_all (by decide +kernel)
theorem nmD_wide {L : Nat} {ns : List Str} (h : ∀ x ∈ ns, Sok x) (hl : ns.length ≤ L) : Wide L 1 (nmD ns) :=
  Wide.mk (by simpa using hl) fun d hd => by
    obtain ⟨x, hx, rfl⟩ := List.mem_map.mp hd
    exact Wide.str (h x hx)
theorem Mk.wide {cs : List (Str × Nat)} {L : Nat} (hL : 10 ≤ L) (hc : ∀ c ∈ cs, Sok c.1 ∧ c.2 ≤ 10) {m : Mk} (h : m.Wf cs) (hg : m.Gen 4) : Wide L 11 m.toD := by
  cases m with
  | fn f ns b =>
    obtain ⟨h1, h2, h3⟩ := h
    obtain ⟨⟨j, hj, rfl⟩, hd⟩ := hg
    have hs : ∀ x ∈ n4.take j, Sok x := fun x hx => sok_n4 x (List.mem_of_mem_take hx)
    have hnl : (n4.take j).length ≤ L := by rw [n4_len (by omega)]; omega
    refine Wide.mk (n := 10) (by simp; omega) fun d hd' => ?_
    simp at hd'
    rcases hd' with rfl | rfl | rfl
    · exact Wide.str (hc _ h1).1
    · exact (nmD_wide hs hnl).mono (Nat.le_refl _) (by omega)
    · exact (Sm.wide hL hs hc b h3).mono (Nat.le_refl _) (by omega)
  | lp f ns k t =>
    obtain ⟨h1, h2, h3, h4⟩ := h
    obtain ⟨⟨j, hj, rfl⟩, ⟨i, hi, hk⟩, hkd, ht1, ht2⟩ := hg
    have hs : ∀ x ∈ n4.take j, Sok x := fun x hx => sok_n4 x (List.mem_of_mem_take hx)
    have hnl : (n4.take j).length ≤ L := by rw [n4_len (by omega)]; omega
    have hks : ∀ x ∈ k.map (·.1), Sok x := by
      rw [hk]
      exact fun x hx => sok_kacc x (List.mem_of_mem_take hx)
    have hkl : k.length ≤ 2 := by
      have := congrArg List.length hk
      simp at this
      omega
    have hs2 : ∀ x ∈ n4.take j ++ k.map (·.1), Sok x := fun x hx => by
      rcases List.mem_append.mp hx with hx | hx
      · exact hs x hx
      · exact hks x hx
    refine Wide.mk (n := 10) (by simp; omega) fun d hd' => ?_
    simp at hd'
    rcases hd' with rfl | rfl | rfl | rfl
    · exact Wide.str (hc _ h1).1
    · exact (nmD_wide hs hnl).mono (Nat.le_refl _) (by omega)
    · refine (Wide.mk (n := 5) (by simp; omega) fun d hd => ?_).mono (Nat.le_refl _) (by omega)
      obtain ⟨p, hp, rfl⟩ := List.mem_map.mp hd
      refine Wide.mk (n := 4) (by simp; omega) fun d hd => ?_
      simp at hd
      rcases hd with rfl | rfl
      · exact Wide.str (hks _ (List.mem_map.mpr ⟨p, hp, rfl⟩))
      · have := hkd p hp
        exact (Sm.wide hL hs hc p.2 (h3 p hp)).mono (Nat.le_refl _) (by omega)
    · exact (Tr.wide hL hs2 (by rw [List.length_append, n4_len (by omega), List.length_map]; omega) hc t h4).mono (Nat.le_refl _) (by omega)
theorem Bk.cs {d : Nat} {b : List Mk} (h : Bk d b) : ∀ c ∈ (b.map fun m => (m.name, m.names.length)), Sok c.1 ∧ c.2 ≤ 10 := by
  intro c hc
  obtain ⟨m, hm, rfl⟩ := List.mem_map.mp hc
  have hn : m.name ∈ b.map Mk.name := List.mem_map.mpr ⟨m, hm, rfl⟩
  rw [h.names] at hn
  refine ⟨sok_m4 _ (List.mem_of_mem_take hn), ?_⟩
  have hg := h.gen m hm
  cases m with
  | fn f ns b =>
    obtain ⟨⟨j, hj, rfl⟩, _⟩ := hg
    show (n4.take j).length ≤ 10
    rw [n4_len (by omega)]; omega
  | lp f ns k t =>
    obtain ⟨⟨j, hj, rfl⟩, _⟩ := hg
    show (n4.take j).length ≤ 10
    rw [n4_len (by omega)]; omega
theorem Bk.wide {b : List Mk} {L : Nat} (hL : 10 ≤ L) (h : Bk 4 b) : Wide L 12 (bkD b) :=
  Wide.mk (by rw [List.length_map]; have := h.len; omega) fun d hd => by
    obtain ⟨m, hm, rfl⟩ := List.mem_map.mp hd
    exact Mk.wide hL h.cs (h.wf m hm) (h.gen m hm)
end CP

end
section
set_option maxHeartbeats 1000000
/-! callturn proofs, plain part: sums with other parts, sums for names, new names -/
namespace CP
open PySem CT
/-- sums for names -/
abbrev Sub := List (Str × Sm)
mutual
def Sm.put (σ : Sub) : Sm → Sm
  | .num i => .num i
  | .nam x => (σ.lookup x).getD (.nam x)
  | .half a => .half (a.put σ)
  | .two w a b => .two w (a.put σ) (b.put σ)
  | .ite t a b => .ite (t.put σ) (a.put σ) (b.put σ)
  | .call f as => .call f (puts σ as)
def puts (σ : Sub) : List Sm → List Sm
  | [] => []
  | a :: r => a.put σ :: puts σ r
end
theorem puts_map (σ : Sub) : ∀ as : List Sm, puts σ as = as.map (Sm.put σ)
  | [] => rfl
  | a :: r => by rw [puts, puts_map σ r]; rfl
end CP

end
section
set_option maxHeartbeats 1000000
/-! callturn proofs, plain part: how long texts are, new names -/
namespace CP
open PySem CT
end CP

end
section
set_option maxHeartbeats 1000000
/-! callturn proofs, plain part: spans (k16) -/
namespace CP
open PySem CT
end CP

end
section
set_option maxHeartbeats 1000000
/-! callturn proofs, plain part: drawn makers whose calls come last (k10, k07) -/
namespace CP
open PySem CT
theorem Sm.Wf.mono {nm : List Str} {cs cs' : List (Str × Nat)} (h : ∀ c ∈ cs, c ∈ cs') : ∀ {s : Sm}, s.Wf nm cs → s.Wf nm cs' := by
  intro s
  induction s using Sm.ind with
  | num i => intro hs; exact hs
  | nam x => intro hs; exact hs
  | half a ha => intro hs; exact ha hs
  | two w a b ha hb => intro hs; exact ⟨ha hs.1, hb hs.2⟩
  | ite t a b ht ha hb => intro hs; exact ⟨ht hs.1, ha hs.2.1, hb hs.2.2⟩
  | call f as ih => intro hs; exact ⟨h _ hs.1, Wfs_iff.mpr fun a ha => ih a ha (Wfs_iff.mp hs.2 a ha)⟩
def nm2 : List Str := ["n", "m"]
def btl : Nat → Nat
  | 0 => 10 + 10 * bs 2
  | d + 1 => 10 + 10 * bs 2 + 2 * btl d
theorem bs12 : bs 1 ≤ bs 2 := by decide
theorem tail_ok (ns : List Int) (ring cs : List (Str × Nat)) {S : Sto} {t : Nat} (ht : t < S.length) (hr0 : ring ≠ []) (hr : ∀ c ∈ ring, c.2 ≤ 4) (hc : ∀ c ∈ cs, c.2 ≤ 4) : ∀ deep n k : Nat, deep + 8 ≤ n → k + btl deep ≤ 16777216 →
    ∃ (s : Sm) (k' : Nat), (cal prg 4000 n).fn 91 [.scr ns, .loc t, .tup [.str "n", .str "m"], csD ring, csD cs, .int deep] (tw S t k) = .ok s.toD (tw S t k') ∧ k ≤ k' ∧ k' ≤ k + btl deep ∧ s.Wf nm2 (ring ++ cs) ∧ s.dep ≤ deep + 2 := by
  have hsum : ∀ d n k, d + 4 ≤ n → k + bs d ≤ 16777216 → ∃ (s : Sm) (k' : Nat), (cal prg 4000 n).fn 13 [.scr ns, .loc t, .tup [.str "n", .str "m"], csD cs, .int d] (tw S t k) = .ok s.toD (tw S t k') ∧ k ≤ k' ∧ k' ≤ k + bs d ∧ s.Wf nm2 cs ∧ s.dep ≤ d := fun d n k h1 h2 => sum_ok ns nm2 cs ht (by decide) hc d n k h1 h2
  have hcs : ∀ c ∈ cs, c ∈ ring ++ cs := fun c h => List.mem_append_right _ h
  have hb := bs12
  intro deep
  induction deep with
  | zero =>
    intro n k hn hk
    obtain ⟨n, rfl⟩ : ∃ m, n = m + 8 := ⟨n - 8, by omega⟩
    simp only [btl] at hk
    obtain ⟨j, j0, j1, e1⟩ := draw_ok (n + 6) ns (k := k) (m := 8) ht (by omega) (by decide)
    obtain ⟨s, k1, e2, l1, l2, ws, ds⟩ := hsum 2 (n + 7) (k + 1) (by omega) (by omega)
    have e2' : (cal prg 4000 (n + 7)).fn 13 [.scr ns, .loc t, .tup [.str "n", .str "m"], csD cs, .int 2] (tw S t (k + 1)) = _ := e2
    refine ⟨s, k1, ?_, by omega, by simp only [btl]; omega, ws.mono hcs, by omega⟩
    rw [E_law_tail]
    simp_all! [f_law_tail, e1, e2']
  | succ d ih =>
    intro n k hn hk
    obtain ⟨n, rfl⟩ : ∃ m, n = m + 9 := ⟨n - 9, by omega⟩
    simp only [btl] at hk
    have z1 : ((d + 1 : Nat) : Int) - 1 = (d : Int) := by omega
    have z2 : decide (((d + 1 : Nat) : Int) = 0) = false := by simp; omega
    obtain ⟨j, j0, j1, e1⟩ := draw_ok (n + 7) ns (k := k) (m := 8) ht (by omega) (by decide)
    by_cases c1 : j < 2
    · obtain ⟨s, k1, e2, l1, l2, ws, ds⟩ := hsum 2 (n + 8) (k + 1) (by omega) (by omega)
      have e2' : (cal prg 4000 (n + 8)).fn 13 [.scr ns, .loc t, .tup [.str "n", .str "m"], csD cs, .int 2] (tw S t (k + 1)) = _ := e2
      refine ⟨s, k1, ?_, by omega, by simp only [btl]; omega, ws.mono hcs, by omega⟩
      rw [E_law_tail]
      simp_all! [f_law_tail, e1, e2', z2, c1]
    by_cases c2 : j < 4
    · obtain ⟨p, hp, e2⟩ := pick_ok (n + 6) ns (k := k + 1) (ring.map fun c => .tup [.str c.1, .int (c.2 : Nat)]) ht (by omega) (by simpa using hr0)
      obtain ⟨⟨f, m⟩, hm, rfl⟩ := List.mem_map.mp hp
      have hm4 := hr _ hm
      simp only at hm4
      have e2' : (cal prg 4000 (n + 8)).fn 11 [.scr ns, .loc t, csD ring] (tw S t (k + 1)) = .ok (.tup [.str f, .int (m : Nat)]) (tw S t (k + 2)) := e2
      have leaf : ∀ (x : Str) (k : Nat), x ∈ nm2 → k + 1 ≤ 16777216 → ∃ s : Sm, (cal prg 4000 (n + 8)).fn 11 [.scr ns, .loc t, .lst [.tup [.str "less", .str x, .int 1], .str x, .tup [.str "half", .str x]]] (tw S t k) = .ok s.toD (tw S t (k + 1)) ∧ s.Wf nm2 (ring ++ cs) ∧ s.dep ≤ 1 := by
        intro x k hx hk
        obtain ⟨d, hd, e⟩ := pick_ok (n + 6) ns (k := k) [.tup [.str "less", .str x, .int 1], .str x, .tup [.str "half", .str x]] ht hk (by simp)
        simp only [List.mem_cons, List.not_mem_nil, or_false] at hd
        rcases hd with rfl | rfl | rfl
        · exact ⟨.two .less (.nam x) (.num 1), e, ⟨hx, by simp [Sm.Wf]⟩, by simp [Sm.dep]⟩
        · exact ⟨.nam x, e, hx, by simp [Sm.dep]⟩
        · exact ⟨.half (.nam x), e, hx, by simp [Sm.dep]⟩
      obtain ⟨a, e3, wa, da⟩ := leaf "n" (k + 2) (by decide +kernel) (by omega)
      obtain ⟨b, e4, wb, db⟩ := leaf "m" (k + 3) (by decide +kernel) (by omega)
      obtain ⟨xs, k1, g1, g2, g3, g4, g5⟩ := compRow_gen (S := S) (t := t) (Q := fun x => ∃ s : Sm, x = s.toD ∧ s.Wf nm2 (ring ++ cs) ∧ s.dep ≤ 1) (b := bs 1) (M := 16777216) (ds := (List.range m).map fun (i : Nat) => D.int i)
        (f := fun _ S => ((cal prg 4000 (n + 8)).fn 13 [.scr ns, .loc t, .tup [.str "n", .str "m"], csD cs, .int 1] S).bind fun x S => .ok [x] S) (by
          intro x _ k hk
          obtain ⟨s, k', e, l, l', ws, ds⟩ := hsum 1 (n + 8) k (by omega) hk
          have e' : (cal prg 4000 (n + 8)).fn 13 [.scr ns, .loc t, .tup [.str "n", .str "m"], csD cs, .int 1] (tw S t k) = _ := e
          exact ⟨s.toD, k', by simp only [e', rr_ok], l, l', s, rfl, ws.mono hcs, ds⟩) (k + 4) (by
          simp only [List.length_map, List.length_range]
          have : m * bs 1 ≤ 4 * bs 1 := Nat.mul_le_mul_right _ hm4
          omega)
      simp only [List.length_map, List.length_range] at g2 g4
      have hmb : m * bs 1 ≤ 4 * bs 1 := Nat.mul_le_mul_right _ hm4
      obtain ⟨as, rfl, ha⟩ := all_toD g5
      rw [List.length_map] at g2
      have hcut : cut (a.toD :: b.toD :: as.map Sm.toD) none (some (m : Int)) = ((a :: b :: as).take m).map Sm.toD := by
        rw [cut_take, List.map_take]; rfl
      have hlen : ((a :: b :: as).take m).length = m := by simp; omega
      have hall : ∀ p ∈ (a :: b :: as).take m, p.Wf nm2 (ring ++ cs) ∧ p.dep ≤ 1 := fun p hp => by
        have hp := List.mem_of_mem_take hp
        rcases List.mem_cons.mp hp with rfl | hp
        · exact ⟨wa, da⟩
        · rcases List.mem_cons.mp hp with rfl | hp
          · exact ⟨wb, db⟩
          · exact ha p hp
      refine ⟨.call f ((a :: b :: as).take m), k1, ?_, by omega, by simp only [btl]; omega, ⟨by rw [hlen]; exact List.mem_append_left _ hm, Wfs_iff.mpr fun p hp => (hall p hp).1⟩, by
        simp only [Sm.dep]
        have := deps_le.mpr fun p hp => (hall p hp).2
        omega⟩
      rw [E_law_tail]
      simp_all! [f_law_tail, e1, e2', e3, e4, z1, z2, c1, c2, g1, hcut]
      simp only [Sm.toD, toDs_map]
    · obtain ⟨p, hp, e2⟩ := pick_ok (n + 6) ns (k := k + 1) [.str "n", .str "m", .tup [.str "under", .int 1, .str "n"], .tup [.str "under", .str "n", .int 3], .tup [.str "same", .str "m", .int 0]] ht (by omega) (by simp)
      obtain ⟨t0, rfl, wt, dt⟩ : ∃ t0 : Sm, p = t0.toD ∧ t0.Wf nm2 (ring ++ cs) ∧ t0.dep ≤ 1 := by
        have hn : (("n" : Str)) ∈ nm2 := by decide +kernel
        have hmm : (("m" : Str)) ∈ nm2 := by decide +kernel
        simp only [List.mem_cons, List.not_mem_nil, or_false] at hp
        rcases hp with rfl | rfl | rfl | rfl | rfl
        · exact ⟨.nam "n", rfl, hn, by simp [Sm.dep]⟩
        · exact ⟨.nam "m", rfl, hmm, by simp [Sm.dep]⟩
        · exact ⟨.two .under (.num 1) (.nam "n"), rfl, ⟨by simp [Sm.Wf], hn⟩, by simp [Sm.dep]⟩
        · exact ⟨.two .under (.nam "n") (.num 3), rfl, ⟨hn, by simp [Sm.Wf]⟩, by simp [Sm.dep]⟩
        · exact ⟨.two .same (.nam "m") (.num 0), rfl, ⟨hmm, by simp [Sm.Wf]⟩, by simp [Sm.dep]⟩
      obtain ⟨a, k1, e3, l1, l2, wa, da⟩ := ih (n + 8) (k + 2) (by omega) (by omega)
      obtain ⟨b, k2, e4, l3, l4, wb, db⟩ := ih (n + 8) k1 (by omega) (by omega)
      refine ⟨.ite t0 a b, k2, ?_, by omega, by simp only [btl]; omega, ⟨wt, wa, wb⟩, by simp only [Sm.dep]; omega⟩
      rw [E_law_tail]
      simp_all! [f_law_tail, e1, e2, e3, e4, z1, z2, c1, c2, List.getLast?_cons_cons, List.getLast?_singleton]
      rfl
end CP

end
section
set_option maxHeartbeats 1000000
/-! callturn proofs, plain part: law k10 -/
namespace CP
open PySem CT
mutual
def nol : D → Bool
  | .lst _ => false
  | .tup ds => nols ds
  | _ => true
def nols : List D → Bool
  | [] => true
  | d :: r => nol d && nols r
end
theorem nols_iff : ∀ {ds : List D}, nols ds = true ↔ ∀ d ∈ ds, nol d = true
  | [] => by simp [nols]
  | d :: r => by simp only [nols, Bool.and_eq_true, List.mem_cons, forall_eq_or_imp, nols_iff (ds := r)]
theorem Wide.pt {L : Nat} (hL : L ≤ 16777216) : ∀ {n : Nat} {d : D}, Wide L n d → nol d = true → Pt n d
  | _, .non, _, _ => by unfold Pt; trivial
  | _, .bl _, _, _ => by unfold Pt; trivial
  | _, .int _, _, _ => by unfold Pt; trivial
  | _, .str s, _, _ => by unfold Pt; trivial
  | n + 1, .tup ds, h, q => by
    unfold Pt; unfold Wide at h
    simp only [nol] at q
    exact ⟨by omega, fun d hd => (h.2 d hd).pt hL (nols_iff.mp q d hd)⟩
  | _, .lst ds, _, q => by simp [nol] at q
  | 0, .tup ds, h, _ => by unfold Wide at h; exact h.elim
  | _, .dct _ _, h, _ => by unfold Wide at h; exact h.elim
  | _, .loc _, h, _ => by unfold Wide at h; exact h.elim
  | _, .scr _, h, _ => by unfold Wide at h; exact h.elim
theorem Sm.nol : ∀ s : Sm, CP.nol s.toD = true := by
  intro s
  induction s using Sm.ind with
  | num i => rfl
  | nam x => rfl
  | half a ha => simp [Sm.toD, CP.nol, nols, ha]
  | two w a b ha hb => simp [Sm.toD, CP.nol, nols, ha, hb]
  | ite t a b ht ha hb => simp [Sm.toD, CP.nol, nols, ht, ha, hb]
  | call f as ih =>
    have : nols (toDs as) = true := by
      rw [nols_iff, toDs_map]
      intro d hd
      obtain ⟨a, ha, rfl⟩ := List.mem_map.mp hd
      exact ih a ha
    simp [Sm.toD, CP.nol, nols, this]
theorem Tr.nol : ∀ t : Tr, CP.nol t.toD = true
  | .tell s => by simp [Tr.toD, CP.nol, nols, s.nol]
  | .again ss => by
    have : nols (ss.map Sm.toD) = true := by
      rw [nols_iff]
      intro d hd
      obtain ⟨a, ha, rfl⟩ := List.mem_map.mp hd
      exact a.nol
    simp [Tr.toD, CP.nol, nols, this]
  | .ite t a b => by simp [Tr.toD, CP.nol, nols, t.nol, a.nol, b.nol]
theorem nmD_nol (ns : List Str) : nol (nmD ns) = true := by
  simp only [nmD, nol]
  rw [nols_iff]
  intro d hd
  obtain ⟨a, ha, rfl⟩ := List.mem_map.mp hd
  rfl
theorem Mk.nol (m : Mk) : CP.nol m.toD = true := by
  cases m with
  | fn f ns s => simp [Mk.toD, CP.nol, nols, nmD_nol, s.nol]
  | lp f ns k t =>
    have : nols (k.map ktD) = true := by
      rw [nols_iff]
      intro d hd
      obtain ⟨a, ha, rfl⟩ := List.mem_map.mp hd
      simp [ktD, CP.nol, nols, a.2.nol]
    simp [Mk.toD, CP.nol, nols, nmD_nol, this, t.nol]
theorem Sm.size_le {nm : List Str} {cs : List (Str × Nat)} (hc : ∀ c ∈ cs, c.2 ≤ 4) : ∀ s : Sm, s.Wf nm cs → s.size ≤ 5 ^ s.dep := by
  have p5 : ∀ n : Nat, 1 ≤ 5 ^ n := fun n => Nat.succ_le_of_lt (Nat.pow_pos (by decide))
  have up : ∀ {a b : Nat}, a ≤ b → 5 ^ a ≤ 5 ^ b := fun h => Nat.pow_le_pow_right (by decide) h
  intro s
  induction s using Sm.ind with
  | num i => intro _; simp [Sm.size, Sm.dep]
  | nam x => intro _; simp [Sm.size, Sm.dep]
  | half a ha =>
    intro h
    have := ha h
    have := p5 a.dep
    simp only [Sm.size, Sm.dep, Nat.pow_succ]; omega
  | two w a b ha hb =>
    intro h
    have h1 := ha h.1
    have h2 := hb h.2
    have h3 : 5 ^ a.dep ≤ 5 ^ (max a.dep b.dep) := up (by omega)
    have h4 : 5 ^ b.dep ≤ 5 ^ (max a.dep b.dep) := up (by omega)
    have := p5 (max a.dep b.dep)
    simp only [Sm.size, Sm.dep, Nat.pow_succ]; omega
  | ite t a b ht ha hb =>
    intro h
    have h0 := ht h.1
    have h1 := ha h.2.1
    have h2 := hb h.2.2
    have h5 : 5 ^ t.dep ≤ 5 ^ (max t.dep (max a.dep b.dep)) := up (by omega)
    have h3 : 5 ^ a.dep ≤ 5 ^ (max t.dep (max a.dep b.dep)) := up (by omega)
    have h4 : 5 ^ b.dep ≤ 5 ^ (max t.dep (max a.dep b.dep)) := up (by omega)
    have := p5 (max t.dep (max a.dep b.dep))
    simp only [Sm.size, Sm.dep, Nat.pow_succ]; omega
  | call f as ih =>
    intro h
    have hl : as.length ≤ 4 := hc _ h.1
    have key : ∀ (l : List Sm) (M : Nat), (∀ a ∈ l, a.size ≤ M) → sizes l ≤ l.length * M := by
      intro l M
      induction l with
      | nil => intro _; simp [sizes]
      | cons a r ih2 =>
        intro h
        have h1 := h a (by simp)
        have h2 := ih2 fun p hp => h p (by simp [hp])
        rw [sizes, List.length_cons, Nat.add_mul]; omega
    have h1 := key as (5 ^ deps as) fun a ha => Nat.le_trans (ih a ha (Wfs_iff.mp h.2 a ha)) (up (deps_le.mp (Nat.le_refl _) a ha))
    have h2 : as.length * 5 ^ deps as ≤ 4 * 5 ^ deps as := Nat.mul_le_mul_right _ hl
    have := p5 (deps as)
    simp only [Sm.size, Sm.dep, Nat.pow_succ]; omega
/-- a book as these laws draw them -/
structure Lb (b : List Mk) : Prop where
  len : b.length ≤ 4
  nd : (b.map Mk.name).Nodup
  ok : ∀ f ns s, Mk.fn f ns s ∈ b → s.dep ≤ 6 ∧ s.size ≤ 16000
  pt : ∀ m ∈ b, Pt 20 m.toD
theorem Bk.lb {b : List Mk} (h : Bk 4 b) : Lb b where
  len := h.len
  nd := by rw [h.names]; exact nodup_m4 _
  ok := fun f ns s hm => by
    have hg := h.gen _ hm
    have hw := h.wf _ hm
    have hd : s.dep ≤ 4 := hg.2
    have := Sm.size_le (fun c hc => by
      obtain ⟨m, hm, rfl⟩ := List.mem_map.mp hc
      have hg := h.gen m hm
      cases m with
      | fn f ns b =>
        obtain ⟨⟨j, hj, rfl⟩, _⟩ := hg
        show (n4.take j).length ≤ 4
        rw [n4_len (by omega)]; omega
      | lp f ns k t =>
        obtain ⟨⟨j, hj, rfl⟩, _⟩ := hg
        show (n4.take j).length ≤ 4
        rw [n4_len (by omega)]; omega) s hw.2.2
    have h5 : 5 ^ s.dep ≤ 5 ^ 4 := Nat.pow_le_pow_right (by decide) hd
    exact ⟨by omega, by omega⟩
  pt := fun m hm => ((Mk.wide (L := 10) (Nat.le_refl _) h.cs (h.wf m hm) (h.gen m hm)).pt (by decide) m.nol).mono (by decide)
end CP

end
section
set_option maxHeartbeats 1000000
/-! callturn proofs, plain part: law k10 -/
namespace CP
open PySem CT
theorem Sm.pt : ∀ s : Sm, s.size ≤ 16777216 → Pt (2 * s.dep) s.toD := by
  intro s
  induction s using Sm.indP with
  | h s ih =>
    intro hs
    have hp : ∀ p ∈ s.parts, Pt (2 * p.dep) p.toD := fun p hp => ih p hp (by have := Sm.size_part hp; omega)
    have hl := s.parts_len
    cases s with
    | num i => unfold Sm.toD Pt; trivial
    | nam x => unfold Sm.toD Pt; trivial
    | half a =>
      simp only [Sm.toD, Sm.dep]
      refine Pt.mk (n := 2 * a.dep + 1) (by simp) fun d hd => ?_
      simp at hd
      rcases hd with rfl | rfl
      · unfold Pt; trivial
      · exact (hp a (by simp [Sm.parts])).mono (by omega)
    | two w a b =>
      simp only [Sm.toD, Sm.dep]
      refine Pt.mk (n := 2 * max a.dep b.dep + 1) (by simp) fun d hd => ?_
      simp at hd
      rcases hd with rfl | rfl | rfl
      · unfold Pt; trivial
      · exact (hp a (by simp [Sm.parts])).mono (by omega)
      · exact (hp b (by simp [Sm.parts])).mono (by omega)
    | ite t a b =>
      simp only [Sm.toD, Sm.dep]
      refine Pt.mk (n := 2 * max t.dep (max a.dep b.dep) + 1) (by simp) fun d hd => ?_
      simp at hd
      rcases hd with rfl | rfl | rfl | rfl
      · unfold Pt; trivial
      · exact (hp t (by simp [Sm.parts])).mono (by omega)
      · exact (hp a (by simp [Sm.parts])).mono (by omega)
      · exact (hp b (by simp [Sm.parts])).mono (by omega)
    | call f as =>
      simp only [Sm.toD, Sm.dep, toDs_map]
      refine Pt.mk (n := 2 * deps as + 1) (by simp) fun d hd => ?_
      simp at hd
      rcases hd with rfl | rfl | rfl
      · unfold Pt; trivial
      · unfold Pt; trivial
      · refine Pt.mk (by rw [List.length_map]; simp only [Sm.parts] at hl; omega) fun d hd => ?_
        obtain ⟨a, ha, rfl⟩ := List.mem_map.mp hd
        exact (hp a ha).mono (by have := deps_le.mp (Nat.le_refl _) a ha; omega)
theorem mk_front (m : Mk) : ∃ r, m.toD = .tup (.str m.name :: r) := by cases m <;> exact ⟨_, rfl⟩
end CP

end
section
set_option maxHeartbeats 1000000
/-! callturn proofs, plain part: spans (k16) -/
namespace CP
open PySem CT
end CP

end
section
set_option maxHeartbeats 1000000
/-! callturn proofs, plain part: texts put together are texts -/
namespace CP
open PySem CT
end CP

end
section
set_option maxHeartbeats 1000000
/-! callturn proofs, plain part: how long, wide and deep things are, told by sums, trees, makers -/
namespace CP
open PySem CT
def Sk (M : Nat) (s : Str) : Prop := s.length ≤ M ∧ s.cps.all (· < 1114112) = true
theorem Sk.mono {M M' : Nat} {s : Str} (h : Sk M s) (hM : M ≤ M') : Sk M' s := ⟨by have := h.1; omega, h.2⟩
def skB (M : Nat) (s : Str) : Bool := decide (s.length ≤ M) && s.cps.all (· < 1114112)
theorem sk_of {M : Nat} {s : Str} (h : skB M s = true) : Sk M s := by
  simp only [skB, Bool.and_eq_true, decide_eq_true_eq] at h; exact h
theorem sk_all {M : Nat} {l : List Str} (h : l.all (skB M) = true) : ∀ x ∈ l, Sk M x := fun x hx => sk_of (List.all_eq_true.mp h x hx)
/-- tuples of plain things: no longer than L, no deeper than n, texts of this kind -/
def Wp (P : Str → Prop) (L : Nat) : Nat → D → Prop
  | _, .non => True
  | _, .bl _ => True
  | _, .int _ => True
  | _, .str s => P s
  | n + 1, .tup ds => ds.length ≤ L ∧ ∀ d ∈ ds, Wp P L n d
  | _, _ => False
theorem Wp.mk {P : Str → Prop} {L n : Nat} {ds : List D} (h : ds.length ≤ L) (h2 : ∀ d ∈ ds, Wp P L n d) : Wp P L (n + 1) (.tup ds) := by unfold Wp; exact ⟨h, h2⟩
theorem Wp.str {P : Str → Prop} {L n : Nat} {s : Str} (h : P s) : Wp P L n (.str s) := by unfold Wp; exact h
theorem Wp.int {P : Str → Prop} {L n : Nat} (i : Int) : Wp P L n (.int i) := by unfold Wp; trivial
theorem Wp.mono {P Q : Str → Prop} (hP : ∀ s, P s → Q s) {L M : Nat} (hL : L ≤ M) : ∀ {n m : Nat} {d : D}, n ≤ m → Wp P L n d → Wp Q M m d
  | _, _, .non, _, _ => by unfold Wp; trivial
  | _, _, .bl _, _, _ => by unfold Wp; trivial
  | _, _, .int _, _, _ => by unfold Wp; trivial
  | _, _, .str s, _, h => by unfold Wp at *; exact hP s h
  | n + 1, m + 1, .tup ds, hl, h => by unfold Wp at *; exact ⟨by omega, fun d hd => (h.2 d hd).mono hP hL (by omega)⟩
  | 0, _, .tup ds, _, h => by unfold Wp at h; exact h.elim
  | _ + 1, 0, .tup _, hl, _ => by omega
  | _, _, .lst _, _, h => by unfold Wp at h; exact h.elim
  | _, _, .dct _ _, _, h => by unfold Wp at h; exact h.elim
  | _, _, .loc _, _, h => by unfold Wp at h; exact h.elim
  | _, _, .scr _, _, h => by unfold Wp at h; exact h.elim
theorem Wp.pt {P : Str → Prop} {L : Nat} (hL : L ≤ 16777216) : ∀ {n : Nat} {d : D}, Wp P L n d → Pt n d
  | _, .non, _ => by unfold Pt; trivial
  | _, .bl _, _ => by unfold Pt; trivial
  | _, .int _, _ => by unfold Pt; trivial
  | _, .str s, h => by unfold Pt; trivial
  | n + 1, .tup ds, h => by unfold Pt; unfold Wp at h; exact ⟨by omega, fun d hd => (h.2 d hd).pt hL⟩
  | 0, .tup ds, h => by unfold Wp at h; exact h.elim
  | _, .lst _, h => by unfold Wp at h; exact h.elim
  | _, .dct _ _, h => by unfold Wp at h; exact h.elim
  | _, .loc _, h => by unfold Wp at h; exact h.elim
  | _, .scr _, h => by unfold Wp at h; exact h.elim
mutual
/-- names no longer than M, calls no wider than L -/
def Sm.Ok (M L : Nat) : Sm → Prop
  | .num _ => True
  | .nam x => Sk M x
  | .half a => a.Ok M L
  | .two _ a b => a.Ok M L ∧ b.Ok M L
  | .ite t a b => t.Ok M L ∧ a.Ok M L ∧ b.Ok M L
  | .call f as => Sk M f ∧ as.length ≤ L ∧ Oks M L as
def Oks (M L : Nat) : List Sm → Prop
  | [] => True
  | a :: r => a.Ok M L ∧ Oks M L r
end
theorem Oks_iff {M L : Nat} : ∀ {as : List Sm}, Oks M L as ↔ ∀ a ∈ as, a.Ok M L
  | [] => by simp [Oks]
  | a :: r => by simp only [Oks, List.mem_cons, forall_eq_or_imp, Oks_iff (as := r)]
theorem Sm.Wf.ok {nm : List Str} {cs : List (Str × Nat)} {M L : Nat} (hn : ∀ x ∈ nm, Sk M x) (hc : ∀ c ∈ cs, Sk M c.1 ∧ c.2 ≤ L) : ∀ {s : Sm}, s.Wf nm cs → s.Ok M L := by
  intro s
  induction s using Sm.ind with
  | num i => intro _; trivial
  | nam x => intro h; exact hn x h
  | half a ih => intro h; exact ih h
  | two w a b iha ihb => intro h; exact ⟨iha h.1, ihb h.2⟩
  | ite t a b iht iha ihb => intro h; exact ⟨iht h.1, iha h.2.1, ihb h.2.2⟩
  | call f as ih =>
    intro h
    have hw := Wfs_iff.mp h.2
    exact ⟨(hc _ h.1).1, (hc _ h.1).2, Oks_iff.mpr fun a ha => ih a ha (hw a ha)⟩
theorem sk_words : ∀ x ∈ (["half", "if", "call", "tell", "again"] : List Str), Sk 5 x := sk_all (by decide +kernel)
theorem Wd.sk (w : Wd) : Sk 5 w.str := by cases w <;> exact sk_of (by decide +kernel)
theorem Sm.Ok.wp {M L : Nat} (hM : 5 ≤ M) (hL : 10 ≤ L) : ∀ {s : Sm}, s.Ok M L → Wp (Sk M) L (2 * s.dep) s.toD := by
  intro s
  have hw := sk_words
  induction s using Sm.ind with
  | num i => intro _; simp only [Sm.toD]; exact .int i
  | nam x => intro h; simp only [Sm.toD]; exact .str h
  | half a ih =>
    intro h
    simp only [Sm.toD, Sm.dep]
    refine (Wp.mk (n := 2 * a.dep) (by simp; omega) fun d hd => ?_).mono (fun _ q => q) (Nat.le_refl _) (by omega)
    simp at hd; rcases hd with rfl | rfl
    · exact .str ((hw _ (by simp)).mono hM)
    · exact ih h
  | two w a b iha ihb =>
    intro h
    simp only [Sm.toD, Sm.dep]
    refine (Wp.mk (n := 2 * max a.dep b.dep) (by simp; omega) fun d hd => ?_).mono (fun _ q => q) (Nat.le_refl _) (by omega)
    simp at hd; rcases hd with rfl | rfl | rfl
    · exact .str (w.sk.mono hM)
    · exact (iha h.1).mono (fun _ q => q) (Nat.le_refl _) (by omega)
    · exact (ihb h.2).mono (fun _ q => q) (Nat.le_refl _) (by omega)
  | ite t a b iht iha ihb =>
    intro h
    simp only [Sm.toD, Sm.dep]
    refine (Wp.mk (n := 2 * max t.dep (max a.dep b.dep)) (by simp; omega) fun d hd => ?_).mono (fun _ q => q) (Nat.le_refl _) (by omega)
    simp at hd; rcases hd with rfl | rfl | rfl | rfl
    · exact .str ((hw _ (by simp)).mono hM)
    · exact (iht h.1).mono (fun _ q => q) (Nat.le_refl _) (by omega)
    · exact (iha h.2.1).mono (fun _ q => q) (Nat.le_refl _) (by omega)
    · exact (ihb h.2.2).mono (fun _ q => q) (Nat.le_refl _) (by omega)
  | call f as ih =>
    intro h
    have hs := Oks_iff.mp h.2.2
    simp only [Sm.toD, Sm.dep, toDs_map]
    refine (Wp.mk (n := 2 * deps as + 1) (by simp; omega) fun d hd => ?_).mono (fun _ q => q) (Nat.le_refl _) (by omega)
    simp at hd; rcases hd with rfl | rfl | rfl
    · exact .str ((hw _ (by simp)).mono hM)
    · exact .str h.1
    · refine Wp.mk (by simpa using h.2.1) fun d hd => ?_
      obtain ⟨a, ha, rfl⟩ := List.mem_map.mp hd
      have := deps_le.mp (Nat.le_refl (deps as)) a ha
      exact (ih a ha (hs a ha)).mono (fun _ q => q) (Nat.le_refl _) (by omega)
def Tr.Ok (M L : Nat) : Tr → Prop
  | .tell s => s.Ok M L
  | .again ss => ss.length ≤ L ∧ ∀ s ∈ ss, s.Ok M L
  | .ite t a b => t.Ok M L ∧ a.Ok M L ∧ b.Ok M L
theorem Tr.Wf.ok {nm : List Str} {cs : List (Str × Nat)} {M L : Nat} (hn : ∀ x ∈ nm, Sk M x) (hl : nm.length ≤ L) (hc : ∀ c ∈ cs, Sk M c.1 ∧ c.2 ≤ L) : ∀ {t : Tr}, t.Wf nm cs → t.Ok M L
  | .tell s, h => Sm.Wf.ok hn hc h
  | .again ss, h => ⟨by rw [h.1]; exact hl, fun s hs => Sm.Wf.ok hn hc (Wfs_iff.mp h.2 s hs)⟩
  | .ite t a b, h => ⟨Sm.Wf.ok hn hc h.1, Tr.Wf.ok hn hl hc h.2.1, Tr.Wf.ok hn hl hc h.2.2⟩
theorem Tr.Ok.wp {M L : Nat} (hM : 5 ≤ M) (hL : 10 ≤ L) : ∀ {t : Tr}, t.Ok M L → Wp (Sk M) L (t.dep + 1 + 2 * t.sdep) t.toD
  | .tell s, h => by
    have hw := sk_words
    simp only [Tr.toD, Tr.dep, Tr.sdep]
    refine (Wp.mk (n := 2 * s.dep) (by simp; omega) fun d hd => ?_).mono (fun _ q => q) (Nat.le_refl _) (by omega)
    simp at hd; rcases hd with rfl | rfl
    · exact .str ((hw _ (by simp)).mono hM)
    · exact Sm.Ok.wp hM hL h
  | .again ss, h => by
    have hw := sk_words
    simp only [Tr.toD, Tr.dep, Tr.sdep]
    refine (Wp.mk (n := 2 * deps ss + 1) (by simp; omega) fun d hd => ?_).mono (fun _ q => q) (Nat.le_refl _) (by omega)
    simp at hd; rcases hd with rfl | rfl
    · exact .str ((hw _ (by simp)).mono hM)
    · refine Wp.mk (by simpa using h.1) fun d hd => ?_
      obtain ⟨a, ha, rfl⟩ := List.mem_map.mp hd
      have := deps_le.mp (Nat.le_refl (deps ss)) a ha
      exact (Sm.Ok.wp hM hL (h.2 a ha)).mono (fun _ q => q) (Nat.le_refl _) (by omega)
  | .ite t a b, h => by
    have hw := sk_words
    have ha := Tr.Ok.wp hM hL h.2.1
    have hb := Tr.Ok.wp hM hL h.2.2
    simp only [Tr.toD, Tr.dep, Tr.sdep]
    refine (Wp.mk (n := max a.dep b.dep + 1 + 2 * max t.dep (max a.sdep b.sdep)) (by simp; omega) fun d hd => ?_).mono (fun _ q => q) (Nat.le_refl _) (by omega)
    simp at hd; rcases hd with rfl | rfl | rfl | rfl
    · exact .str ((hw _ (by simp)).mono hM)
    · exact (Sm.Ok.wp hM hL h.1).mono (fun _ q => q) (Nat.le_refl _) (by omega)
    · exact ha.mono (fun _ q => q) (Nat.le_refl _) (by omega)
    · exact hb.mono (fun _ q => q) (Nat.le_refl _) (by omega)
def Mk.Ok (M L : Nat) : Mk → Prop
  | .fn n ns b => Sk M n ∧ (ns.length ≤ L ∧ ∀ x ∈ ns, Sk M x) ∧ b.Ok M L
  | .lp n ns k t => Sk M n ∧ (ns.length ≤ L ∧ ∀ x ∈ ns, Sk M x) ∧ (k.length ≤ L ∧ ∀ p ∈ k, Sk M p.1 ∧ p.2.Ok M L) ∧ t.Ok M L
/-- how deep its sums are -/
def Mk.sdep : Mk → Nat
  | .fn _ _ b => b.dep
  | .lp _ _ k t => max (deps (k.map (·.2))) t.sdep
def Mk.tdep : Mk → Nat
  | .fn _ _ _ => 0
  | .lp _ _ _ t => t.dep
theorem nmD_wp {M L : Nat} {ns : List Str} (h : ∀ x ∈ ns, Sk M x) (hl : ns.length ≤ L) : Wp (Sk M) L 1 (nmD ns) :=
  Wp.mk (by simpa using hl) fun d hd => by
    obtain ⟨x, hx, rfl⟩ := List.mem_map.mp hd
    exact .str (h x hx)
theorem Mk.Ok.wp {M L : Nat} (hM : 5 ≤ M) (hL : 10 ≤ L) : ∀ {m : Mk}, m.Ok M L → Wp (Sk M) L (m.tdep + 3 + 2 * m.sdep) m.toD
  | .fn n ns b, h => by
    simp only [Mk.toD, Mk.tdep, Mk.sdep]
    refine (Wp.mk (n := 1 + 2 * b.dep) (by simp; omega) fun d hd => ?_).mono (fun _ q => q) (Nat.le_refl _) (by omega)
    simp at hd; rcases hd with rfl | rfl | rfl
    · exact .str h.1
    · exact (nmD_wp h.2.1.2 h.2.1.1).mono (fun _ q => q) (Nat.le_refl _) (by omega)
    · exact (Sm.Ok.wp hM hL h.2.2).mono (fun _ q => q) (Nat.le_refl _) (by omega)
  | .lp n ns k t, h => by
    simp only [Mk.toD, Mk.tdep, Mk.sdep]
    refine (Wp.mk (n := t.dep + 2 + 2 * max (deps (k.map (·.2))) t.sdep) (by simp; omega) fun d hd => ?_).mono (fun _ q => q) (Nat.le_refl _) (by omega)
    simp at hd; rcases hd with rfl | rfl | rfl | rfl
    · exact .str h.1
    · exact (nmD_wp h.2.1.2 h.2.1.1).mono (fun _ q => q) (Nat.le_refl _) (by omega)
    · refine (Wp.mk (n := 1 + 2 * deps (k.map (·.2))) (by simpa using h.2.2.1.1) fun d hd => ?_).mono (fun _ q => q) (Nat.le_refl _) (by omega)
      obtain ⟨p, hp, rfl⟩ := List.mem_map.mp hd
      have hd := deps_le.mp (Nat.le_refl (deps (k.map (·.2)))) p.2 (List.mem_map.mpr ⟨p, hp, rfl⟩)
      unfold ktD
      refine (Wp.mk (n := 2 * p.2.dep) (by simp; omega) fun d hd => ?_).mono (fun _ q => q) (Nat.le_refl _) (by omega)
      simp at hd; rcases hd with rfl | rfl
      · exact .str (h.2.2.1.2 p hp).1
      · exact Sm.Ok.wp hM hL (h.2.2.1.2 p hp).2
    · exact (Tr.Ok.wp hM hL h.2.2.2).mono (fun _ q => q) (Nat.le_refl _) (by omega)
/-- a book as laws draw and make them -/
structure Gb (M L dd te sz : Nat) (b : List Mk) : Prop where
  len : b.length ≤ L
  nd : (b.map Mk.name).Nodup
  ok : ∀ m ∈ b, m.Ok M L
  sd : ∀ m ∈ b, m.sdep ≤ dd
  td : ∀ m ∈ b, m.tdep ≤ te
  sz : ∀ f ns s, Mk.fn f ns s ∈ b → s.size ≤ sz
theorem Gb.wp {M L dd te sz : Nat} {b : List Mk} (hM : 5 ≤ M) (hL : 10 ≤ L) (h : Gb M L dd te sz b) : Wp (Sk M) L (te + 2 * dd + 4) (bkD b) :=
  Wp.mk (by simpa using h.len) fun d hd => by
    obtain ⟨m, hm, rfl⟩ := List.mem_map.mp hd
    have h1 := h.sd m hm
    have h2 := h.td m hm
    exact (Mk.Ok.wp hM hL (h.ok m hm)).mono (fun _ q => q) (Nat.le_refl _) (by omega)
theorem Gb.lb {M L dd te sz : Nat} {b : List Mk} (hM : 5 ≤ M) (hL : 10 ≤ L) (hL2 : L ≤ 1000) (h : Gb M L dd te sz b) (h4 : b.length ≤ 4) (hd : dd ≤ 6) (ht : te ≤ 4) (hz : sz ≤ 16000) : Lb b where
  len := h4
  nd := h.nd
  ok := fun f ns s hm => ⟨by have : s.dep ≤ dd := h.sd _ hm; omega, by have := h.sz _ _ _ hm; omega⟩
  pt := fun m hm => by
    have h1 := h.sd m hm
    have h2 := h.td m hm
    exact (((h.ok m hm).wp hM hL).pt (by omega)).mono (by omega)
theorem Mk.Wf.ok {cs : List (Str × Nat)} {M L : Nat} (hc : ∀ c ∈ cs, Sk M c.1 ∧ c.2 ≤ L) {m : Mk} (hn : m.names.length ≤ L ∧ ∀ x ∈ m.names, Sk M x) (hk : ∀ n ns k t, m = .lp n ns k t → k.length ≤ L ∧ (∀ p ∈ k, Sk M p.1) ∧ ns.length + k.length ≤ L) (h : m.Wf cs) : m.Ok M L := by
  cases m with
  | fn n ns b => exact ⟨(hc _ h.1).1, hn, Sm.Wf.ok hn.2 hc h.2.2⟩
  | lp n ns k t =>
    obtain ⟨k1, k2, k3⟩ := hk n ns k t rfl
    refine ⟨(hc _ h.1).1, hn, ⟨k1, fun p hp => ⟨k2 p hp, Sm.Wf.ok hn.2 hc (h.2.2.1 p hp)⟩⟩, Tr.Wf.ok (fun x hx => ?_) (by simpa using k3) hc h.2.2.2⟩
    rcases List.mem_append.mp hx with hx | hx
    · exact hn.2 x hx
    · obtain ⟨p, hp, rfl⟩ := List.mem_map.mp hx
      exact k2 p hp
/-! ### sums put in -/
theorem lookup_mem' {x : Str} {v : Sm} : ∀ {σ : Sub}, σ.lookup x = some v → ∃ p ∈ σ, p.2 = v
  | [], h => by simp at h
  | (y, w) :: r, h => by
    rw [List.lookup_cons] at h
    split at h
    · injection h with h; exact ⟨(y, w), by simp, h⟩
    · obtain ⟨p, hp, e⟩ := lookup_mem' h
      exact ⟨p, by simp [hp], e⟩
theorem Sm.Ok.put {M L : Nat} {σ : Sub} (hσ : ∀ p ∈ σ, p.2.Ok M L) : ∀ {s : Sm}, s.Ok M L → (s.put σ).Ok M L := by
  intro s
  induction s using Sm.ind with
  | num i => intro _; simp only [Sm.put]; trivial
  | nam x =>
    intro h
    simp only [Sm.put]
    cases e : σ.lookup x with
    | none => exact h
    | some v =>
      obtain ⟨p, hp, rfl⟩ := lookup_mem' e
      exact hσ p hp
  | half a ih => intro h; simp only [Sm.put]; exact ih h
  | two w a b iha ihb => intro h; simp only [Sm.put]; exact ⟨iha h.1, ihb h.2⟩
  | ite t a b iht iha ihb => intro h; simp only [Sm.put]; exact ⟨iht h.1, iha h.2.1, ihb h.2.2⟩
  | call f as ih =>
    intro h
    have hs := Oks_iff.mp h.2.2
    simp only [Sm.put, puts_map]
    refine ⟨h.1, by simpa using h.2.1, Oks_iff.mpr fun a ha => ?_⟩
    obtain ⟨c, hc, rfl⟩ := List.mem_map.mp ha
    exact ih c hc (hs c hc)
end CP

end
section
set_option maxHeartbeats 2000000
/-! callturn proofs, plain part: calls opened -/
namespace CP
open PySem CT
end CP

end
section
set_option maxHeartbeats 1000000
/-! callturn proofs, plain part: like things -/
namespace CP
open PySem CT
end CP

end
section
set_option maxHeartbeats 1000000
/-! callturn proofs, plain part: runs, told in plain Lean -/
namespace CP
open PySem CT
/-- what a run keeps: how many are left, calls, turns, how deep, the room, the trace -/
structure Rs where
  left : Int
  calls : Int
  turns : Int
  deep : Int
  room : Int
  tr : List (Int × Str × List Int)
inductive Ot (α : Type) where
  | ok (a : α) (s : Rs) | over (s : Rs) | bad
def Ot.bind {α β : Type} : Ot α → (α → Rs → Ot β) → Ot β
  | .ok a s, f => f a s
  | .over s, _ => .over s
  | .bad, _ => .bad
def Wd.run : Wd → Int → Int → Int
  | .plus, a, b => (a + b) % 10007
  | .times, a, b => a * b % 10007
  | .less, a, b => if 0 > a - b then 0 else a - b
  | .least, a, b => if b < a then b else a
  | .most, a, b => if b > a then b else a
  | .same, a, b => b2i (decide (a = b))
  | .under, a, b => b2i (decide (a < b))
abbrev Rho := List (Str × Int)
abbrev CallT := Str → List Int → Rs → Ot Int
def mkAt (b : List Mk) (f : Str) : Option Mk := b.find? fun m => m.name == f
/-! ### runs of books that are well formed come through -/
def In7 (i : Int) : Prop := 0 ≤ i ∧ i < 10007
/-- what a run leaves, from st on -/
def Fit {α : Type} (Q : α → Prop) (st : Rs) : Ot α → Prop
  | .ok a s => Q a ∧ 0 ≤ s.left ∧ s.left ≤ st.left ∧ s.deep = st.deep ∧ (s.tr.length : Int) + s.left ≤ st.tr.length + st.left
  | .over s => 0 ≤ s.left ∧ s.left ≤ st.left ∧ (s.tr.length : Int) + s.left ≤ st.tr.length + st.left
  | .bad => False
theorem Fit.bind {α β : Type} {Q : α → Prop} {R : β → Prop} {st : Rs} {r : Ot α} {f : α → Rs → Ot β} (h : Fit Q st r) (k : ∀ a s, Q a → 0 ≤ s.left → s.left ≤ st.left → s.deep = st.deep → Fit R s (f a s)) : Fit R st (r.bind f) := by
  cases r with
  | bad => exact h
  | over s => exact h
  | ok a s =>
    obtain ⟨h1, h2, h3, h4, h5⟩ := h
    have := k a s h1 h2 h3 h4
    show Fit R st (f a s)
    revert this
    cases f a s with
    | bad => exact fun q => q
    | over s' => intro ⟨q1, q2, q3⟩; exact ⟨q1, by omega, by omega⟩
    | ok b s' => intro ⟨q0, q1, q2, q3, q4⟩; exact ⟨q0, q1, by omega, by omega, by omega⟩
/-- what a call promises: of makers of cs, while no more than F are left -/
def CallOk (cs : List (Str × Nat)) (F : Nat) (call : CallT) : Prop :=
  ∀ (f : Str) (ws : List Int) (st : Rs), (f, ws.length) ∈ cs → (∀ w ∈ ws, In7 w) → 0 ≤ st.left → st.left ≤ (F : Int) → Fit In7 st (call f ws st)
/-- a tree's end -/
def IsEnd (nm : List Str) (cs : List (Str × Nat)) (t : Tr) : Prop := t.Wf nm cs ∧ ∀ c a b, t ≠ .ite c a b
theorem Fit.from {α : Type} {Q : α → Prop} {st st' : Rs} {r : Ot α} (h : Fit Q st' r) (h1 : st'.left ≤ st.left) (h2 : st'.deep = st.deep) (h3 : (st'.tr.length : Int) + st'.left ≤ st.tr.length + st.left) : Fit Q st r := by
  cases r with
  | ok a s => obtain ⟨q0, q1, q2, q3, q4⟩ := h; exact ⟨q0, q1, by omega, by omega, by omega⟩
  | over s => obtain ⟨q1, q2, q3⟩ := h; exact ⟨q1, by omega, by omega⟩
  | bad => exact h
abbrev csOf (b : List Mk) : List (Str × Nat) := b.map fun m => (m.name, m.names.length)
end CP

end
section
set_option maxHeartbeats 2000000
/-! callturn proofs, plain part: the program's runs -/
namespace CP
open PySem CT
end CP

end
section
set_option maxHeartbeats 2000000
/-! callturn proofs, plain part: tidy sums -/
namespace CP
open PySem CT
end CP

end
section
set_option maxHeartbeats 4000000
/-! callturn proofs, plain part: tidy sums, the walk -/
namespace CP
open PySem CT
structure Cx (nm : List Str) (cs : List (Str × Nat)) : Prop where
  hn : ∀ x ∈ nm, Sk 5 x
  hc : ∀ c ∈ cs, Sk 5 c.1 ∧ c.2 ≤ 10
end CP

end
section
set_option maxHeartbeats 4000000
/-! callturn proofs, plain part: tidy sums, the walk -/
namespace CP
open PySem CT
end CP

end
section
set_option maxHeartbeats 4000000
/-! callturn proofs, plain part: tidy sums by hand, tidy trees, tidy books -/
namespace CP
open PySem CT
def Tr.size : Tr → Nat
  | .tell s => s.size + 1
  | .again ss => sizes ss + 1
  | .ite t a b => t.size + a.size + b.size + 1
end CP

end
section
set_option maxHeartbeats 4000000
/-! callturn proofs, plain part: tidy books -/
namespace CP
open PySem CT
def Mk.alln : Mk → List Str
  | .fn _ ns _ => ns
  | .lp _ ns k _ => ns ++ k.map (·.1)
def Mk.size : Mk → Nat
  | .fn _ _ s => s.size
  | .lp _ _ k t => sizes (k.map (·.2)) + t.size
/-- books as these laws have them -/
structure Db (b : List Mk) : Prop where
  len : b.length ≤ 4
  nd : (b.map Mk.name).Nodup
  wf : ∀ m ∈ b, m.Wf (csOf b)
  nk : ∀ c ∈ csOf b, Sk 5 c.1 ∧ c.2 ≤ 10
  ns : ∀ m ∈ b, ∀ x ∈ m.alln, Sk 5 x
  nl : ∀ m ∈ b, m.alln.length ≤ 10
  sd : ∀ m ∈ b, m.sdep ≤ 4
  td : ∀ m ∈ b, m.tdep ≤ 4
  sz : ∀ m ∈ b, m.size ≤ 100000
theorem Cx.names {f : Str} {ns : List Str} {k : List (Str × Sm)} {t : Tr} {cs : List (Str × Nat)} (h : Cx (Mk.lp f ns k t).alln cs) : Cx ns cs := ⟨fun x hx => h.hn x (List.mem_append.mpr (.inl hx)), h.hc⟩
end CP

end
section
set_option maxHeartbeats 4000000
/-! callturn proofs, plain part: the program's runs, sums -/
namespace CP
open PySem CT
end CP

end
section
set_option maxHeartbeats 4000000
/-! callturn proofs, plain part: the program's runs, trees, loops, calls -/
namespace CP
open PySem CT
end CP

end
section
set_option maxHeartbeats 4000000
/-! callturn proofs, plain part: the program's runs, loops, calls, go, trace -/
namespace CP
open PySem CT
end CP

end
section
set_option maxHeartbeats 4000000
/-! callturn proofs, plain part: the program's runs, calls, go, trace -/
namespace CP
open PySem CT
end CP

end
section
set_option maxHeartbeats 4000000
/-! callturn proofs, plain part: go, trace -/
namespace CP
open PySem CT
end CP

end
section
set_option maxHeartbeats 2000000
/-! callturn proofs, plain part: runs of tidy books -/
namespace CP
open PySem CT
theorem Fit.ok {α : Type} {Q : α → Prop} {st s : Rs} {i : α} {r : Ot α} (h : Fit Q st r) (e : r = .ok i s) : Q i ∧ 0 ≤ s.left ∧ s.left ≤ st.left := by
  rw [e] at h; exact ⟨h.1, h.2.1, h.2.2.1⟩
/-- like calls -/
def CallE (cs : List (Str × Nat)) (F : Nat) (c c' : CallT) : Prop :=
  ∀ (f : Str) (ws : List Int) (st : Rs), (f, ws.length) ∈ cs → (∀ w ∈ ws, In7 w) → 0 ≤ st.left → st.left ≤ (F : Int) → c' f ws st = c f ws st
theorem CallE.ok {cs : List (Str × Nat)} {F : Nat} {c c' : CallT} (h : CallE cs F c c') (hc : CallOk cs F c) : CallOk cs F c' := fun f ws st a b d e => by
  rw [h f ws st a b d e]; exact hc f ws st a b d e
end CP

end
section
set_option maxHeartbeats 1000000
/-! callturn proofs, plain part: worths of runs, apart from their state -/
namespace CP
open PySem CT
/-! ### what a run tells is what it comes to -/
/-! ### more room tells the same -/
/-! ### sums put in for names, opened calls -/
end CP

end
section
set_option maxHeartbeats 4000000
/-! callturn proofs, plain part: loops unrolled -/
namespace CP
open PySem CT
def Tr.put (σ : Sub) : Tr → Tr
  | .tell s => .tell (s.put σ)
  | .again ss => .again (ss.map (Sm.put σ))
  | .ite t a b => .ite (t.put σ) (a.put σ) (b.put σ)
end CP

end
section
set_option maxHeartbeats 2000000
/-! callturn proofs, plain part: papers: what is known, own calls, what falls -/
namespace CP
open PySem CT
end CP

end
section
set_option maxHeartbeats 2000000
/-! callturn proofs, plain part: papers: own calls, falls -/
namespace CP
open PySem CT
end CP

end
section
set_option maxHeartbeats 2000000
/-! callturn proofs, plain part: papers: what falls -/
namespace CP
open PySem CT
end CP

end
section
set_option maxHeartbeats 2000000
/-! callturn proofs, plain part: papers: orders of names -/
namespace CP
open PySem CT
def ext (names p : List Str) : List (List Str) := (names.filter fun x => !p.contains x).map fun x => p ++ [x]
/-- orders of some of the names -/
def Ord (names p : List Str) : Prop := p.Nodup ∧ ∀ x ∈ p, x ∈ names
theorem ext_ord {names p : List Str} (h : Ord names p) : ∀ e ∈ ext names p, Ord names e ∧ e.length = p.length + 1 := by
  intro e he
  obtain ⟨x, hx, rfl⟩ := List.mem_map.mp he
  obtain ⟨hx1, hx2⟩ := List.mem_filter.mp hx
  refine ⟨⟨List.nodup_append.mpr ⟨h.1, by simp, fun a ha b hb => ?_⟩, fun y hy => ?_⟩, by simp⟩
  · have : b = x := by simpa using hb
    subst this
    intro q
    subst q
    simp at hx2
    exact hx2 ha
  · rcases List.mem_append.mp hy with hy | hy
    · exact h.2 y hy
    · have : y = x := by simpa using hy
      subst this; exact hx1
/-- what stands while orders are made -/
structure BI (names : List Str) (found : List (List Str)) (i : Nat) : Prop where
  le : i ≤ found.length
  ord : ∀ p ∈ found, Ord names p
  srt : found.Pairwise fun a b => a.length ≤ b.length
  top : ∀ p ∈ found, ∀ q, found[i]? = some q → p.length ≤ q.length + 1
  cls : ∀ j p, j < i → found[j]? = some p → ∀ e ∈ ext names p, e ∈ found
  one : [] ∈ found
theorem BI.step {names : List Str} {found : List (List Str)} {i : Nat} (h : BI names found i) {p : List Str} (hp : found[i]? = some p) : BI names (found ++ ext names p) (i + 1) := by
  have hlt : i < found.length := (List.getElem?_eq_some_iff.mp hp).1
  have hpm : p ∈ found := List.mem_of_getElem? hp
  have he := ext_ord (h.ord p hpm)
  refine ⟨by rw [List.length_append]; omega, fun q hq => ?_, List.pairwise_append.mpr ⟨h.srt, ?_, fun a ha b hb => ?_⟩, fun a ha q hq => ?_, fun j q hj hq e hee => ?_, List.mem_append_left _ h.one⟩
  · rcases List.mem_append.mp hq with hq | hq
    · exact h.ord q hq
    · exact (he q hq).1
  · refine List.pairwise_of_forall_mem_list fun a ha b hb => ?_
    rw [(he a ha).2, (he b hb).2]; exact Nat.le_refl _
  · rw [(he b hb).2]; exact h.top a ha p hp
  · have hpq : p.length ≤ q.length := by
      by_cases c : i + 1 < found.length
      · rw [List.getElem?_append_left c] at hq
        have e1 : found[i] = p := by rw [List.getElem?_eq_getElem hlt] at hp; injection hp
        have e2 : found[i + 1] = q := by rw [List.getElem?_eq_getElem c] at hq; injection hq
        have := List.pairwise_iff_getElem.mp h.srt i (i + 1) hlt c (by omega)
        rw [e1, e2] at this; exact this
      · have : q ∈ ext names p := by
          rw [List.getElem?_append_right (by omega)] at hq
          exact List.mem_of_getElem? hq
        rw [(he q this).2]; omega
    rcases List.mem_append.mp ha with ha | ha
    · have := h.top a ha p hp; omega
    · rw [(he a ha).2]; omega
  · by_cases c : j < i
    · rw [List.getElem?_append_left (by omega)] at hq
      exact List.mem_append_left _ (h.cls j q c hq e hee)
    · have : j = i := by omega
      subst this
      rw [List.getElem?_append_left hlt, hp] at hq
      injection hq with hq
      subst hq
      exact List.mem_append_right _ hee
/-! ### the walk -/
end CP

end
section
set_option maxHeartbeats 2000000
/-! callturn proofs, plain part: papers: is_paper, paper_for -/
namespace CP
open PySem CT
end CP

end
section
set_option maxHeartbeats 2000000
/-! callturn proofs, plain part: papers by hand -/
namespace CP
open PySem CT
/-! ### own calls by hand -/
end CP

end
section
set_option maxHeartbeats 2000000
/-! callturn proofs, plain part: papers by hand: shows, orders -/
namespace CP
open PySem CT
end CP

end
section
set_option maxHeartbeats 2000000
/-! callturn proofs, plain part: orders by hand; drawn makers that call themselves under ifs -/
namespace CP
open PySem CT
/-! ### drawn makers -/
end CP

end
section
set_option maxHeartbeats 4000000
/-! callturn proofs, plain part: loops unrolled, by hand (k28) -/
namespace CP
open PySem CT
/-! ### what unrolled loops come to -/
end CP

end
section
set_option maxHeartbeats 1000000
/-! callturn proofs, plain part: law k10 -/
namespace CP
open PySem CT
abbrev S00 : Sto := [.lst []]
end CP

end
section
set_option maxHeartbeats 1000000
/-! callturn proofs, plain part: drawn books, three deep (k18, k19) -/
namespace CP
open PySem CT
end CP

end
section
set_option maxHeartbeats 2000000
/-! callturn proofs, plain part: calls opened, books (k18) -/
namespace CP
open PySem CT
theorem Bk.up {b : List Mk} (h : Bk 3 b) : Bk 4 b := ⟨h.pos, h.len, h.names, h.wf, fun m hm => by
  have := h.gen m hm
  cases m with
  | fn => exact ⟨this.1, Nat.le_succ_of_le this.2⟩
  | lp => exact this⟩
end CP

end
section
set_option maxHeartbeats 2000000
/-! callturn proofs, plain part: law k18 -/
namespace CP
open PySem CT
end CP

end
section
set_option maxHeartbeats 4000000
/-! callturn proofs, plain part: plainer sums and trees (k20) -/
namespace CP
open PySem CT
end CP

end
section
set_option maxHeartbeats 4000000
/-! callturn proofs, plain part: sizes; plainer books (k20) -/
namespace CP
open PySem CT
end CP

end
section
set_option maxHeartbeats 4000000
/-! callturn proofs, plain part: law k20 -/
namespace CP
open PySem CT
theorem p25 {s : Sm} {nm : List Str} {cs : List (Str × Nat)} (hc : ∀ c ∈ cs, c.2 ≤ 4) (hw : s.Wf nm cs) (hd : s.dep ≤ 2) : s.size ≤ 25 := by
  have h1 := Sm.size_le hc s hw
  have h2 : 5 ^ s.dep ≤ 5 ^ 2 := Nat.pow_le_pow_right (by decide) hd
  omega
theorem sizes_bound {B : Nat} : ∀ {l : List Sm}, (∀ a ∈ l, a.size ≤ B) → sizes l ≤ l.length * B
  | [], _ => by simp [sizes]
  | a :: r, h => by
    have h1 := h a (by simp)
    have h2 := sizes_bound (l := r) fun b hb => h b (by simp [hb])
    simp only [sizes, List.length_cons, Nat.add_mul]; omega
theorem Tr.size_le {nm : List Str} {cs : List (Str × Nat)} (hc : ∀ c ∈ cs, c.2 ≤ 4) (hl : nm.length ≤ 10) : ∀ t : Tr, t.Wf nm cs → t.sdep ≤ 2 → t.size + 30 ≤ 300 * 2 ^ t.dep
  | .tell s, hw, hd => by
    have := p25 hc (s := s) hw hd
    simp only [Tr.size, Tr.dep]; omega
  | .again ss, hw, hd => by
    have h1 := sizes_bound (B := 25) (l := ss) fun a ha => p25 hc (Wfs_iff.mp hw.2 a ha) (Nat.le_trans (deps_le.mp (Nat.le_refl _) a ha) hd)
    have h2 : ss.length * 25 ≤ 10 * 25 := Nat.mul_le_mul_right _ (by rw [hw.1]; exact hl)
    simp only [Tr.size, Tr.dep]; omega
  | .ite t a b, hw, hd => by
    simp only [Tr.sdep] at hd
    have h0 := p25 hc (s := t) hw.1 (by omega)
    have h1 := Tr.size_le hc hl a hw.2.1 (by omega)
    have h2 := Tr.size_le hc hl b hw.2.2 (by omega)
    have p1 : 2 ^ a.dep ≤ 2 ^ max a.dep b.dep := Nat.pow_le_pow_right (by decide) (by omega)
    have p2 : 2 ^ b.dep ≤ 2 ^ max a.dep b.dep := Nat.pow_le_pow_right (by decide) (by omega)
    simp only [Tr.size, Tr.dep, Nat.pow_succ]; omega
def Mk.Gn : Mk → Prop
  | .fn _ _ s => s.dep ≤ 4
  | .lp _ _ k t => k.length ≤ 2 ∧ (∀ p ∈ k, p.2.dep ≤ 2) ∧ t.dep ≤ 4 ∧ t.sdep ≤ 2
theorem Db.of {b : List Mk} (len : b.length ≤ 4) (nd : (b.map Mk.name).Nodup) (wf : ∀ m ∈ b, m.Wf (csOf b)) (nk : ∀ c ∈ csOf b, Sk 5 c.1 ∧ c.2 ≤ 4) (ns : ∀ m ∈ b, ∀ x ∈ m.alln, Sk 5 x) (nl : ∀ m ∈ b, m.alln.length ≤ 10) (gn : ∀ m ∈ b, m.Gn) : Db b where
  len := len
  nd := nd
  wf := wf
  nk := fun c hc => ⟨(nk c hc).1, by have := (nk c hc).2; omega⟩
  ns := ns
  nl := nl
  sd := fun m hm => by
    have hg := gn m hm
    cases m with
    | fn f ns s => exact hg
    | lp f ns k t =>
      have : deps (k.map (·.2)) ≤ 2 := deps_le.mpr fun a ha => by
        obtain ⟨p, hp, rfl⟩ := List.mem_map.mp ha
        exact hg.2.1 p hp
      have := hg.2.2.2
      simp only [Mk.sdep]; omega
  td := fun m hm => by
    have hg := gn m hm
    cases m with
    | fn f ns s => simp [Mk.tdep]
    | lp f ns k t => exact hg.2.2.1
  sz := fun m hm => by
    have hg := gn m hm
    have hw := wf m hm
    have hc4 : ∀ c ∈ csOf b, c.2 ≤ 4 := fun c hc => (nk c hc).2
    cases m with
    | fn f ns s =>
      have h1 := Sm.size_le hc4 s hw.2.2
      have h2 : 5 ^ s.dep ≤ 5 ^ 4 := Nat.pow_le_pow_right (by decide) hg
      simp only [Mk.size]; omega
    | lp f ns k t =>
      have h1 := sizes_bound (B := 25) (l := k.map (·.2)) fun a ha => by
        obtain ⟨p, hp, rfl⟩ := List.mem_map.mp ha
        exact p25 hc4 (hw.2.2.1 p hp) (hg.2.1 p hp)
      rw [List.length_map] at h1
      have h2 : k.length * 25 ≤ 2 * 25 := Nat.mul_le_mul_right _ hg.1
      have h3 := Tr.size_le hc4 (nl _ hm) t hw.2.2.2 hg.2.2.2
      have h4 : 2 ^ t.dep ≤ 2 ^ 4 := Nat.pow_le_pow_right (by decide) hg.2.2.1
      simp only [Mk.size]; omega
/-! ### plainer books -/
end CP

end
section
set_option maxHeartbeats 4000000
/-! callturn proofs, plain part: law k19 -/
namespace CP
open PySem CT
theorem Sm.Wf.put {nm nm' : List Str} {cs : List (Str × Nat)} {σ : Sub} (hσ : ∀ x ∈ nm, ∃ v, σ.lookup x = some v ∧ v.Wf nm' cs) : ∀ {s : Sm}, s.Wf nm cs → (s.put σ).Wf nm' cs := by
  intro s
  induction s using Sm.ind with
  | num i => exact fun h => h
  | nam x =>
    intro h
    obtain ⟨v, e, hv⟩ := hσ x h
    simp only [Sm.put, e, Option.getD_some]; exact hv
  | half a ih => intro h; simp only [Sm.put]; exact ih h
  | two w a b iha ihb => intro h; simp only [Sm.put]; exact ⟨iha h.1, ihb h.2⟩
  | ite t a b iht iha ihb => intro h; simp only [Sm.put]; exact ⟨iht h.1, iha h.2.1, ihb h.2.2⟩
  | call f as ih =>
    intro h
    have hs := Wfs_iff.mp h.2
    simp only [Sm.put, puts_map]
    refine ⟨by rw [List.length_map]; exact h.1, Wfs_iff.mpr fun q hq => ?_⟩
    obtain ⟨a, ha, rfl⟩ := List.mem_map.mp hq
    exact ih a ha (hs a ha)
/-! ### the law -/
end CP

end
section
set_option maxHeartbeats 2000000
/-! callturn proofs, plain part: loops without calls, unrolled: turns counted (k28) -/
namespace CP
open PySem CT
end CP

end
section
set_option maxHeartbeats 4000000
/-! callturn proofs, plain part: drawn loops (k26, k27, k28, k30) -/
namespace CP
open PySem CT
end CP

end
section
set_option maxHeartbeats 2000000
/-! callturn proofs, plain part: drawn makers that call themselves under ifs -/
namespace CP
open PySem CT
end CP

end
section
set_option maxHeartbeats 4000000
/-! callturn proofs, plain part: drawn books with a loop (k26, k27, k28, k30) -/
namespace CP
open PySem CT
theorem Tr.Wf.mono {nm : List Str} {cs cs' : List (Str × Nat)} (h : ∀ c ∈ cs, c ∈ cs') : ∀ {t : Tr}, t.Wf nm cs → t.Wf nm cs'
  | .tell s, hw => Sm.Wf.mono h (s := s) hw
  | .again ss, hw => ⟨hw.1, Wfs_iff.mpr fun a ha => Sm.Wf.mono h (Wfs_iff.mp hw.2 a ha)⟩
  | .ite t a b, hw => ⟨Sm.Wf.mono h hw.1, Tr.Wf.mono h hw.2.1, Tr.Wf.mono h hw.2.2⟩
end CP

end
section
set_option maxHeartbeats 4000000
/-! callturn proofs, plain part: what runs come to, with all calls and turns, told without fuel -/
namespace CP
open PySem CT
structure Log where
  calls : List (Nat × Str × List Int)
  turns : Nat
def Log.nil : Log := ⟨[], 0⟩
def Log.app (a b : Log) : Log := ⟨a.calls ++ b.calls, a.turns + b.turns⟩
def Log.turn : Log := ⟨[], 1⟩
def Log.call (f : Str) (ws : List Int) (l : Log) : Log := ⟨(0, f, ws) :: l.calls.map fun p => (p.1 + 1, p.2), l.turns⟩
def Log.cost (l : Log) : Nat := l.calls.length + l.turns
theorem cost_turn : Log.turn.cost = 1 := rfl
theorem cost_app (a b : Log) : (a.app b).cost = a.cost + b.cost := by simp only [Log.cost, Log.app, List.length_append]; omega
mutual
/-- what a sum comes to, in a book, where names hold worths -/
inductive Ws (b : List Mk) : Rho → Sm → Int → Log → Prop
  | num {ρ : Rho} (i : Int) : Ws b ρ (.num i) i .nil
  | nam {ρ : Rho} {x : Str} {v : Int} : ρ.lookup x = some v → Ws b ρ (.nam x) v .nil
  | half {ρ : Rho} {a : Sm} {i : Int} {l : Log} : Ws b ρ a i l → Ws b ρ (.half a) (i / 2) l
  | two {ρ : Rho} {w : Wd} {a c : Sm} {i j : Int} {l l' : Log} : Ws b ρ a i l → Ws b ρ c j l' → Ws b ρ (.two w a c) (w.run i j) (l.app l')
  | ite1 {ρ : Rho} {t a c : Sm} {i v : Int} {l l' : Log} : Ws b ρ t i l → i ≠ 0 → Ws b ρ a v l' → Ws b ρ (.ite t a c) v (l.app l')
  | ite0 {ρ : Rho} {t a c : Sm} {i v : Int} {l l' : Log} : Ws b ρ t i l → i = 0 → Ws b ρ c v l' → Ws b ρ (.ite t a c) v (l.app l')
  | call {ρ : Rho} {f : Str} {as : List Sm} {ws : List Int} {v : Int} {l l' : Log} : WsL b ρ as ws l → Cl b f ws v l' → Ws b ρ (.call f as) v (l.app l')
inductive WsL (b : List Mk) : Rho → List Sm → List Int → Log → Prop
  | nil {ρ : Rho} : WsL b ρ [] [] .nil
  | cons {ρ : Rho} {a : Sm} {as : List Sm} {i : Int} {is : List Int} {l l' : Log} : Ws b ρ a i l → WsL b ρ as is l' → WsL b ρ (a :: as) (i :: is) (l.app l')
/-- the end to which a tree leads -/
inductive Lf (b : List Mk) : Rho → Tr → Tr → Log → Prop
  | tell {ρ : Rho} {e : Sm} : Lf b ρ (.tell e) (.tell e) .nil
  | again {ρ : Rho} {es : List Sm} : Lf b ρ (.again es) (.again es) .nil
  | ite1 {ρ : Rho} {t : Sm} {a c lf : Tr} {i : Int} {l l' : Log} : Ws b ρ t i l → i ≠ 0 → Lf b ρ a lf l' → Lf b ρ (.ite t a c) lf (l.app l')
  | ite0 {ρ : Rho} {t : Sm} {a c lf : Tr} {i : Int} {l l' : Log} : Ws b ρ t i l → i = 0 → Lf b ρ c lf l' → Lf b ρ (.ite t a c) lf (l.app l')
/-- a loop, from what its names hold on -/
inductive Lp (b : List Mk) : Tr → List Str → Rho → Int → Log → Prop
  | tell {tree : Tr} {nm : List Str} {ρ : Rho} {e : Sm} {v : Int} {l l' : Log} : Lf b ρ tree (.tell e) l → Ws b ρ e v l' → Lp b tree nm ρ v (l.app l')
  | again {tree : Tr} {nm : List Str} {ρ : Rho} {es : List Sm} {is : List Int} {v : Int} {l l' l'' : Log} : Lf b ρ tree (.again es) l → WsL b ρ es is l' → Lp b tree nm (nm.zip is) v l'' → Lp b tree nm ρ v (l.app (Log.turn.app (l'.app l'')))
inductive Bd (b : List Mk) : Mk → List Int → Int → Log → Prop
  | fn {n : Str} {ns : List Str} {e : Sm} {ws : List Int} {v : Int} {l : Log} : Ws b (ns.zip ws) e v l → Bd b (.fn n ns e) ws v l
  | lp {n : Str} {ns : List Str} {kept : List (Str × Sm)} {tree : Tr} {ws is : List Int} {v : Int} {l l' : Log} : WsL b (ns.zip ws) (kept.map (·.2)) is l → Lp b tree (ns ++ kept.map (·.1)) ((ns ++ kept.map (·.1)).zip (ws ++ is)) v l' → Bd b (.lp n ns kept tree) ws v (l.app l')
/-- a call -/
inductive Cl (b : List Mk) : Str → List Int → Int → Log → Prop
  | mk {f : Str} {m : Mk} {ws : List Int} {v : Int} {l : Log} : mkAt b f = some m → Bd b m ws v l → Cl b f ws v (l.call f ws)
end
/-! ### a run tells what it comes to -/
/-! ### what it comes to, a run tells -/
end CP

end
section
set_option maxHeartbeats 4000000
/-! callturn proofs, plain part: runs of one book and runs of another, call by call -/
namespace CP
open PySem CT
theorem WsL.length {b : List Mk} {ρ : Rho} : ∀ {as : List Sm} {vs : List Int} {l : Log}, WsL b ρ as vs l → vs.length = as.length
  | [], _, _, h => by cases h; rfl
  | a :: as, _, _, h => by
    cases h with
    | cons p q => simp [WsL.length q]
/-- a relation of logs that is kept when they are put together -/
structure Cong0 (Q : Log → Log → Prop) : Prop where
  nil : Q .nil .nil
  app : ∀ {a a' b b'}, Q a a' → Q b b' → Q (a.app b) (a'.app b')
structure Cong (Q : Log → Log → Prop) : Prop extends Cong0 Q where
  turn : Q .turn .turn
/-- calls of the one are calls of the other, while they cost no more than n -/
def Mp (cs : List (Str × Nat)) (Q : Log → Log → Prop) (n : Nat) (b b' : List Mk) : Prop :=
  ∀ f ws v l, (f, ws.length) ∈ cs → l.cost ≤ n → Cl b f ws v l → ∃ l', Cl b' f ws v l' ∧ Q l l'
section
variable {cs : List (Str × Nat)} {Q : Log → Log → Prop} {n : Nat} {b b' : List Mk} {nm : List Str}
theorem WsL.mapA (hQ : Cong0 Q) {ρ : Rho} : ∀ {as : List Sm} {vs : List Int} {l : Log}, (∀ a ∈ as, ∀ v l, l.cost ≤ n → Ws b ρ a v l → ∃ l', Ws b' ρ a v l' ∧ Q l l') → l.cost ≤ n → WsL b ρ as vs l → ∃ l', WsL b' ρ as vs l' ∧ Q l l'
  | [], _, _, _, _, h => by cases h; exact ⟨_, .nil, hQ.nil⟩
  | a :: as, _, _, ih, hn, h => by
    cases h with
    | cons p q =>
      rw [cost_app] at hn
      obtain ⟨l1, p1, p2⟩ := ih a (by simp) _ _ (by omega) p
      obtain ⟨l2, q1, q2⟩ := WsL.mapA hQ (fun x hx => ih x (by simp [hx])) (by omega) q
      exact ⟨_, .cons p1 q1, hQ.app p2 q2⟩
theorem Ws.map (hQ : Cong0 Q) (hc : Mp cs Q n b b') {ρ : Rho} : ∀ (s : Sm) (v : Int) (l : Log), s.Wf nm cs → l.cost ≤ n → Ws b ρ s v l → ∃ l', Ws b' ρ s v l' ∧ Q l l' := by
  intro s
  induction s using Sm.ind with
  | num i => intro v l _ _ h; cases h; exact ⟨_, .num _, hQ.nil⟩
  | nam x => intro v l _ _ h; cases h with | nam e => exact ⟨_, .nam e, hQ.nil⟩
  | half a ih =>
    intro v l hw hn h
    cases h with
    | half p =>
      obtain ⟨l1, p1, p2⟩ := ih _ _ (by simpa [Sm.Wf] using hw) hn p
      exact ⟨_, .half p1, p2⟩
  | two w a c ia ic =>
    intro v l hw hn h
    simp only [Sm.Wf] at hw
    cases h with
    | two p q =>
      rw [cost_app] at hn
      obtain ⟨l1, p1, p2⟩ := ia _ _ hw.1 (by omega) p
      obtain ⟨l2, q1, q2⟩ := ic _ _ hw.2 (by omega) q
      exact ⟨_, .two p1 q1, hQ.app p2 q2⟩
  | ite t a c it ia ic =>
    intro v l hw hn h
    simp only [Sm.Wf] at hw
    cases h with
    | ite1 p hi q =>
      rw [cost_app] at hn
      obtain ⟨l1, p1, p2⟩ := it _ _ hw.1 (by omega) p
      obtain ⟨l2, q1, q2⟩ := ia _ _ hw.2.1 (by omega) q
      exact ⟨_, .ite1 p1 hi q1, hQ.app p2 q2⟩
    | ite0 p hi q =>
      rw [cost_app] at hn
      obtain ⟨l1, p1, p2⟩ := it _ _ hw.1 (by omega) p
      obtain ⟨l2, q1, q2⟩ := ic _ _ hw.2.2 (by omega) q
      exact ⟨_, .ite0 p1 hi q1, hQ.app p2 q2⟩
  | call f as ih =>
    intro v l hw hn h
    simp only [Sm.Wf] at hw
    cases h with
    | call p q =>
      rw [cost_app] at hn
      have hw2 := Wfs_iff.mp hw.2
      obtain ⟨l1, p1, p2⟩ := WsL.mapA hQ (n := n) (b' := b') (fun a ha v l hl h => ih a ha v l (hw2 a ha) hl h) (by omega) p
      obtain ⟨l2, q1, q2⟩ := hc _ _ _ _ (by rw [p.length]; exact hw.1) (by omega) q
      exact ⟨_, .call p1 q1, hQ.app p2 q2⟩
theorem WsL.map (hQ : Cong0 Q) (hc : Mp cs Q n b b') {ρ : Rho} {as : List Sm} {vs : List Int} {l : Log} (hw : ∀ a ∈ as, a.Wf nm cs) (hn : l.cost ≤ n) (h : WsL b ρ as vs l) : ∃ l', WsL b' ρ as vs l' ∧ Q l l' :=
  WsL.mapA hQ (fun a ha v l hl h => Ws.map hQ hc a v l (hw a ha) hl h) hn h
theorem Lf.map (hQ : Cong0 Q) (hc : Mp cs Q n b b') {ρ : Rho} : ∀ (t lf : Tr) (l : Log), t.Wf nm cs → l.cost ≤ n → Lf b ρ t lf l → ∃ l', Lf b' ρ t lf l' ∧ Q l l'
  | .tell e, _, _, _, _, h => by cases h; exact ⟨_, .tell, hQ.nil⟩
  | .again e, _, _, _, _, h => by cases h; exact ⟨_, .again, hQ.nil⟩
  | .ite t a c, _, _, hw, hn, h => by
    simp only [Tr.Wf] at hw
    cases h with
    | ite1 p hi q =>
      rw [cost_app] at hn
      obtain ⟨l1, p1, p2⟩ := Ws.map hQ hc _ _ _ hw.1 (by omega) p
      obtain ⟨l2, q1, q2⟩ := Lf.map hQ hc _ _ _ hw.2.1 (by omega) q
      exact ⟨_, .ite1 p1 hi q1, hQ.app p2 q2⟩
    | ite0 p hi q =>
      rw [cost_app] at hn
      obtain ⟨l1, p1, p2⟩ := Ws.map hQ hc _ _ _ hw.1 (by omega) p
      obtain ⟨l2, q1, q2⟩ := Lf.map hQ hc _ _ _ hw.2.2 (by omega) q
      exact ⟨_, .ite0 p1 hi q1, hQ.app p2 q2⟩
theorem Lf.end {b : List Mk} {ρ : Rho} : ∀ {t lf : Tr} {l : Log}, t.Wf nm cs → Lf b ρ t lf l → IsEnd nm cs lf
  | .tell e, _, _, hw, h => by cases h; exact ⟨hw, fun _ _ _ h => by cases h⟩
  | .again e, _, _, hw, h => by cases h; exact ⟨hw, fun _ _ _ h => by cases h⟩
  | .ite t a c, _, _, hw, h => by
    simp only [Tr.Wf] at hw
    cases h with
    | ite1 p hi q => exact Lf.end hw.2.1 q
    | ite0 p hi q => exact Lf.end hw.2.2 q
/-- induction over turns -/
theorem Lp.ind {b : List Mk} {tree : Tr} {nm : List Str} {P : Rho → Int → Log → Prop} (tell : ∀ ρ e v l l', Lf b ρ tree (.tell e) l → Ws b ρ e v l' → P ρ v (l.app l'))
    (again : ∀ ρ es is v l l' l'', Lf b ρ tree (.again es) l → WsL b ρ es is l' → Lp b tree nm (nm.zip is) v l'' → P (nm.zip is) v l'' → P ρ v (l.app (Log.turn.app (l'.app l'')))) : ∀ (n : Nat) {ρ : Rho} {v : Int} {l : Log}, l.cost ≤ n → Lp b tree nm ρ v l → P ρ v l
  | n, ρ, v, _, hn, .tell p q => tell _ _ _ _ _ p q
  | 0, ρ, v, _, hn, .again p q r => by rw [cost_app, cost_app, cost_turn] at hn; omega
  | n + 1, ρ, v, _, hn, .again p q r => again _ _ _ _ _ _ _ p q r (Lp.ind tell again n (by rw [cost_app, cost_app, cost_app, cost_turn] at hn; omega) r)
theorem Lp.map (hQ : Cong Q) (hc : Mp cs Q n b b') {tree : Tr} (hw : tree.Wf nm cs) {ρ : Rho} {v : Int} {l : Log} (hn : l.cost ≤ n) (h : Lp b tree nm ρ v l) : ∃ l', Lp b' tree nm ρ v l' ∧ Q l l' := by
  refine Lp.ind (P := fun ρ v l => l.cost ≤ n → ∃ l', Lp b' tree nm ρ v l' ∧ Q l l') ?_ ?_ l.cost (Nat.le_refl _) h hn
  · intro ρ e v l l' p q hn
    rw [cost_app] at hn
    obtain ⟨l1, p1, p2⟩ := Lf.map hQ.toCong0 hc _ _ _ hw (by omega) p
    obtain ⟨l2, q1, q2⟩ := Ws.map hQ.toCong0 hc _ _ _ (Lf.end hw p).1 (by omega) q
    exact ⟨_, .tell p1 q1, hQ.app p2 q2⟩
  · intro ρ es is v l l' l'' p q _ ih hn
    rw [cost_app, cost_app, cost_app, cost_turn] at hn
    obtain ⟨l1, p1, p2⟩ := Lf.map hQ.toCong0 hc _ _ _ hw (by omega) p
    obtain ⟨l2, q1, q2⟩ := WsL.map hQ.toCong0 hc (Wfs_iff.mp (Lf.end hw p).1.2) (by omega) q
    obtain ⟨l3, r1, r2⟩ := ih (by omega)
    exact ⟨_, .again p1 q1 r1, hQ.app p2 (hQ.app hQ.turn (hQ.app q2 r2))⟩
theorem Bd.map (hQ : Cong Q) (hc : Mp cs Q n b b') {m : Mk} (hw : m.Wf cs) {ws : List Int} {v : Int} {l : Log} (hn : l.cost ≤ n) (h : Bd b m ws v l) : ∃ l', Bd b' m ws v l' ∧ Q l l' := by
  cases h with
  | fn p =>
    obtain ⟨l1, p1, p2⟩ := Ws.map hQ.toCong0 hc _ _ _ hw.2.2 hn p
    exact ⟨_, .fn p1, p2⟩
  | lp p q =>
    rw [cost_app] at hn
    obtain ⟨l1, p1, p2⟩ := WsL.map hQ.toCong0 hc (nm := _) (fun a ha => by obtain ⟨x, hx, rfl⟩ := List.mem_map.mp ha; exact hw.2.2.1 x hx) (by omega) p
    obtain ⟨l2, q1, q2⟩ := Lp.map hQ hc hw.2.2.2 (by omega) q
    exact ⟨_, .lp p1 q1, hQ.app p2 q2⟩
end
end CP

end
section
set_option maxHeartbeats 1000000
/-! callturn proofs, plain part: spans by hand (k16) -/
namespace CP
open PySem CT
end CP

end
section
set_option maxHeartbeats 1000000
/-! callturn proofs, plain part: spans by hand (k16) -/
namespace CP
open PySem CT
end CP

end
section
set_option maxHeartbeats 1000000
/-! callturn proofs, plain part: spans by hand (k16) -/
namespace CP
open PySem CT
end CP

end
section
set_option maxHeartbeats 1000000
/-! callturn proofs, plain part: spans by hand (k16) -/
namespace CP
open PySem CT
end CP

end
section
set_option maxHeartbeats 1000000
/-! callturn proofs, plain part: worths ahead kept (k16) -/
namespace CP
open PySem CT
end CP

end
section
set_option maxHeartbeats 1000000
/-! callturn proofs, plain part: drawn makers with spans (k16) -/
namespace CP
open PySem CT
end CP

end
section
set_option maxHeartbeats 1000000
/-! callturn proofs, plain part: drawn books with spans (k16) -/
namespace CP
open PySem CT
end CP

end
section
set_option maxHeartbeats 2000000
/-! callturn proofs, plain part: slid -/
namespace CP
open PySem CT
end CP

end
section
set_option maxHeartbeats 1000000
/-! callturn proofs, plain part: loops made calls; books in general -/
namespace CP
open PySem CT
end CP

end
section
set_option maxHeartbeats 4000000
/-! callturn proofs, plain part: papers of loops -/
namespace CP
open PySem CT
end CP

end
section
set_option maxHeartbeats 4000000
/-! callturn proofs, plain part: what is reached, by a row of what is left -/
namespace CP
open PySem CT
/-- reached from these -/
inductive Rch (nxt : Str → List Str) (L : List Str) : Str → Prop
  | base {x : Str} : x ∈ L → Rch nxt L x
  | step {x y : Str} : Rch nxt L x → y ∈ nxt x → Rch nxt L y
theorem Rch.mono {nxt : Str → List Str} {L M : List Str} (h : ∀ x ∈ L, Rch nxt M x) {x : Str} (r : Rch nxt L x) : Rch nxt M x := by
  induction r with
  | base hx => exact h _ hx
  | step _ hy ih => exact .step ih hy
theorem Rch.congr {nxt nxt' : Str → List Str} {L L' : List Str} (h : ∀ x ∈ L, x ∈ L') (hn : ∀ x, Rch nxt L x → ∀ y ∈ nxt x, y ∈ nxt' x) {x : Str} (r : Rch nxt L x) : Rch nxt' L' x := by
  induction r with
  | base hx => exact .base (h _ hx)
  | step r hy ih => exact .step ih (hn _ r _ hy)
/-- what is found, what is left -/
structure CI (nxt : Str → List Str) (L0 : List Str) (F L : List Str) : Prop where
  nd : F.Nodup
  f : ∀ x ∈ F, Rch nxt L0 x
  l : ∀ x ∈ L, Rch nxt L0 x
  b : ∀ x ∈ L0, x ∈ F ∨ x ∈ L
  c : ∀ x ∈ F, ∀ y ∈ nxt x, y ∈ F ∨ y ∈ L
theorem CI.done {nxt : Str → List Str} {L0 F : List Str} (h : CI nxt L0 F []) (x : Str) : x ∈ F ↔ Rch nxt L0 x := by
  refine ⟨h.f x, fun r => ?_⟩
  induction r with
  | base hx => exact (h.b _ hx).resolve_right (by simp)
  | step _ hy ih => exact (h.c _ ih _ hy).resolve_right (by simp)
theorem nodup_sub_len {F U : List Str} (h : F.Nodup) (hs : ∀ x ∈ F, x ∈ U) : F.length ≤ U.length := by
  induction F generalizing U with
  | nil => simp
  | cons a F ih =>
    obtain ⟨h1, h2⟩ := List.nodup_cons.mp h
    have ha := hs a (by simp)
    have := ih (U := U.erase a) h2 fun x hx => (List.mem_erase_of_ne (by intro e; subst e; exact h1 hx)).mpr (hs x (by simp [hx]))
    rw [List.length_erase_of_mem ha] at this
    have hp : 1 ≤ U.length := List.length_pos_of_mem ha
    simp only [List.length_cons]; omega
/-- two rows of the same names are alike in order -/
theorem sortS_same {a b : List Str} (ha : a.Nodup) (hb : b.Nodup) (h : ∀ x, x ∈ a ↔ x ∈ b) : sortS a = sortS b := sortS_perm_eq ((List.perm_ext_iff_of_nodup ha hb).mpr h)
theorem sortS_len (l : List Str) : (sortS l).length = l.length := (sortS_perm l).length_eq
theorem sorted_keys (S : Sto) (ks : List Str) (ds : List D) (d : D) (hd : asD S d = some (ks.map Sum.inr, ds)) (hl : ks.length < 64) : b1 .sorted false d S = .ok (.lst ((sortS ks).map D.str)) S := by
  have e : strsOf ((ks.map (Sum.inr : Str → Key)).map ofKey) = some ks := by
    rw [List.map_map]
    exact strsOf_map ks
  simp only [b1, hd, e, orNo]
  rw [if_pos (decide_eq_true hl)]
  rfl
end CP

end
section
set_option maxHeartbeats 4000000
/-! callturn proofs, plain part: names in sums, in trees -/
namespace CP
open PySem CT
mutual
/-- the names of a sum, in order -/
def Sm.nms : Sm → List Str
  | .num _ => []
  | .nam x => [x]
  | .half a => a.nms
  | .two _ a b => a.nms ++ b.nms
  | .ite t a b => t.nms ++ (a.nms ++ b.nms)
  | .call _ as => nmss as
def nmss : List Sm → List Str
  | [] => []
  | a :: r => a.nms ++ nmss r
end
theorem Sm.nms_len {nm : List Str} {cs : List (Str × Nat)} (hc : ∀ c ∈ cs, c.2 ≤ 4) : ∀ s : Sm, s.Wf nm cs → s.nms.length ≤ 4 ^ s.dep := by
  have up : ∀ {a b : Nat}, a ≤ b → 4 ^ a ≤ 4 ^ b := fun h => Nat.pow_le_pow_right (by decide) h
  intro s
  induction s using Sm.ind with
  | num i => intro _; simp [Sm.nms]
  | nam x => intro _; simp [Sm.nms, Sm.dep]
  | half a ha =>
    intro h
    have := ha h
    simp only [Sm.nms, Sm.dep, Nat.pow_succ]; omega
  | two w a b ha hb =>
    intro h
    have h1 := ha h.1
    have h2 := hb h.2
    have h3 : 4 ^ a.dep ≤ 4 ^ (max a.dep b.dep) := up (by omega)
    have h4 : 4 ^ b.dep ≤ 4 ^ (max a.dep b.dep) := up (by omega)
    simp only [Sm.nms, Sm.dep, Nat.pow_succ, List.length_append]; omega
  | ite t a b ht ha hb =>
    intro h
    have h0 := ht h.1
    have h1 := ha h.2.1
    have h2 := hb h.2.2
    have h3 : 4 ^ t.dep ≤ 4 ^ (max t.dep (max a.dep b.dep)) := up (by omega)
    have h4 : 4 ^ a.dep ≤ 4 ^ (max t.dep (max a.dep b.dep)) := up (by omega)
    have h5 : 4 ^ b.dep ≤ 4 ^ (max t.dep (max a.dep b.dep)) := up (by omega)
    simp only [Sm.nms, Sm.dep, Nat.pow_succ, List.length_append]; omega
  | call f as ih =>
    intro h
    have hl := hc _ h.1
    have key : ∀ (l : List Sm) (N : Nat), (∀ a ∈ l, a.nms.length ≤ N) → (nmss l).length ≤ l.length * N := by
      intro l
      induction l with
      | nil => intro N _; simp [nmss]
      | cons a r ihr =>
        intro N hN
        have h1 := hN a (by simp)
        have h2 := ihr N fun b hb => hN b (by simp [hb])
        simp only [nmss, List.length_append, List.length_cons, Nat.add_mul, Nat.one_mul]; omega
    have h1 := key as (4 ^ deps as) fun a ha => Nat.le_trans (ih a ha (Wfs_iff.mp h.2 a ha)) (up (deps_le.mp (Nat.le_refl _) a ha))
    have h2 : as.length * 4 ^ deps as ≤ 4 * 4 ^ deps as := Nat.mul_le_mul_right _ hl
    simp only [Sm.nms, Sm.dep, Nat.pow_succ]; omega
/-! ### trees -/
def Tr.agL : Tr → List (List Sm)
  | .tell _ => []
  | .again es => [es]
  | .ite _ a b => a.agL ++ b.agL
theorem agL_wf {nm : List Str} {cs : List (Str × Nat)} : ∀ (t : Tr), t.Wf nm cs → ∀ es ∈ t.agL, es.length = nm.length ∧ (∀ a ∈ es, a.Wf nm cs ∧ a.dep ≤ t.sdep)
  | .tell _, _, es, h => by simp [Tr.agL] at h
  | .again ss, hw, es, h => by
    have e : es = ss := by simpa [Tr.agL] using h
    subst e
    exact ⟨hw.1, fun a ha => ⟨Wfs_iff.mp hw.2 a ha, deps_le.mp (Nat.le_refl _) a ha⟩⟩
  | .ite t a b, hw, es, h => by
    simp only [Tr.agL, List.mem_append] at h
    simp only [Tr.sdep]
    rcases h with h | h
    · obtain ⟨h1, h2⟩ := agL_wf a hw.2.1 es h
      exact ⟨h1, fun x hx => ⟨(h2 x hx).1, by have := (h2 x hx).2; omega⟩⟩
    · obtain ⟨h1, h2⟩ := agL_wf b hw.2.2 es h
      exact ⟨h1, fun x hx => ⟨(h2 x hx).1, by have := (h2 x hx).2; omega⟩⟩
theorem p16 {nm : List Str} {cs : List (Str × Nat)} (hc : ∀ c ∈ cs, c.2 ≤ 4) {s : Sm} (hw : s.Wf nm cs) (hd : s.dep ≤ 2) : s.nms.length ≤ 16 := by
  have := Sm.nms_len hc s hw
  have p : 4 ^ s.dep ≤ 4 ^ 2 := Nat.pow_le_pow_right (by decide) hd
  omega
end CP

end
section
set_option maxHeartbeats 4000000
/-! callturn proofs, plain part: names that are needed, names that are fixed -/
namespace CP
open PySem CT
/-- what the worth of a name hangs on at the agains -/
def nmAt (every : List Str) (es : List Sm) (x : Str) : List Str := (es.getD (every.idxOf x) (.num 0)).nms
def Tr.nx (t : Tr) (every : List Str) (x : Str) : List Str := t.agL.flatMap fun es => nmAt every es x
structure PN (nm : List Str) (cs : List (Str × Nat)) (t : Tr) : Prop where
  nd : nm.Nodup
  nl : nm.length ≤ 5
  sk : ∀ x ∈ nm, Sk 5 x
  c4 : ∀ c ∈ cs, c.2 ≤ 4
  wf : t.Wf nm cs
  td : t.dep ≤ 5
  ts : t.sdep ≤ 2
section
variable {nm : List Str} {cs : List (Str × Nat)} {t : Tr}
theorem PN.es (h : PN nm cs t) {es : List Sm} (he : es ∈ t.agL) : es.length = nm.length ∧ ∀ a ∈ es, a.Wf nm cs ∧ a.dep ≤ 2 := by
  obtain ⟨h1, h2⟩ := agL_wf t h.wf es he
  exact ⟨h1, fun a ha => ⟨(h2 a ha).1, by have := (h2 a ha).2; have := h.ts; omega⟩⟩
theorem PN.at (h : PN nm cs t) {es : List Sm} (he : es ∈ t.agL) {x : Str} (hx : x ∈ nm) : ∃ s : Sm, es[nm.idxOf x]? = some s ∧ nmAt nm es x = s.nms ∧ s.Wf nm cs ∧ s.dep ≤ 2 ∧ s.nms.length ≤ 16 := by
  obtain ⟨h1, h2⟩ := h.es he
  have hi : nm.idxOf x < es.length := by rw [h1]; exact List.idxOf_lt_length_of_mem hx
  have hm := h2 es[nm.idxOf x] (List.getElem_mem hi)
  exact ⟨es[nm.idxOf x], List.getElem?_eq_getElem hi, by simp [nmAt, List.getD, List.getElem?_eq_getElem hi], hm.1, hm.2, p16 h.c4 hm.1 hm.2⟩
end
/-! ### by hand: rounds -/
/-! ### keys of pairs put into a dict -/
def dedup (F : List Str) : List Str := F.foldl (fun ks x => if x ∈ ks then ks else ks ++ [x]) []
theorem dedup_go : ∀ (F ks : List Str), ks.Nodup → (F.foldl (fun ks x => if x ∈ ks then ks else ks ++ [x]) ks).Nodup ∧ ∀ y, y ∈ F.foldl (fun ks x => if x ∈ ks then ks else ks ++ [x]) ks ↔ y ∈ ks ∨ y ∈ F
  | [], ks, h => ⟨h, by simp⟩
  | x :: F, ks, h => by
    rw [List.foldl_cons]
    by_cases hx : x ∈ ks
    · rw [if_pos hx]
      obtain ⟨h1, h2⟩ := dedup_go F ks h
      refine ⟨h1, fun y => ?_⟩
      rw [h2, List.mem_cons]
      constructor
      · rintro (h | h) <;> simp [h]
      · rintro (h | h | h)
        · exact .inl h
        · subst h; exact .inl hx
        · exact .inr h
    · rw [if_neg hx]
      have hn : (ks ++ [x]).Nodup := by
        rw [List.nodup_append]
        refine ⟨h, by simp, fun a ha b hb => ?_⟩
        simp at hb
        subst hb
        exact fun e => hx (e ▸ ha)
      obtain ⟨h1, h2⟩ := dedup_go F (ks ++ [x]) hn
      refine ⟨h1, fun y => ?_⟩
      rw [h2, List.mem_cons]
      simp only [List.mem_append, List.mem_singleton]
      constructor
      · rintro ((h | h) | h) <;> simp [h]
      · rintro (h | h | h) <;> simp [h]
theorem dedup_nd (F : List Str) : (dedup F).Nodup := (dedup_go F [] List.nodup_nil).1
theorem mem_dedup {F : List Str} {y : Str} : y ∈ dedup F ↔ y ∈ F := by
  have := (dedup_go F [] List.nodup_nil).2 y
  unfold dedup
  simpa using this
theorem dset_same (v : D) : ∀ (ks : List Str) (j : Key), dset (ks.map .inr) (ks.map fun _ => v) j v = ks.map fun _ => v
  | [], j => by simp [dset]
  | k :: ks, j => by
    simp only [List.map_cons, dset, dset_same v ks j]
    by_cases h : (Sum.inr k : Key) = j
    · rw [if_pos h]
    · rw [if_neg h]
theorem dput_same (v : D) (ks : List Str) (x : Str) : dput (ks.map .inr) (ks.map fun _ => v) (.inr x) v = ((if x ∈ ks then ks else ks ++ [x]).map .inr, (if x ∈ ks then ks else ks ++ [x]).map fun _ => v) := by
  have ha : ((ks.map (Sum.inr : Str → Key)).any fun k => decide (k = (.inr x : Key))) = decide (x ∈ ks) := by
    induction ks with
    | nil => simp
    | cons a ks ih =>
      rw [List.map_cons, List.any_cons, ih]
      by_cases e : a = x
      · subst e; simp
      · have : x ≠ a := fun h => e h.symm
        simp [e, this]
  unfold dput
  rw [ha]
  by_cases h : x ∈ ks
  · simp only [h, decide_true, if_true, dset_same]
  · simp only [h, decide_false, Bool.false_eq_true, if_false, List.map_append, List.map_cons, List.map_nil]
theorem dmerge_same (v : D) : ∀ (F ks : List Str), dmerge (ks.map .inr) (ks.map fun _ => v) (F.map .inr) (F.map fun _ => v) = ((F.foldl (fun ks x => if x ∈ ks then ks else ks ++ [x]) ks).map .inr, (F.foldl (fun ks x => if x ∈ ks then ks else ks ++ [x]) ks).map fun _ => v)
  | [], ks => by simp [dmerge]
  | x :: F, ks => by
    rw [List.map_cons, List.map_cons, dmerge, dput_same]
    exact dmerge_same v F _
theorem prs_strs (v : D) : ∀ F : List Str, prs (F.map fun x => D.tup [.str x, v]) = some (F.map .inr, F.map fun _ => v)
  | [] => rfl
  | x :: F => by
    rw [List.map_cons]
    simp only [prs, prs_strs v F, keyOf, List.map_cons]
theorem dict_pairs (S : Sto) (v : D) (F : List Str) : b1 .dict false (.lst (F.map fun x => D.tup [.str x, v])) S = .ok (.dct ((dedup F).map .inr) ((dedup F).map fun _ => v)) S := by
  simp only [b1, asM, Option.bind_some, prs_strs, orNo]
  have := dmerge_same v F []
  simp only [List.map_nil] at this
  rw [this]
  rfl
end CP

end
section
set_option maxHeartbeats 4000000
/-! callturn proofs, plain part: whom a sum calls, each once -/
namespace CP
open PySem CT
theorem nd_erase : ∀ (n : Nat) (l : List Str), l.length ≤ n → l.eraseDups.Nodup
  | 0, l, h => by
    have : l = [] := List.length_eq_zero_iff.mp (by omega)
    subst this; simp
  | n + 1, [], _ => by simp
  | n + 1, a :: l, h => by
    rw [List.eraseDups_cons, List.nodup_cons]
    refine ⟨fun hm => ?_, nd_erase n _ (Nat.le_trans (List.length_filter_le _ _) (by simp at h; exact h))⟩
    have := List.mem_eraseDups.mp hm
    simp at this
theorem erase_nd (l : List Str) : l.eraseDups.Nodup := nd_erase l.length l (Nat.le_refl _)
theorem called_same (x : Str) : ∀ s : Sm, x ∈ s.lcalled ↔ x ∈ s.called := by
  intro s
  induction s using Sm.ind with
  | num i => exact Iff.rfl
  | nam y => exact Iff.rfl
  | half a ih => exact ih
  | two w a b iha ihb => simp only [Sm.lcalled, Sm.called, List.mem_append, iha, ihb]
  | ite t a b iht iha ihb => simp only [Sm.lcalled, Sm.called, List.mem_append, iht, iha, ihb]
  | call f as ih =>
    simp only [Sm.lcalled, Sm.called, lcalleds_flat, calleds_flat, List.mem_cons, List.mem_append, List.mem_flatMap, List.not_mem_nil, or_false]
    constructor
    · rintro (h | ⟨a, ha, h⟩)
      · exact .inr h
      · exact .inl ⟨a, ha, (ih a ha).mp h⟩
    · rintro (⟨a, ha, h⟩ | h)
      · exact .inr ⟨a, ha, (ih a ha).mpr h⟩
      · exact .inl h
theorem called_wf {nm : List Str} {cs : List (Str × Nat)} : ∀ s : Sm, s.Wf nm cs → ∀ x ∈ s.called, x ∈ cs.map (·.1) := by
  intro s
  induction s using Sm.ind with
  | num i => intro _ x hx; simp [Sm.called] at hx
  | nam y => intro _ x hx; simp [Sm.called] at hx
  | half a ih => intro h x hx; exact ih h x hx
  | two w a b iha ihb =>
    intro h x hx
    simp only [Sm.called, List.mem_append] at hx
    exact hx.elim (iha h.1 x) (ihb h.2 x)
  | ite t a b iht iha ihb =>
    intro h x hx
    simp only [Sm.called, List.mem_append] at hx
    rcases hx with hx | hx | hx
    · exact iht h.1 x hx
    · exact iha h.2.1 x hx
    · exact ihb h.2.2 x hx
  | call f as ih =>
    intro h x hx
    simp only [Sm.called, calleds_flat, List.mem_append, List.mem_flatMap, List.mem_singleton] at hx
    rcases hx with ⟨a, ha, hx⟩ | rfl
    · exact ih a ha (Wfs_iff.mp h.2 a ha) x hx
    · exact List.mem_map.mpr ⟨_, h.1, rfl⟩
theorem called_few {nm : List Str} {cs : List (Str × Nat)} (hc : ∀ c ∈ cs, c.2 ≤ 4) : ∀ s : Sm, s.Wf nm cs → 3 * s.called.length + 1 ≤ 4 ^ s.dep := by
  have up : ∀ {a b : Nat}, a ≤ b → 4 ^ a ≤ 4 ^ b := fun h => Nat.pow_le_pow_right (by decide) h
  intro s
  induction s using Sm.ind with
  | num i => intro _; simp [Sm.called, Sm.dep]
  | nam x => intro _; simp [Sm.called, Sm.dep]
  | half a ha =>
    intro h
    have := ha h
    simp only [Sm.called, Sm.dep, Nat.pow_succ]; omega
  | two w a b ha hb =>
    intro h
    have h1 := ha h.1
    have h2 := hb h.2
    have h3 : 4 ^ a.dep ≤ 4 ^ (max a.dep b.dep) := up (by omega)
    have h4 : 4 ^ b.dep ≤ 4 ^ (max a.dep b.dep) := up (by omega)
    simp only [Sm.called, Sm.dep, Nat.pow_succ, List.length_append]; omega
  | ite t a b ht ha hb =>
    intro h
    have h0 := ht h.1
    have h1 := ha h.2.1
    have h2 := hb h.2.2
    have h3 : 4 ^ t.dep ≤ 4 ^ (max t.dep (max a.dep b.dep)) := up (by omega)
    have h4 : 4 ^ a.dep ≤ 4 ^ (max t.dep (max a.dep b.dep)) := up (by omega)
    have h5 : 4 ^ b.dep ≤ 4 ^ (max t.dep (max a.dep b.dep)) := up (by omega)
    simp only [Sm.called, Sm.dep, Nat.pow_succ, List.length_append]; omega
  | call f as ih =>
    intro h
    have hl := hc _ h.1
    have key : ∀ (l : List Sm) (N : Nat), (∀ a ∈ l, 3 * a.called.length + 1 ≤ N) → 3 * (calleds l).length + l.length ≤ l.length * N := by
      intro l
      induction l with
      | nil => intro N _; simp [calleds]
      | cons a r ihr =>
        intro N hN
        have h1 := hN a (by simp)
        have h2 := ihr N fun b hb => hN b (by simp [hb])
        simp only [calleds, List.length_append, List.length_cons, Nat.add_mul, Nat.one_mul]; omega
    have h1 := key as (4 ^ deps as) fun a ha => Nat.le_trans (ih a ha (Wfs_iff.mp h.2 a ha)) (up (deps_le.mp (Nat.le_refl _) a ha))
    have hp : 1 ≤ 4 ^ deps as := Nat.one_le_pow _ _ (by decide)
    have h2 : as.length * (4 ^ deps as - 1) ≤ 4 * (4 ^ deps as - 1) := Nat.mul_le_mul_right _ hl
    have h3 : as.length * 4 ^ deps as = as.length * (4 ^ deps as - 1) + as.length := by
      rw [show 4 ^ deps as = (4 ^ deps as - 1) + 1 by omega, Nat.mul_add, Nat.mul_one]
      simp
    simp only [Sm.called, Sm.dep, Nat.pow_succ, List.length_append, List.length_cons, List.length_nil]; omega
/-- whom it calls, each once, rising -/
def Sm.cset (s : Sm) : List Str := sortS s.called.eraseDups
theorem cset_law (s : Sm) : sortS (dedup s.lcalled) = s.cset := sortS_same (dedup_nd _) (erase_nd _) fun x => by rw [mem_dedup, List.mem_eraseDups, called_same]
theorem cset_len {nm : List Str} {cs : List (Str × Nat)} {s : Sm} (h : s.Wf nm cs) : s.called.eraseDups.length ≤ cs.length := by
  have := nodup_sub_len (erase_nd s.called) (U := cs.map (·.1)) fun x hx => called_wf s h x (List.mem_eraseDups.mp hx)
  rwa [List.length_map] at this
structure Ln (nm : List Str) (cs : List (Str × Nat)) (s : Sm) : Prop where
  c4 : ∀ c ∈ cs, c.2 ≤ 4
  cl : cs.length ≤ 8
  wf : s.Wf nm cs
  dp : s.dep ≤ 6
  sz : s.size ≤ 1000000
section
variable {nm : List Str} {cs : List (Str × Nat)} {s : Sm}
theorem Ln.few (h : Ln nm cs s) : s.called.length ≤ 1365 ∧ s.called.eraseDups.length ≤ 8 := by
  have h1 := called_few h.c4 s h.wf
  have p : 4 ^ s.dep ≤ 4 ^ 6 := Nat.pow_le_pow_right (by decide) h.dp
  have : (4 : Nat) ^ 6 = 4096 := by decide
  have h2 := cset_len h.wf
  have := h.cl
  exact ⟨by omega, by omega⟩
/-- sorted(set(called_in(s))) -/
theorem sortset_called (n : Nat) (S : Sto) (h : Ln nm cs s) (hn : 10 ≤ n) (x : E) (e : Ev) (hx : CT.ev (cal prg 4000 n) x e S = .ok s.toD S) : CT.ev (cal prg 4000 n) (.sortset (.call 79 [x])) e S = .ok (.lst (s.cset.map D.str)) S := by
  obtain ⟨h1, h2⟩ := h.few
  have h3 := called_in_ok S s n (by have := h.dp; omega) (by have := h.sz; omega)
  have hd : decide (s.called.length < 4000 ∧ s.called.eraseDups.length < 64) = true := by simp; omega
  rw [ev_sortset]
  have h4 : CT.ev (cal prg 4000 n) (.call 79 [x]) e S = .ok (.tup (s.called.map D.str)) S := by
    simp_all! [hx, h3]
  rw [h4]
  simp only [R.bnd, R.bind, D.tup?, Option.bind_some, strsOf_map, orNq, orNo]
  rw [if_pos hd]
  rfl
theorem lasts_row (n : Nat) (S : Sto) (h : Ln nm cs s) (hn : 12 ≤ n) (x0 x1 x3 : Option D) {md : List D} (hm : md[2]? = some s.toD) : compRow (cbody (cal prg 4000 n) [x0, x1, some (.tup md), x3, none] (.var 4) (.one 4) [(.call 87 [(.sub (.var 2) (.int 2)), (.tup [(.var 4)])])] [4]) (s.cset.map D.str) S = .ok ((s.cset.filter fun f => s.turning [f]).map D.str) S := by
  refine compRow_filter D.str D.str (fun f => s.turning [f]) fun f _ => ?_
  have h1 := turning_ok [f] S s n (by have := h.dp; omega) (by have := h.sz; omega)
  have hs : subs (.tup md) (.int 2) S = .ok s.toD S := by
    rw [s_tup]
    have := at_nat md 2
    have e : at_ md (2 : Int) = some s.toD := by rw [← hm]; exact this
    rw [e]; rfl
  rw [List.map_cons, List.map_nil] at h1
  generalize s.toD = SD at *
  cases c : s.turning [f] <;> rw [c] at h1 <;> simp_all! [cb_ap, hs, h1]
end
theorem filt_name {b : List Mk} (hn : (b.map Mk.name).Nodup) {m : Mk} (hm : m ∈ b) : b.filter (fun k => decide (k.name = m.name)) = [m] := by
  induction b with
  | nil => simp at hm
  | cons a r ih =>
    rw [List.map_cons, List.nodup_cons] at hn
    rcases List.mem_cons.mp hm with rfl | hm'
    · rw [List.filter_cons_of_pos (by simp)]
      congr 1
      rw [List.filter_eq_nil_iff]
      intro k hk e
      simp at e
      exact hn.1 (List.mem_map.mpr ⟨k, hk, e⟩)
    · have : ¬ a.name = m.name := fun e => hn.1 (e ▸ List.mem_map.mpr ⟨m, hm', rfl⟩)
      rw [List.filter_cons_of_neg (by simpa using this)]
      exact ih hn.2 hm'
theorem last_calls_ok (n : Nat) (S : Sto) {b : List Mk} (hbl : b.length ≤ 1000) (hnd : (b.map Mk.name).Nodup) {f : Str} {ns : List Str} {s : Sm} (hm : Mk.fn f ns s ∈ b) {nm : List Str} {cs : List (Str × Nat)} (h : Ln nm cs s) :
    (cal prg 4000 (n + 20)).fn 89 [.tup (b.map Mk.toD), .str f] S = .ok (.tup ((s.cset.filter fun f => s.turning [f]).map D.str)) S := by
  have hrow := compRow_filter (S := S) (f := cbody (cal prg 4000 (n + 19)) [some (.tup (b.map Mk.toD)), some (.str f), none, none, none] (.var 4) (.one 4) [(.cmp .eq (.sub (.var 4) (.int 0)) (.var 1))] [4]) Mk.toD Mk.toD (fun k => decide (k.name = f)) (ps := b) (by
    intro k hk
    obtain ⟨r, hr⟩ := mk_front k
    rw [hr]
    generalize b.map Mk.toD = B at *
    by_cases e : k.name = f
    · have hd : decide (k.name = f) = true := by simpa using e
      simp_all! [cb_ap, hd]
    · have hd : decide (k.name = f) = false := by simpa using e
      simp_all! [cb_ap, hd])
  have hfn := filt_name hnd hm
  have hfn' : b.filter (fun k => decide (k.name = f)) = [.fn f ns s] := hfn
  rw [hfn', List.map_cons, List.map_nil] at hrow
  have hM : (Mk.fn f ns s).toD = .tup [.str f, nmD ns, s.toD] := rfl
  rw [hM] at hrow
  have hss := sortset_called (n + 19) S h (by omega) (.sub (.var 2) (.int 2)) [some (.tup (b.map Mk.toD)), some (.str f), some (.tup [.str f, nmD ns, s.toD]), none, none] (by simp_all! [])
  have hlr := lasts_row (n + 19) S h (by omega) (some (.tup (b.map Mk.toD))) (some (.str f)) (md := [.str f, nmD ns, s.toD]) (some (.lst (s.cset.map D.str))) rfl
  have hfl : ((s.cset.filter fun f => s.turning [f]).map D.str).length ≤ 16777216 := by
    rw [List.length_map]
    have h1 := List.length_filter_le (fun f => s.turning [f]) s.cset
    have h2 := h.few.2
    have h3 : s.cset.length = s.called.eraseDups.length := sortS_len _
    omega
  rw [E_last_calls]
  generalize (s.cset.filter fun f => s.turning [f]).map D.str = FF at *
  generalize s.cset.map D.str = CC at *
  generalize nmD ns = ND at *
  generalize s.toD = SD at *
  generalize b.map Mk.toD = B at *
  simp (dsimp := false) (disch := first | omega | (simp; done) | (simp; omega)) only [ct_nx, ct_rt, ct_ct, ct_ex, rr_ok, rr_ex, oo_some, r_ok, r_ex, o_some, os_some, rs_ok, rs_ex, nx_nx, nx_rt, nx_ct, nx_ex, end_rt, end_nx, end_ex, ev_glo, ev_int, ev_bl, ev_non, ev_str, ev_bin, ev_neg, ev_not, ev_and, ev_or, ev_ite, ev_cmp, ev_chain, ev_call, ev_make, ev_meth, ev_isi, ev_b1, ev_max2, ev_min2, ev_lenset, ev_dictzip, ev_append, ev_extend, ev_pop, ev_get1, ev_get2, ev_join, ev_split, ev_index, ev_count, ev_update, ev_gsub, ev_pop0, ev_attr, ev_sub, ev_sl, ev_slm, ev_tup, ev_lst, ev_dct, ev_fstr, ev_frz, ev_ink, ev_sbk, ev_tidx, ev_dpk, evs_0, evs_1, evA_0, evA_1, evA_2, evO_0, evO_1, evO_2, evP_0, evP_1, evP_2, evF_0, evF_1, ex_expr, ex_set, ex_par, ex_attr, ex_sub, ex_sbk, ex_ret, ex_ite, ex_raise, ex_try, ex_cont, ex_pass, exs_0, exs_1, evq_rev, rv_tup, rv_lst, ↓exq_for, ↓exq_while, fb_ap, wc_ap, wb_ap, cb_ap, ev_v0, ev_v1, ev_v2, ev_v3, ev_v4, ev_v5, ev_v6, ev_v7, ev_v8, ev_v9, ev_v10, ev_v11, ev_v12, ev_v13, ev_v14, ev_v15, ev_v16, ev_v17, ev_v18, ev_v19, ev_v20, ev_v21, ev_v22, ev_v23, ev_v24, ev_v25, isi_non_int, isi_non_str, isi_non_bool, isi_non_tuple, isi_non_list, isi_non_dict, isi_bl_int, isi_bl_str, isi_bl_bool, isi_bl_tuple, isi_bl_list, isi_bl_dict, isi_int_int, isi_int_str, isi_int_bool, isi_int_tuple, isi_int_list, isi_int_dict, isi_str_int, isi_str_str, isi_str_bool, isi_str_tuple, isi_str_list, isi_str_dict, isi_tup_int, isi_tup_str, isi_tup_bool, isi_tup_tuple, isi_tup_list, isi_tup_dict, isi_lst_int, isi_lst_str, isi_lst_bool, isi_lst_tuple, isi_lst_list, isi_lst_dict, isi_dct_int, isi_dct_str, isi_dct_bool, isi_dct_tuple, isi_dct_list, isi_dct_dict, tr_non, tr_bl, tr_int, tr_tup, tr_lst, tr_scr, tr_dct, b_add, b_sub, b_addS, b_addT, b_addL, b_mod, b_fdiv, b_mulL, b_mulR, b_mulT, c_eq_ss, c_ne_ss, c_eq_ii, c_ne_ii, c_eq_si, c_ne_si, c_eq_is, c_ne_is, c_eq_ns, c_ne_ns, c_eq_bs, c_ne_bs, c_eq_ni, c_ne_ni, c_eq_bb, c_ne_bb, c_eq_nn, c_ne_nn, c_lt, c_le, c_gt, c_ge, c_is_non, c_isn_non, c_is_bl, c_isn_bl, c_is_int, c_isn_int, c_is_str, c_isn_str, c_is_tup, c_isn_tup, c_is_lst, c_isn_lst, c_is_dct, c_isn_dct, c_in_ss, c_in_dct, c_nin_dct, c_in_tup, c_nin_tup, c_in_lst, c_nin_lst, s_tup, s_lst, s_dct, of_some, at_0, at_1, at_2, at_3, at_4, at_5, at_6, at_7, at_m1, sl_tup, sl_lst, pt_0, pt_1, l_tup, l_lst, l_dct, l_scr, l_str, tup_lst, tup_tup, lst_tup, lst_lst, all_bs, any_bs, sum_is, all2, all_map, any_map, sum_map, int_i, int_b, w_tup, w_lst, w_str, w_range, w_r3, w_r4, w_r5, w_r6, w_r7, w_r8, w_r9, w_r10, w_r11, w_r12, w_r20, w_r30, w_r40, w_r50, w_r60, ↓fr_cons, it_nx, it_ct, it_rt, it_ex, w_r0, w_r1, w_r2, es_m2, es_m3, es_m4, w_zip, w_enumT, w_enum, ↓cw_row, ↓fw_row, ↓cr_nil, ↓fr_nil, mkL_f, mkD_f, es_one, wp_nil, wp_cons, cal_wf, key_str, key_int, prj1, prj2, gD_some, gD_none, asD_dct, q_int, q_str, q_bl, q_tup, List.map_cons, List.map_nil, List.length_cons, List.length_nil, List.length_map, List.getElem?_cons_zero, List.getElem?_cons_succ, Option.bind_some, List.set_cons_zero, List.set_cons_succ, ↓reduceIte, fits_ok, Bool.false_eq_true, Bool.true_and, Bool.and_true, Bool.false_and, Bool.and_false, Bool.or_false, Bool.false_or, Bool.true_or, Bool.or_true, Bool.not_true, Bool.not_false, decide_true, decide_false, List.isEmpty_cons, List.isEmpty_nil, List.cons_append, List.nil_append, Nat.zero_add, Int.cast_ofNat_Int, Int.natCast_zero, Nat.reduceAdd, Nat.reduceSub, Nat.reduceLT, Nat.reduceLeDiff, Nat.reduceEqDiff, Nat.reduceBEq, Int.reduceLT, Int.reduceLE, Int.reduceEq, Int.reduceNe, Int.reduceBEq, Int.reduceBNe, Int.reduceAdd, Int.reduceSub, Int.reduceNeg, Int.reduceMul, Int.reduceToNat, ofS_inj, String.reduceEq, reduceCtorEq, beq_self_eq_true, ↓evq_compC, f_last_calls, hrow, ↓hss, hlr, fits_ok hfl]
end CP

end
section
set_option maxHeartbeats 4000000
/-! callturn proofs, plain part: law k07 -/
namespace CP
open PySem CT
structure G07 (b : List Mk) : Prop where
  len : b.length ≤ 1000
  nd : (b.map Mk.name).Nodup
  ok : ∀ f ns s, Mk.fn f ns s ∈ b → ∃ nm cs, Ln nm cs s
theorem k07_maker (n : Nat) (S : Sto) {b : List Mk} (h : G07 b) {m : Mk} (hm : m ∈ b) (x0 x1 x2 x4 x5 x6 x7 x8 : Option D) :
    ∃ y6 y7, fbody (cal prg 4000 (n + 40)) (.one 4) f_law_k07_L1 m.toD [x0, x1, x2, some (.tup (b.map Mk.toD)), x4, x5, x6, x7, x8] S = .nx [x0, x1, x2, some (.tup (b.map Mk.toD)), some m.toD, x5, y6, y7, x8] S := by
  cases m with
  | lp f ns kp t =>
    refine ⟨x6, x7, ?_⟩
    have hM : (Mk.lp f ns kp t).toD = .tup [.str f, nmD ns, .tup (kp.map ktD), t.toD] := rfl
    rw [hM]
    generalize nmD ns = ND at *
    generalize kp.map ktD = KP at *
    generalize t.toD = TT at *
    generalize b.map Mk.toD = B at *
    simp_all! [fb_ap, f_law_k07_L1]
  | fn f ns s =>
    obtain ⟨nm, cs, hL⟩ := h.ok f ns s hm
    have hlc := last_calls_ok (n + 20) S h.len h.nd hm hL
    have hdp := hL.dp
    have hsz := hL.sz
    obtain ⟨hf1, hf2⟩ := hL.few
    have hca : (cal prg 4000 (n + 40)).fn 83 [s.toD] S = .ok (.lst (s.lcalled.map D.str)) S := law_called_ok s (n + 40) S (by omega) (by omega)
    have hll := s.lcalled_len
    have hpairs : ∀ (x4 x6 : Option D), compRow (cbody (cal prg 4000 (n + 40)) [x0, x1, x2, some (.tup (b.map Mk.toD)), x4, x5, x6, x7, x8] (.tup [(.var 8), (.int 0)]) (.one 8) [] [8]) (s.lcalled.map D.str) S = .ok (s.lcalled.map fun x => D.tup [.str x, .int 0]) S := fun x4 x6 =>
      compRow_map _ _ fun p hp => by simp_all! [cb_ap]
    have hfr : (s.lcalled.map fun x => D.tup [.str x, .int 0]).length ≤ 16777216 := by rw [List.length_map]; omega
    have hdp2 := dict_pairs S (.int 0) s.lcalled
    have hcl : s.cset.length ≤ 8 := by
      have : s.cset.length = s.called.eraseDups.length := sortS_len _
      omega
    have hso : b1 .sorted false (.dct ((dedup s.lcalled).map .inr) ((dedup s.lcalled).map fun _ => .int 0)) S = .ok (.lst (s.cset.map D.str)) S := by
      rw [sorted_keys S (dedup s.lcalled) ((dedup s.lcalled).map fun _ => .int 0) _ rfl (by
        have : (sortS (dedup s.lcalled)).length = (dedup s.lcalled).length := sortS_len _
        rw [cset_law] at this
        omega), cset_law]
    have hrow := compRow_filter (S := S) (f := cbody (cal prg 4000 (n + 40)) [x0, x1, x2, some (.tup (b.map Mk.toD)), some (.tup [.str f, nmD ns, s.toD]), x5, some (.lst (s.cset.map D.str)), x7, x8] (.var 8) (.one 8) [(.call 90 [(.sub (.var 4) (.int 2)), (.lst false [(.var 8)])])] [8]) D.str D.str (fun f => s.turning [f]) (ps := s.cset) (by
      intro y _
      have h1 := all_last_ok [y] S s (n + 40) (by omega) (by omega)
      rw [List.map_cons, List.map_nil] at h1
      generalize s.toD = SD at *
      generalize nmD ns = ND at *
      generalize b.map Mk.toD = B at *
      generalize s.cset.map D.str = CC at *
      cases c : s.turning [y] <;> rw [c] at h1 <;> simp_all! [cb_ap, h1])
    have hfl : ((s.cset.filter fun f => s.turning [f]).map D.str).length ≤ 16777216 := by
      rw [List.length_map]
      have h1 := List.length_filter_le (fun f => s.turning [f]) s.cset
      omega
    have hsm := same_ok S 1 (.tup ((s.cset.filter fun f => s.turning [f]).map D.str)) (n + 40) (by omega) (Pt.mk (n := 0) hfl fun d hd => by
      obtain ⟨x, _, rfl⟩ := List.mem_map.mp hd
      unfold Pt; trivial)
    have hM : (Mk.fn f ns s).toD = .tup [.str f, nmD ns, s.toD] := rfl
    rw [hM]
    refine ⟨some (.lst (s.cset.map D.str)), some (.tup ((s.cset.filter fun f => s.turning [f]).map D.str)), ?_⟩
    generalize (s.cset.filter fun f => s.turning [f]).map D.str = FF at *
    generalize s.cset.map D.str = CC at *
    generalize D.dct ((dedup s.lcalled).map .inr) ((dedup s.lcalled).map fun _ => .int 0) = DD at *
    generalize (s.lcalled.map fun x => D.tup [.str x, .int 0]) = LP at *
    generalize s.lcalled.map D.str = LC at *
    generalize nmD ns = ND at *
    generalize s.toD = SD at *
    generalize b.map Mk.toD = B at *
    simp (dsimp := false) (disch := first | omega | (simp; done) | (simp; omega)) only [ct_nx, ct_rt, ct_ct, ct_ex, rr_ok, rr_ex, oo_some, r_ok, r_ex, o_some, os_some, rs_ok, rs_ex, nx_nx, nx_rt, nx_ct, nx_ex, end_rt, end_nx, end_ex, ev_glo, ev_int, ev_bl, ev_non, ev_str, ev_bin, ev_neg, ev_not, ev_and, ev_or, ev_ite, ev_cmp, ev_chain, ev_call, ev_make, ev_meth, ev_isi, ev_b1, ev_max2, ev_min2, ev_lenset, ev_sortset, ev_dictzip, ev_append, ev_extend, ev_pop, ev_get1, ev_get2, ev_join, ev_split, ev_index, ev_count, ev_update, ev_gsub, ev_pop0, ev_attr, ev_sub, ev_sl, ev_slm, ev_tup, ev_lst, ev_dct, ev_fstr, ev_frz, ev_ink, ev_sbk, ev_tidx, ev_dpk, evs_0, evs_1, evA_0, evA_1, evA_2, evO_0, evO_1, evO_2, evP_0, evP_1, evP_2, evF_0, evF_1, ex_expr, ex_set, ex_par, ex_attr, ex_sub, ex_sbk, ex_ret, ex_ite, ex_raise, ex_try, ex_cont, ex_pass, exs_0, exs_1, evq_rev, rv_tup, rv_lst, ↓exq_for, ↓exq_while, fb_ap, wc_ap, wb_ap, cb_ap, ev_v0, ev_v1, ev_v2, ev_v3, ev_v4, ev_v5, ev_v6, ev_v7, ev_v8, ev_v9, ev_v10, ev_v11, ev_v12, ev_v13, ev_v14, ev_v15, ev_v16, ev_v17, ev_v18, ev_v19, ev_v20, ev_v21, ev_v22, ev_v23, ev_v24, ev_v25, isi_non_int, isi_non_str, isi_non_bool, isi_non_tuple, isi_non_list, isi_non_dict, isi_bl_int, isi_bl_str, isi_bl_bool, isi_bl_tuple, isi_bl_list, isi_bl_dict, isi_int_int, isi_int_str, isi_int_bool, isi_int_tuple, isi_int_list, isi_int_dict, isi_str_int, isi_str_str, isi_str_bool, isi_str_tuple, isi_str_list, isi_str_dict, isi_tup_int, isi_tup_str, isi_tup_bool, isi_tup_tuple, isi_tup_list, isi_tup_dict, isi_lst_int, isi_lst_str, isi_lst_bool, isi_lst_tuple, isi_lst_list, isi_lst_dict, isi_dct_int, isi_dct_str, isi_dct_bool, isi_dct_tuple, isi_dct_list, isi_dct_dict, tr_non, tr_bl, tr_int, tr_tup, tr_lst, tr_scr, tr_dct, b_add, b_sub, b_addS, b_addT, b_addL, b_mod, b_fdiv, b_mulL, b_mulR, b_mulT, c_eq_ss, c_ne_ss, c_eq_ii, c_ne_ii, c_eq_si, c_ne_si, c_eq_is, c_ne_is, c_eq_ns, c_ne_ns, c_eq_bs, c_ne_bs, c_eq_ni, c_ne_ni, c_eq_bb, c_ne_bb, c_eq_nn, c_ne_nn, c_lt, c_le, c_gt, c_ge, c_is_non, c_isn_non, c_is_bl, c_isn_bl, c_is_int, c_isn_int, c_is_str, c_isn_str, c_is_tup, c_isn_tup, c_is_lst, c_isn_lst, c_is_dct, c_isn_dct, c_in_ss, c_in_dct, c_nin_dct, c_in_tup, c_nin_tup, c_in_lst, c_nin_lst, s_tup, s_lst, s_dct, of_some, at_0, at_1, at_2, at_3, at_4, at_5, at_6, at_7, at_m1, sl_tup, sl_lst, pt_0, pt_1, l_tup, l_lst, l_dct, l_scr, l_str, tup_lst, tup_tup, lst_tup, lst_lst, all_bs, any_bs, sum_is, all2, all_map, any_map, sum_map, int_i, int_b, w_tup, w_lst, w_str, w_range, w_r3, w_r4, w_r5, w_r6, w_r7, w_r8, w_r9, w_r10, w_r11, w_r12, w_r20, w_r30, w_r40, w_r50, w_r60, ↓fr_cons, it_nx, it_ct, it_rt, it_ex, w_r0, w_r1, w_r2, es_m2, es_m3, es_m4, w_zip, w_enumT, w_enum, ↓cw_row, ↓fw_row, ↓cr_nil, ↓fr_nil, mkL_f, mkD_f, es_one, wp_nil, wp_cons, cal_wf, key_str, key_int, prj1, prj2, gD_some, gD_none, asD_dct, q_int, q_str, q_bl, q_tup, List.map_nil, List.length_cons, List.length_nil, List.length_map, List.getElem?_cons_zero, List.getElem?_cons_succ, Option.bind_some, List.set_cons_zero, List.set_cons_succ, ↓reduceIte, fits_ok, Bool.false_eq_true, Bool.true_and, Bool.and_true, Bool.false_and, Bool.and_false, Bool.or_false, Bool.false_or, Bool.true_or, Bool.or_true, Bool.not_true, Bool.not_false, decide_true, decide_false, List.isEmpty_cons, List.isEmpty_nil, List.cons_append, List.nil_append, Nat.zero_add, Int.cast_ofNat_Int, Int.natCast_zero, Nat.reduceAdd, Nat.reduceSub, Nat.reduceLT, Nat.reduceLeDiff, Nat.reduceEqDiff, Nat.reduceBEq, Int.reduceLT, Int.reduceLE, Int.reduceEq, Int.reduceNe, Int.reduceBEq, Int.reduceBNe, Int.reduceAdd, Int.reduceSub, Int.reduceNeg, Int.reduceMul, Int.reduceToNat, ofS_inj, String.reduceEq, reduceCtorEq, beq_self_eq_true, ↓evq_compC, fb_ap, f_law_k07_L1, hca, hpairs, fits_ok hfr, hdp2, hso, hrow, fits_ok hfl, hlc, hsm]
theorem k07_makers (n : Nat) (S : Sto) {b : List Mk} (h : G07 b) (x0 x1 x2 x5 x8 : Option D) : ∀ (l : List Mk) (x4 x6 x7 : Option D), (∀ m ∈ l, m ∈ b) →
    ∃ y4 y6 y7, forRow (fbody (cal prg 4000 (n + 40)) (.one 4) f_law_k07_L1) (l.map Mk.toD) [x0, x1, x2, some (.tup (b.map Mk.toD)), x4, x5, x6, x7, x8] S = .nx [x0, x1, x2, some (.tup (b.map Mk.toD)), y4, x5, y6, y7, x8] S
  | [], x4, x6, x7, _ => ⟨x4, x6, x7, rfl⟩
  | m :: l, x4, x6, x7, hl => by
    obtain ⟨z6, z7, e1⟩ := k07_maker n S h (hl m (by simp)) x0 x1 x2 x4 x5 x6 x7 x8
    obtain ⟨y4, y6, y7, e⟩ := k07_makers n S h x0 x1 x2 x5 x8 l (some m.toD) z6 z7 fun q hq => hl q (by simp [hq])
    refine ⟨y4, y6, y7, ?_⟩
    rw [List.map_cons, forRow_cons, e1]
    exact e
theorem Bk.g07 {b : List Mk} (h : Bk 4 b) : G07 b := by
  refine ⟨by have := h.len; omega, h.lb.nd, fun f ns s hm => ⟨ns, _, ?_, ?_, (h.wf _ hm).2.2, ?_, ?_⟩⟩
  · intro c hc
    obtain ⟨m, hm, rfl⟩ := List.mem_map.mp hc
    have hg := h.gen m hm
    cases m with
    | fn f ns s => obtain ⟨⟨i, hi, rfl⟩, _⟩ := hg; simp [Mk.names]; omega
    | lp f ns k t => obtain ⟨⟨i, hi, rfl⟩, _⟩ := hg; simp [Mk.names]; omega
  · rw [List.length_map]; have := h.len; omega
  · have := (h.gen _ hm).2; omega
  · have := (h.lb.ok f ns s hm).2; omega
theorem tail_g07 {body q : Sm} (hb : body.Wf nm2 [("f", 2), ("g", 1), ("g", 1)]) (hd : body.dep ≤ 5) (hq : q.Wf ["x"] [("f", 2)]) (hqd : q.dep ≤ 2) : G07 [.fn "f" nm2 body, .fn "g" ["x"] q] := by
  refine ⟨by simp, by show (["f", "g"] : List Str).Nodup; decide +kernel, fun f ns s hm => ?_⟩
  simp only [List.mem_cons, List.not_mem_nil, or_false] at hm
  rcases hm with e | e
  · injection e with _ _ e
    subst e
    have h1 := Sm.size_le (cs := [("f", 2), ("g", 1), ("g", 1)]) (by decide) s hb
    have p : 5 ^ s.dep ≤ 5 ^ 5 := Nat.pow_le_pow_right (by decide) hd
    have : (5 : Nat) ^ 5 = 3125 := by decide
    exact ⟨nm2, _, by decide, by simp, hb, by omega, by omega⟩
  · injection e with _ _ e
    subst e
    have h1 := Sm.size_le (cs := [("f", 2)]) (by decide) s hq
    have p : 5 ^ s.dep ≤ 5 ^ 2 := Nat.pow_le_pow_right (by decide) hqd
    exact ⟨["x"], _, by decide, by simp, hq, by omega, by omega⟩
def C07 : Nat := bb 4 + btl 3 + bs 2 + 10
theorem k07_outer (n : Nat) (ns : List Int) (i k : Nat) (hk : k + C07 ≤ 16777216) (x2 x3 x4 x5 x6 x7 x8 : Option D) :
    ∃ y3 y4 y5 y6 y7 k', fbody (cal prg 4000 (n + 50)) (.one 2) f_law_k07_L2 (.int (i : Nat)) [some (.scr ns), some (.loc 0), x2, x3, x4, x5, x6, x7, x8] (tw S00 0 k) = .nx [some (.scr ns), some (.loc 0), some (.int (i : Nat)), y3, y4, y5, y6, y7, x8] (tw S00 0 k') ∧ k' ≤ k + C07 := by
  unfold C07 at *
  obtain ⟨b, k1, e1, l1, l2, hB⟩ := book_ok ns (S := S00) (t := 0) (by decide) (n + 50) k (by omega) (by omega)
  have e1' : (cal prg 4000 (n + 50)).fn 16 [.scr ns, .loc 0] (tw S00 0 k) = .ok (.tup (b.map Mk.toD)) (tw S00 0 k1) := e1
  by_cases c : (i : Int) < 5
  · have hcs : ∃ cs : List (Str × Nat), (∀ c ∈ cs, c = (("g" : Str), 1)) ∧ cut [D.tup [.str "g", .int 1]] none (some ((i : Int) % 2)) = cs.map fun c => .tup [.str c.1, .int (c.2 : Nat)] := by
      have : (i : Int) % 2 = 0 ∨ (i : Int) % 2 = 1 := by omega
      rcases this with e | e
      · exact ⟨[], by simp, by rw [e]; rfl⟩
      · exact ⟨[("g", 1)], by simp, by rw [e]; rfl⟩
    obtain ⟨cs, hg, hcut⟩ := hcs
    obtain ⟨s, k2, e2, l3, l4, hw, hd⟩ := tail_ok ns [("f", 2), ("g", 1)] cs (S := S00) (t := 0) (by decide) (by simp) (by decide) (fun c hc => by rw [hg c hc]; decide) 3 (n + 50) k1 (by omega) (by omega)
    obtain ⟨q, k3, e3, l5, l6, hqw, hqd⟩ := sum_ok ns ["x"] [("f", 2)] (S := S00) (t := 0) (by decide) (by simp) (by decide) 2 (n + 50) k2 (by omega) (by omega)
    have e2' : (cal prg 4000 (n + 50)).fn 91 [.scr ns, .loc 0, .tup [.str "n", .str "m"], .lst [.tup [.str "f", .int 2], .tup [.str "g", .int 1]], .lst (cs.map fun c => .tup [.str c.1, .int (c.2 : Nat)]), .int 3] (tw S00 0 k1) = .ok s.toD (tw S00 0 k2) := e2
    have e3' : (cal prg 4000 (n + 50)).fn 13 [.scr ns, .loc 0, .tup [.str "x"], .lst [.tup [.str "f", .int 2]], .int 2] (tw S00 0 k2) = .ok q.toD (tw S00 0 k3) := e3
    have hsw : s.Wf nm2 [("f", 2), ("g", 1), ("g", 1)] := Sm.Wf.mono (fun c hc => by
      rcases List.mem_append.mp hc with hc | hc
      · simp at hc; rcases hc with rfl | rfl <;> simp
      · rw [hg c hc]; simp) hw
    have hG := tail_g07 hsw hd hqw hqd
    obtain ⟨y4, y6, y7, hr⟩ := k07_makers (n + 10) (tw S00 0 k3) hG (some (.scr ns)) (some (.loc 0)) (some (.int (i : Nat))) (some s.toD) x8 [.fn "f" nm2 s, .fn "g" ["x"] q] x4 x6 x7 fun m hm => hm
    have hr' : forRow (fbody (cal prg 4000 (n + 50)) (.one 4) f_law_k07_L1) [.tup [.str "f", .tup [.str "n", .str "m"], s.toD], .tup [.str "g", .tup [.str "x"], q.toD]] [some (.scr ns), some (.loc 0), some (.int (i : Nat)), some (.tup [.tup [.str "f", .tup [.str "n", .str "m"], s.toD], .tup [.str "g", .tup [.str "x"], q.toD]]), x4, some s.toD, x6, x7, x8] (tw S00 0 k3) = .nx [some (.scr ns), some (.loc 0), some (.int (i : Nat)), some (.tup [.tup [.str "f", .tup [.str "n", .str "m"], s.toD], .tup [.str "g", .tup [.str "x"], q.toD]]), y4, some s.toD, y6, y7, x8] (tw S00 0 k3) := hr
    refine ⟨some (.tup [.tup [.str "f", .tup [.str "n", .str "m"], s.toD], .tup [.str "g", .tup [.str "x"], q.toD]]), y4, some s.toD, y6, y7, k3, ?_, by omega⟩
    generalize s.toD = SD at *
    generalize q.toD = QD at *
    generalize b.map Mk.toD = B at *
    generalize (cs.map fun c => D.tup [.str c.1, .int (c.2 : Nat)]) = CS at *
    simp (dsimp := false) (disch := first | omega | (simp; done) | (simp; omega)) only [ct_nx, ct_rt, ct_ct, ct_ex, rr_ok, rr_ex, oo_some, r_ok, r_ex, o_some, os_some, rs_ok, rs_ex, nx_nx, nx_rt, nx_ct, nx_ex, end_rt, end_nx, end_ex, ev_glo, ev_int, ev_bl, ev_non, ev_str, ev_bin, ev_neg, ev_not, ev_and, ev_or, ev_ite, ev_cmp, ev_chain, ev_call, ev_make, ev_meth, ev_isi, ev_b1, ev_max2, ev_min2, ev_lenset, ev_sortset, ev_dictzip, ev_append, ev_extend, ev_pop, ev_get1, ev_get2, ev_join, ev_split, ev_index, ev_count, ev_update, ev_gsub, ev_pop0, ev_attr, ev_sub, ev_sl, ev_slm, ev_tup, ev_lst, ev_dct, ev_fstr, ev_frz, ev_ink, ev_sbk, ev_tidx, ev_dpk, evs_0, evs_1, evA_0, evA_1, evA_2, evO_0, evO_1, evO_2, evP_0, evP_1, evP_2, evF_0, evF_1, ex_expr, ex_set, ex_par, ex_attr, ex_sub, ex_sbk, ex_ret, ex_ite, ex_raise, ex_try, ex_cont, ex_pass, exs_0, exs_1, evq_rev, ↓evq_comp, rv_tup, rv_lst, ↓exq_for, ↓exq_while, fb_ap, wc_ap, wb_ap, cb_ap, ev_v0, ev_v1, ev_v2, ev_v3, ev_v4, ev_v5, ev_v6, ev_v7, ev_v8, ev_v9, ev_v10, ev_v11, ev_v12, ev_v13, ev_v14, ev_v15, ev_v16, ev_v17, ev_v18, ev_v19, ev_v20, ev_v21, ev_v22, ev_v23, ev_v24, ev_v25, isi_non_int, isi_non_str, isi_non_bool, isi_non_tuple, isi_non_list, isi_non_dict, isi_bl_int, isi_bl_str, isi_bl_bool, isi_bl_tuple, isi_bl_list, isi_bl_dict, isi_int_int, isi_int_str, isi_int_bool, isi_int_tuple, isi_int_list, isi_int_dict, isi_str_int, isi_str_str, isi_str_bool, isi_str_tuple, isi_str_list, isi_str_dict, isi_tup_int, isi_tup_str, isi_tup_bool, isi_tup_tuple, isi_tup_list, isi_tup_dict, isi_lst_int, isi_lst_str, isi_lst_bool, isi_lst_tuple, isi_lst_list, isi_lst_dict, isi_dct_int, isi_dct_str, isi_dct_bool, isi_dct_tuple, isi_dct_list, isi_dct_dict, tr_non, tr_bl, tr_int, tr_tup, tr_lst, tr_scr, tr_dct, b_add, b_sub, b_addS, b_addT, b_addL, b_mod, b_fdiv, b_mulL, b_mulR, b_mulT, c_eq_ss, c_ne_ss, c_eq_ii, c_ne_ii, c_eq_si, c_ne_si, c_eq_is, c_ne_is, c_eq_ns, c_ne_ns, c_eq_bs, c_ne_bs, c_eq_ni, c_ne_ni, c_eq_bb, c_ne_bb, c_eq_nn, c_ne_nn, c_lt, c_le, c_gt, c_ge, c_is_non, c_isn_non, c_is_bl, c_isn_bl, c_is_int, c_isn_int, c_is_str, c_isn_str, c_is_tup, c_isn_tup, c_is_lst, c_isn_lst, c_is_dct, c_isn_dct, c_in_ss, c_in_dct, c_nin_dct, c_in_tup, c_nin_tup, c_in_lst, c_nin_lst, s_tup, s_lst, s_dct, of_some, at_0, at_1, at_2, at_3, at_4, at_5, at_6, at_7, at_m1, sl_tup, sl_lst, pt_0, pt_1, l_tup, l_lst, l_dct, l_scr, l_str, tup_lst, tup_tup, lst_tup, lst_lst, all_bs, any_bs, sum_is, all2, all_map, any_map, sum_map, int_i, int_b, w_tup, w_lst, w_str, w_range, w_r3, w_r4, w_r5, w_r6, w_r7, w_r8, w_r9, w_r10, w_r11, w_r12, w_r20, w_r30, w_r40, w_r50, w_r60, it_nx, it_ct, it_rt, it_ex, w_r0, w_r1, w_r2, es_m2, es_m3, es_m4, w_zip, w_enumT, w_enum, ↓cw_row, ↓fw_row, ↓cr_nil, ↓cr_cons, ↓fr_nil, mkL_f, mkD_f, es_one, wp_nil, wp_cons, cal_wf, key_str, key_int, prj1, prj2, gD_some, gD_none, asD_dct, q_int, q_str, q_bl, q_tup, List.map_cons, List.map_nil, List.length_cons, List.length_nil, List.length_map, List.getElem?_cons_zero, List.getElem?_cons_succ, Option.bind_some, List.set_cons_zero, List.set_cons_succ, ↓reduceIte, fits_ok, Bool.false_eq_true, Bool.true_and, Bool.and_true, Bool.false_and, Bool.and_false, Bool.or_false, Bool.false_or, Bool.true_or, Bool.or_true, Bool.not_true, Bool.not_false, decide_true, decide_false, List.isEmpty_cons, List.isEmpty_nil, List.cons_append, List.nil_append, Nat.zero_add, Int.cast_ofNat_Int, Int.natCast_zero, Nat.reduceAdd, Nat.reduceSub, Nat.reduceLT, Nat.reduceLeDiff, Nat.reduceEqDiff, Nat.reduceBEq, Int.reduceLT, Int.reduceLE, Int.reduceEq, Int.reduceNe, Int.reduceBEq, Int.reduceBNe, Int.reduceAdd, Int.reduceSub, Int.reduceNeg, Int.reduceMul, Int.reduceToNat, ofS_inj, String.reduceEq, reduceCtorEq, beq_self_eq_true, fb_ap, f_law_k07_L2, e1', c, hcut, e2', e3', ↓hr']
  · obtain ⟨y4, y6, y7, hr⟩ := k07_makers (n + 10) (tw S00 0 k1) hB.g07 (some (.scr ns)) (some (.loc 0)) (some (.int (i : Nat))) x5 x8 b x4 x6 x7 fun m hm => hm
    refine ⟨some (.tup (b.map Mk.toD)), y4, x5, y6, y7, k1, ?_, by omega⟩
    generalize b.map Mk.toD = B at *
    simp (dsimp := false) (disch := first | omega | (simp; done) | (simp; omega)) only [ct_nx, ct_rt, ct_ct, ct_ex, rr_ok, rr_ex, oo_some, r_ok, r_ex, o_some, os_some, rs_ok, rs_ex, nx_nx, nx_rt, nx_ct, nx_ex, end_rt, end_nx, end_ex, ev_glo, ev_int, ev_bl, ev_non, ev_str, ev_bin, ev_neg, ev_not, ev_and, ev_or, ev_ite, ev_cmp, ev_chain, ev_call, ev_make, ev_meth, ev_isi, ev_b1, ev_max2, ev_min2, ev_lenset, ev_sortset, ev_dictzip, ev_append, ev_extend, ev_pop, ev_get1, ev_get2, ev_join, ev_split, ev_index, ev_count, ev_update, ev_gsub, ev_pop0, ev_attr, ev_sub, ev_sl, ev_slm, ev_tup, ev_lst, ev_dct, ev_fstr, ev_frz, ev_ink, ev_sbk, ev_tidx, ev_dpk, evs_0, evs_1, evA_0, evA_1, evA_2, evO_0, evO_1, evO_2, evP_0, evP_1, evP_2, evF_0, evF_1, ex_expr, ex_set, ex_par, ex_attr, ex_sub, ex_sbk, ex_ret, ex_ite, ex_raise, ex_try, ex_cont, ex_pass, exs_0, exs_1, evq_rev, ↓evq_comp, rv_tup, rv_lst, ↓exq_for, ↓exq_while, fb_ap, wc_ap, wb_ap, cb_ap, ev_v0, ev_v1, ev_v2, ev_v3, ev_v4, ev_v5, ev_v6, ev_v7, ev_v8, ev_v9, ev_v10, ev_v11, ev_v12, ev_v13, ev_v14, ev_v15, ev_v16, ev_v17, ev_v18, ev_v19, ev_v20, ev_v21, ev_v22, ev_v23, ev_v24, ev_v25, isi_non_int, isi_non_str, isi_non_bool, isi_non_tuple, isi_non_list, isi_non_dict, isi_bl_int, isi_bl_str, isi_bl_bool, isi_bl_tuple, isi_bl_list, isi_bl_dict, isi_int_int, isi_int_str, isi_int_bool, isi_int_tuple, isi_int_list, isi_int_dict, isi_str_int, isi_str_str, isi_str_bool, isi_str_tuple, isi_str_list, isi_str_dict, isi_tup_int, isi_tup_str, isi_tup_bool, isi_tup_tuple, isi_tup_list, isi_tup_dict, isi_lst_int, isi_lst_str, isi_lst_bool, isi_lst_tuple, isi_lst_list, isi_lst_dict, isi_dct_int, isi_dct_str, isi_dct_bool, isi_dct_tuple, isi_dct_list, isi_dct_dict, tr_non, tr_bl, tr_int, tr_tup, tr_lst, tr_scr, tr_dct, b_add, b_sub, b_addS, b_addT, b_addL, b_mod, b_fdiv, b_mulL, b_mulR, b_mulT, c_eq_ss, c_ne_ss, c_eq_ii, c_ne_ii, c_eq_si, c_ne_si, c_eq_is, c_ne_is, c_eq_ns, c_ne_ns, c_eq_bs, c_ne_bs, c_eq_ni, c_ne_ni, c_eq_bb, c_ne_bb, c_eq_nn, c_ne_nn, c_lt, c_le, c_gt, c_ge, c_is_non, c_isn_non, c_is_bl, c_isn_bl, c_is_int, c_isn_int, c_is_str, c_isn_str, c_is_tup, c_isn_tup, c_is_lst, c_isn_lst, c_is_dct, c_isn_dct, c_in_ss, c_in_dct, c_nin_dct, c_in_tup, c_nin_tup, c_in_lst, c_nin_lst, s_tup, s_lst, s_dct, of_some, at_0, at_1, at_2, at_3, at_4, at_5, at_6, at_7, at_m1, sl_tup, sl_lst, pt_0, pt_1, l_tup, l_lst, l_dct, l_scr, l_str, tup_lst, tup_tup, lst_tup, lst_lst, all_bs, any_bs, sum_is, all2, all_map, any_map, sum_map, int_i, int_b, w_tup, w_lst, w_str, w_range, w_r3, w_r4, w_r5, w_r6, w_r7, w_r8, w_r9, w_r10, w_r11, w_r12, w_r20, w_r30, w_r40, w_r50, w_r60, it_nx, it_ct, it_rt, it_ex, w_r0, w_r1, w_r2, es_m2, es_m3, es_m4, w_zip, w_enumT, w_enum, ↓cw_row, ↓fw_row, ↓cr_nil, ↓cr_cons, ↓fr_nil, mkL_f, mkD_f, es_one, wp_nil, wp_cons, cal_wf, key_str, key_int, prj1, prj2, gD_some, gD_none, asD_dct, q_int, q_str, q_bl, q_tup, List.map_cons, List.map_nil, List.length_cons, List.length_nil, List.length_map, List.getElem?_cons_zero, List.getElem?_cons_succ, Option.bind_some, List.set_cons_zero, List.set_cons_succ, ↓reduceIte, fits_ok, Bool.false_eq_true, Bool.true_and, Bool.and_true, Bool.false_and, Bool.and_false, Bool.or_false, Bool.false_or, Bool.true_or, Bool.or_true, Bool.not_true, Bool.not_false, decide_true, decide_false, List.isEmpty_cons, List.isEmpty_nil, List.cons_append, List.nil_append, Nat.zero_add, Int.cast_ofNat_Int, Int.natCast_zero, Nat.reduceAdd, Nat.reduceSub, Nat.reduceLT, Nat.reduceLeDiff, Nat.reduceEqDiff, Nat.reduceBEq, Int.reduceLT, Int.reduceLE, Int.reduceEq, Int.reduceNe, Int.reduceBEq, Int.reduceBNe, Int.reduceAdd, Int.reduceSub, Int.reduceNeg, Int.reduceMul, Int.reduceToNat, ofS_inj, String.reduceEq, reduceCtorEq, beq_self_eq_true, fb_ap, f_law_k07_L2, e1', c, ↓hr]
theorem C07_le : C07 ≤ 400000 := by decide
theorem plain_k07 (ns : List Int) : ∃ S', (cal prg 4000 60).fn 92 [.scr ns] [] = .ok (.bl true) S' := by
  rw [show (60 : Nat) = 59 + 1 from rfl, E_law_k07]
  have hS : (([] : Sto) ++ [.lst []]) = tw S00 0 0 := rfl
  have hC := C07_le
  obtain ⟨e1, S1, h1, ⟨x2, x3, x4, x5, x6, x7, k, rfl, rfl, hk⟩⟩ := forRow_inv (f := fbody (cal prg 4000 59) (.one 2) f_law_k07_L2)
    (fun j e S => ∃ x2 x3 x4 x5 x6 x7 k, e = [some (.scr ns), some (.loc 0), x2, x3, x4, x5, x6, x7, none] ∧ S = tw S00 0 k ∧ k ≤ j * C07) 10 ((List.range 10).map fun (i : Nat) => D.int i) 0 [some (.scr ns), some (.loc 0), none, none, none, none, none, none, none] (tw S00 0 0) (by simp) ⟨none, none, none, none, none, none, 0, rfl, rfl, by omega⟩ (by
      rintro j d e S hd hj ⟨x2, x3, x4, x5, x6, x7, k, rfl, rfl, hk⟩
      obtain ⟨i, _, rfl⟩ := List.mem_map.mp hd
      have hj5 : j * C07 ≤ 9 * C07 := Nat.mul_le_mul_right _ (by omega)
      obtain ⟨y3, y4, y5, y6, y7, k', h, hk'⟩ := k07_outer 9 ns i k (by omega) x2 x3 x4 x5 x6 x7 none
      exact ⟨_, _, h, _, y3, y4, y5, y6, y7, k', rfl, rfl, by rw [Nat.add_mul]; omega⟩)
  refine ⟨tw S00 0 k, ?_⟩
  simp (dsimp := false) (disch := first | omega | (simp; done) | (simp; omega)) only [ct_nx, ct_rt, ct_ct, ct_ex, rr_ok, rr_ex, oo_some, r_ok, r_ex, o_some, os_some, rs_ok, rs_ex, nx_nx, nx_rt, nx_ct, nx_ex, end_rt, end_nx, end_ex, ev_glo, ev_int, ev_bl, ev_non, ev_str, ev_bin, ev_neg, ev_not, ev_and, ev_or, ev_ite, ev_cmp, ev_chain, ev_call, ev_make, ev_meth, ev_isi, ev_b1, ev_max2, ev_min2, ev_lenset, ev_sortset, ev_dictzip, ev_append, ev_extend, ev_pop, ev_get1, ev_get2, ev_join, ev_split, ev_index, ev_count, ev_update, ev_gsub, ev_pop0, ev_attr, ev_sub, ev_sl, ev_slm, ev_tup, ev_lst, ev_dct, ev_fstr, ev_frz, ev_ink, ev_sbk, ev_tidx, ev_dpk, evs_0, evs_1, evA_0, evA_1, evA_2, evO_0, evO_1, evO_2, evP_0, evP_1, evP_2, evF_0, evF_1, ex_expr, ex_set, ex_par, ex_attr, ex_sub, ex_sbk, ex_ret, ex_ite, ex_raise, ex_try, ex_cont, ex_pass, exs_0, exs_1, evq_rev, ↓evq_comp, rv_tup, rv_lst, ↓exq_for, ↓exq_while, fb_ap, wc_ap, wb_ap, cb_ap, ev_v0, ev_v1, ev_v2, ev_v3, ev_v4, ev_v5, ev_v6, ev_v7, ev_v8, ev_v9, ev_v10, ev_v11, ev_v12, ev_v13, ev_v14, ev_v15, ev_v16, ev_v17, ev_v18, ev_v19, ev_v20, ev_v21, ev_v22, ev_v23, ev_v24, ev_v25, isi_non_int, isi_non_str, isi_non_bool, isi_non_tuple, isi_non_list, isi_non_dict, isi_bl_int, isi_bl_str, isi_bl_bool, isi_bl_tuple, isi_bl_list, isi_bl_dict, isi_int_int, isi_int_str, isi_int_bool, isi_int_tuple, isi_int_list, isi_int_dict, isi_str_int, isi_str_str, isi_str_bool, isi_str_tuple, isi_str_list, isi_str_dict, isi_tup_int, isi_tup_str, isi_tup_bool, isi_tup_tuple, isi_tup_list, isi_tup_dict, isi_lst_int, isi_lst_str, isi_lst_bool, isi_lst_tuple, isi_lst_list, isi_lst_dict, isi_dct_int, isi_dct_str, isi_dct_bool, isi_dct_tuple, isi_dct_list, isi_dct_dict, tr_non, tr_bl, tr_int, tr_tup, tr_lst, tr_scr, tr_dct, b_add, b_sub, b_addS, b_addT, b_addL, b_mod, b_fdiv, b_mulL, b_mulR, b_mulT, c_eq_ss, c_ne_ss, c_eq_ii, c_ne_ii, c_eq_si, c_ne_si, c_eq_is, c_ne_is, c_eq_ns, c_ne_ns, c_eq_bs, c_ne_bs, c_eq_ni, c_ne_ni, c_eq_bb, c_ne_bb, c_eq_nn, c_ne_nn, c_lt, c_le, c_gt, c_ge, c_is_non, c_isn_non, c_is_bl, c_isn_bl, c_is_int, c_isn_int, c_is_str, c_isn_str, c_is_tup, c_isn_tup, c_is_lst, c_isn_lst, c_is_dct, c_isn_dct, c_in_ss, c_in_dct, c_nin_dct, c_in_tup, c_nin_tup, c_in_lst, c_nin_lst, s_tup, s_lst, s_dct, of_some, at_0, at_1, at_2, at_3, at_4, at_5, at_6, at_7, at_m1, sl_tup, sl_lst, pt_0, pt_1, l_tup, l_lst, l_dct, l_scr, l_str, tup_lst, tup_tup, lst_tup, lst_lst, all_bs, any_bs, sum_is, all2, all_map, any_map, sum_map, int_i, int_b, w_tup, w_lst, w_str, w_range, w_r3, w_r4, w_r5, w_r6, w_r7, w_r8, w_r9, w_r10, w_r11, w_r12, w_r20, w_r30, w_r40, w_r50, w_r60, it_nx, it_ct, it_rt, it_ex, w_r0, w_r1, w_r2, es_m2, es_m3, es_m4, w_zip, w_enumT, w_enum, ↓cw_row, ↓fw_row, ↓cr_nil, ↓cr_cons, ↓fr_nil, mkL_f, mkD_f, es_one, wp_nil, wp_cons, cal_wf, key_str, key_int, prj1, prj2, gD_some, gD_none, asD_dct, q_int, q_str, q_bl, q_tup, List.map_cons, List.map_nil, List.length_cons, List.length_nil, List.length_map, List.getElem?_cons_zero, List.getElem?_cons_succ, Option.bind_some, List.set_cons_zero, List.set_cons_succ, ↓reduceIte, fits_ok, Bool.false_eq_true, Bool.true_and, Bool.and_true, Bool.false_and, Bool.and_false, Bool.or_false, Bool.false_or, Bool.true_or, Bool.or_true, Bool.not_true, Bool.not_false, decide_true, decide_false, List.isEmpty_cons, List.isEmpty_nil, List.cons_append, List.nil_append, Nat.zero_add, Int.cast_ofNat_Int, Int.natCast_zero, Nat.reduceAdd, Nat.reduceSub, Nat.reduceLT, Nat.reduceLeDiff, Nat.reduceEqDiff, Nat.reduceBEq, Int.reduceLT, Int.reduceLE, Int.reduceEq, Int.reduceNe, Int.reduceBEq, Int.reduceBNe, Int.reduceAdd, Int.reduceSub, Int.reduceNeg, Int.reduceMul, Int.reduceToNat, ofS_inj, String.reduceEq, reduceCtorEq, beq_self_eq_true, f_law_k07, mkL_tt, hS, h1]
end CP

end
set_option maxHeartbeats 0
/-! callturn proofs: the text of k07 in the small language, and the head -/
namespace CT.k07
open PySem PySem.Spec PyProof.Rows L2 CP
abbrev rowP : Program := PySem.Challenge.pw_callturn_k07_whole_calls_that_come_last
abbrev rowL : PySem.W.OpenLaw := PySem.Challenge.rw_callturn_k07_whole_calls_that_come_last
def top (i : Nat) : Stmt := rowP.main.body.getD i (.Pass ⟨0, 0, 0, 0⟩)
def inC (i j : Nat) : Stmt := match top i with
  | .ClassDef _ _ _ b _ _ _ _ _ _ _ => b.getD j (.Pass ⟨0, 0, 0, 0⟩)
  | s => s
def free : List Str := ["all", "any", "bool", "dict", "int", "isinstance", "len", "list", "range", "set", "sorted", "str", "tuple", "zip"]
def cst : List (Str × D) := []
def cds : List (Str × List Key × List D) := []
def xs : List (Str × Nat) := []
def fns : List (Str × Nat) := [(("parts_of" : Str), (25 : Nat)), (("called_in" : Str), (79 : Nat)), (("turning" : Str), (87 : Nat)), (("none_of" : Str), (88 : Nat)), (("last_calls" : Str), (89 : Nat)), (("_law_same" : Str), (9 : Nat)), (("_law_draw" : Str), (10 : Nat)), (("_law_pick" : Str), (11 : Nat)), (("_law_leaf" : Str), (12 : Nat)), (("_law_sum" : Str), (13 : Nat)), (("_law_tree" : Str), (14 : Nat)), (("_law_maker" : Str), (15 : Nat)), (("_law_book" : Str), (16 : Nat)), (("_law_called" : Str), (83 : Nat)), (("_law_all_last" : Str), (90 : Nat)), (("_law_tail" : Str), (91 : Nat)), (("law" : Str), (92 : Nat))]
def flds : List Str := []
def mths : List ((Nat × Str) × Nat) := []
def mks : List (Str × Nat) := []
def Y (N : List Str) : Yx := ⟨N, free, cst, fns, xs, cds, flds, mths, mks⟩
abbrev d0 : Dl := ⟨"parts_of", top 1, ["thing"], ["thing"]⟩
abbrev d1 : Dl := ⟨"called_in", top 3, ["thing", "found", "part"], ["thing"]⟩
abbrev d2 : Dl := ⟨"turning", top 4, ["thing", "names", "part"], ["thing", "names"]⟩
abbrev d3 : Dl := ⟨"none_of", top 5, ["thing", "names", "one"], ["thing", "names"]⟩
abbrev d4 : Dl := ⟨"last_calls", top 6, ["book", "name", "maker", "names", "one"], ["book", "name"]⟩
abbrev d5 : Dl := ⟨"_law_same", top 8, ["_law_told", "_law_due", "_law_one", "_law_other"], ["_law_told", "_law_due"]⟩
abbrev d6 : Dl := ⟨"_law_draw", top 9, ["_law_script", "_law_town", "_law_many", "_law_k", "_law_cell", "_law_number"], ["_law_script", "_law_town", "_law_many"]⟩
abbrev d7 : Dl := ⟨"_law_pick", top 10, ["_law_script", "_law_town", "_law_some"], ["_law_script", "_law_town", "_law_some"]⟩
abbrev d8 : Dl := ⟨"_law_leaf", top 11, ["_law_script", "_law_town", "_law_names", "_law_worth"], ["_law_script", "_law_town", "_law_names"]⟩
abbrev d9 : Dl := ⟨"_law_sum", top 12, ["_law_script", "_law_town", "_law_names", "_law_calls", "_law_deep", "_law_kind", "_law_word", "_law_one", "_law_parts", "_law_name", "_law_many", "_law_k"], ["_law_script", "_law_town", "_law_names", "_law_calls", "_law_deep"]⟩
abbrev d10 : Dl := ⟨"_law_tree", top 13, ["_law_script", "_law_town", "_law_names", "_law_calls", "_law_deep", "_law_kind", "_law_test", "_law_one", "_law_k"], ["_law_script", "_law_town", "_law_names", "_law_calls", "_law_deep"]⟩
abbrev d11 : Dl := ⟨"_law_maker", top 14, ["_law_script", "_law_town", "_law_name", "_law_calls", "_law_names", "_law_kept", "_law_k", "_law_every", "_law_pair"], ["_law_script", "_law_town", "_law_name", "_law_calls"]⟩
abbrev d12 : Dl := ⟨"_law_book", top 15, ["_law_script", "_law_town", "_law_makers", "_law_calls", "_law_name"], ["_law_script", "_law_town"]⟩
abbrev d13 : Dl := ⟨"_law_called", top 16, ["_law_thing", "_law_found", "_law_rest", "_law_one"], ["_law_thing"]⟩
abbrev d16 : Dl := ⟨"_law_all_last", top 19, ["_law_thing", "_law_names", "_law_one"], ["_law_thing", "_law_names"]⟩
abbrev d17 : Dl := ⟨"_law_tail", top 20, ["_law_script", "_law_town", "_law_names", "_law_ring", "_law_calls", "_law_deep", "_law_kind", "_law_tests", "_law_test", "_law_one", "_law_sums", "_law_name", "_law_many", "_law_k"], ["_law_script", "_law_town", "_law_names", "_law_ring", "_law_calls", "_law_deep"]⟩
abbrev d18 : Dl := ⟨"law", top 21, ["_law_script", "_law_town", "_law_k", "_law_book_here", "_law_maker_here", "_law_body", "_law_names", "_law_due", "_law_name"], ["_law_script"]⟩
def L : List (Nat × Dl) := [((25 : Nat), d0), ((79 : Nat), d1), ((87 : Nat), d2), ((88 : Nat), d3), ((89 : Nat), d4), ((9 : Nat), d5), ((10 : Nat), d6), ((11 : Nat), d7), ((12 : Nat), d8), ((13 : Nat), d9), ((14 : Nat), d10), ((15 : Nat), d11), ((16 : Nat), d12), ((83 : Nat), d13), ((90 : Nat), d16), ((91 : Nat), d17), ((92 : Nat), d18)]
theorem ck0 : chSs (Y d0.N) (defScope d0.st).names f_parts_of.body (defBody d0.st) = true := by kernel_rfl
theorem sc0 : FnScope d0.N d0.ps (defScope d0.st) := scB_ok (by decide +kernel) (by kernel_rfl)
theorem ck1 : chSs (Y d1.N) (defScope d1.st).names f_called_in.body (defBody d1.st) = true := by kernel_rfl
theorem sc1 : FnScope d1.N d1.ps (defScope d1.st) := scB_ok (by decide +kernel) (by kernel_rfl)
theorem ck2 : chSs (Y d2.N) (defScope d2.st).names f_turning.body (defBody d2.st) = true := by kernel_rfl
theorem sc2 : FnScope d2.N d2.ps (defScope d2.st) := scB_ok (by decide +kernel) (by kernel_rfl)
theorem ck3 : chSs (Y d3.N) (defScope d3.st).names f_none_of.body (defBody d3.st) = true := by kernel_rfl
theorem sc3 : FnScope d3.N d3.ps (defScope d3.st) := scB_ok (by decide +kernel) (by kernel_rfl)
theorem ck4 : chSs (Y d4.N) (defScope d4.st).names f_last_calls.body (defBody d4.st) = true := by kernel_rfl
theorem sc4 : FnScope d4.N d4.ps (defScope d4.st) := scB_ok (by decide +kernel) (by kernel_rfl)
theorem ck5 : chSs (Y d5.N) (defScope d5.st).names f_law_same.body (defBody d5.st) = true := by kernel_rfl
theorem sc5 : FnScope d5.N d5.ps (defScope d5.st) := scB_ok (by decide +kernel) (by kernel_rfl)
theorem ck6 : chSs (Y d6.N) (defScope d6.st).names f_law_draw.body (defBody d6.st) = true := by kernel_rfl
theorem sc6 : FnScope d6.N d6.ps (defScope d6.st) := scB_ok (by decide +kernel) (by kernel_rfl)
theorem ck7 : chSs (Y d7.N) (defScope d7.st).names f_law_pick.body (defBody d7.st) = true := by kernel_rfl
theorem sc7 : FnScope d7.N d7.ps (defScope d7.st) := scB_ok (by decide +kernel) (by kernel_rfl)
theorem ck8 : chSs (Y d8.N) (defScope d8.st).names f_law_leaf.body (defBody d8.st) = true := by kernel_rfl
theorem sc8 : FnScope d8.N d8.ps (defScope d8.st) := scB_ok (by decide +kernel) (by kernel_rfl)
theorem ck9 : chSs (Y d9.N) (defScope d9.st).names f_law_sum.body (defBody d9.st) = true := by kernel_rfl
theorem sc9 : FnScope d9.N d9.ps (defScope d9.st) := scB_ok (by decide +kernel) (by kernel_rfl)
theorem ck10 : chSs (Y d10.N) (defScope d10.st).names f_law_tree.body (defBody d10.st) = true := by kernel_rfl
theorem sc10 : FnScope d10.N d10.ps (defScope d10.st) := scB_ok (by decide +kernel) (by kernel_rfl)
theorem ck11 : chSs (Y d11.N) (defScope d11.st).names f_law_maker.body (defBody d11.st) = true := by kernel_rfl
theorem sc11 : FnScope d11.N d11.ps (defScope d11.st) := scB_ok (by decide +kernel) (by kernel_rfl)
theorem ck12 : chSs (Y d12.N) (defScope d12.st).names f_law_book.body (defBody d12.st) = true := by kernel_rfl
theorem sc12 : FnScope d12.N d12.ps (defScope d12.st) := scB_ok (by decide +kernel) (by kernel_rfl)
theorem ck13 : chSs (Y d13.N) (defScope d13.st).names f_law_called.body (defBody d13.st) = true := by kernel_rfl
theorem sc13 : FnScope d13.N d13.ps (defScope d13.st) := scB_ok (by decide +kernel) (by kernel_rfl)
theorem ck16 : chSs (Y d16.N) (defScope d16.st).names f_law_all_last.body (defBody d16.st) = true := by kernel_rfl
theorem sc16 : FnScope d16.N d16.ps (defScope d16.st) := scB_ok (by decide +kernel) (by kernel_rfl)
theorem ck17 : chSs (Y d17.N) (defScope d17.st).names f_law_tail.body (defBody d17.st) = true := by kernel_rfl
theorem sc17 : FnScope d17.N d17.ps (defScope d17.st) := scB_ok (by decide +kernel) (by kernel_rfl)
theorem ck18 : chSs (Y d18.N) (defScope d18.st).names f_law_k07.body (defBody d18.st) = true := by kernel_rfl
theorem sc18 : FnScope d18.N d18.ps (defScope d18.st) := scB_ok (by decide +kernel) (by kernel_rfl)
def fn : List He.DefD := [(⟨("parts_of", none), "parts_of", "parts_of", defArgs d0.st, defBody d0.st, defScope d0.st, [], []⟩ : He.DefD), (⟨("called_in", none), "called_in", "called_in", defArgs d1.st, defBody d1.st, defScope d1.st, [], []⟩ : He.DefD), (⟨("turning", none), "turning", "turning", defArgs d2.st, defBody d2.st, defScope d2.st, [], []⟩ : He.DefD), (⟨("none_of", none), "none_of", "none_of", defArgs d3.st, defBody d3.st, defScope d3.st, [], []⟩ : He.DefD), (⟨("last_calls", none), "last_calls", "last_calls", defArgs d4.st, defBody d4.st, defScope d4.st, [], []⟩ : He.DefD), (⟨("_law_same", none), "_law_same", "_law_same", defArgs d5.st, defBody d5.st, defScope d5.st, [], []⟩ : He.DefD), (⟨("_law_draw", none), "_law_draw", "_law_draw", defArgs d6.st, defBody d6.st, defScope d6.st, [], []⟩ : He.DefD), (⟨("_law_pick", none), "_law_pick", "_law_pick", defArgs d7.st, defBody d7.st, defScope d7.st, [], []⟩ : He.DefD), (⟨("_law_leaf", none), "_law_leaf", "_law_leaf", defArgs d8.st, defBody d8.st, defScope d8.st, [], []⟩ : He.DefD), (⟨("_law_sum", none), "_law_sum", "_law_sum", defArgs d9.st, defBody d9.st, defScope d9.st, [], []⟩ : He.DefD), (⟨("_law_tree", none), "_law_tree", "_law_tree", defArgs d10.st, defBody d10.st, defScope d10.st, [], []⟩ : He.DefD), (⟨("_law_maker", none), "_law_maker", "_law_maker", defArgs d11.st, defBody d11.st, defScope d11.st, [], []⟩ : He.DefD), (⟨("_law_book", none), "_law_book", "_law_book", defArgs d12.st, defBody d12.st, defScope d12.st, [], []⟩ : He.DefD), (⟨("_law_called", none), "_law_called", "_law_called", defArgs d13.st, defBody d13.st, defScope d13.st, [], []⟩ : He.DefD), (⟨("_law_all_last", none), "_law_all_last", "_law_all_last", defArgs d16.st, defBody d16.st, defScope d16.st, [], []⟩ : He.DefD), (⟨("_law_tail", none), "_law_tail", "_law_tail", defArgs d17.st, defBody d17.st, defScope d17.st, [], []⟩ : He.DefD), (⟨("law", none), "law", "law", defArgs d18.st, defBody d18.st, defScope d18.st, [], []⟩ : He.DefD)]
def fa : List He.Fa := [He.Fa.glo "parts_of", He.Fa.glo "called_in", He.Fa.glo "turning", He.Fa.glo "none_of", He.Fa.glo "last_calls", He.Fa.glo "_law_same", He.Fa.glo "_law_draw", He.Fa.glo "_law_pick", He.Fa.glo "_law_leaf", He.Fa.glo "_law_sum", He.Fa.glo "_law_tree", He.Fa.glo "_law_maker", He.Fa.glo "_law_book", He.Fa.glo "_law_called", He.Fa.glo "_law_all_last", He.Fa.glo "_law_tail", He.Fa.glo "law"]
def ats : List (Nat × (Str × Option Str)) := [((25 : Nat), (("parts_of", none) : Str × Option Str)), ((79 : Nat), (("called_in", none) : Str × Option Str)), ((87 : Nat), (("turning", none) : Str × Option Str)), ((88 : Nat), (("none_of", none) : Str × Option Str)), ((89 : Nat), (("last_calls", none) : Str × Option Str)), ((9 : Nat), (("_law_same", none) : Str × Option Str)), ((10 : Nat), (("_law_draw", none) : Str × Option Str)), ((11 : Nat), (("_law_pick", none) : Str × Option Str)), ((12 : Nat), (("_law_leaf", none) : Str × Option Str)), ((13 : Nat), (("_law_sum", none) : Str × Option Str)), ((14 : Nat), (("_law_tree", none) : Str × Option Str)), ((15 : Nat), (("_law_maker", none) : Str × Option Str)), ((16 : Nat), (("_law_book", none) : Str × Option Str)), ((83 : Nat), (("_law_called", none) : Str × Option Str)), ((90 : Nat), (("_law_all_last", none) : Str × Option Str)), ((91 : Nat), (("_law_tail", none) : Str × Option Str)), ((92 : Nat), (("law", none) : Str × Option Str))]
def tbs : List He.Tab := []
abbrev R : PySem.W.OpenRow := PySem.W.OpenLaw.row rowL
abbrev hk : PySem.W.Hook := He.hookX 4 fa fn tbs [] (exB cst free xs cds)
def ob (s : PySem.W.SharedT) : He.AlX := He.obsX 4 fa fn tbs [] (exB cst free xs cds) (HandSHeadRun.getT s)
theorem ob_eq (s : PySem.W.SharedT) : ob s = hk.obs s.abs := He.obsX_eq (HandSHeadRun.getT_eq s)
def nm0 : List Str := ["parts_of", "called_in", "turning", "none_of", "last_calls", "_law_same", "_law_draw", "_law_pick", "_law_leaf", "_law_sum", "_law_tree", "_law_maker", "_law_book", "_law_called", "_law_calls_of", "_law_reaches", "_law_all_last", "_law_tail"]
def nms : List Str := nm0
theorem run (w : World) : HandSHeadRun.RunEq R (PySem.W.view R.prog [21]) hk ob 4000 nms w := by
  intro os
  kernel_rfl
def eA (K : PySem.W.Frag) (c : Nat) : Addr := He.ga K (((xs.find? fun p => p.2 == c).map (·.1)).getD "")
def cA (K : PySem.W.Frag) (c : Nat) : Addr := 0
abbrev T (K : PySem.W.Frag) (w : World) : Tb := ⟨K, cA K, eA K, fun k => k.hash w⟩
def fA (K : PySem.W.Frag) (i : Nat) : Addr := He.fAd K ((ats.lookup i).getD ("", none))
theorem lnk {K : PySem.W.Frag} {h : Heap} {mg : Str → Option Value} {w : World} (X : K.In h) (G : h.Ns mainGlobals mg) (c : He.SaysX fa fn tbs [] (exB cst free xs cds) w h K) : ∃ fD : Nat → FuncData, Lnk (T K w) CP.prg w mg L Y (fA K) fD ∧ ∀ (s : Shared) (u : Value), BindsTo s (fD 92) ⟨[u], []⟩ [("_law_script", u)] := by
  have D := c.t.d
  have c0 := (and2 c.more).2
  have c1 := (and2 c.more).1
  obtain ⟨e0, F0⟩ := D.def_ 0 (d := ⟨("parts_of", none), "parts_of", "parts_of", defArgs d0.st, defBody d0.st, defScope d0.st, [], []⟩) rfl
  have b0 : Binds K e0 d0.ps [] := FunD.bindsN F0 fun _ _ _ _ _ _ us hl => match us, hl with | [_], _ => rfl
  obtain ⟨e1, F1⟩ := D.def_ 1 (d := ⟨("called_in", none), "called_in", "called_in", defArgs d1.st, defBody d1.st, defScope d1.st, [], []⟩) rfl
  have b1 : Binds K e1 d1.ps [] := FunD.bindsN F1 fun _ _ _ _ _ _ us hl => match us, hl with | [_], _ => rfl
  obtain ⟨e2, F2⟩ := D.def_ 2 (d := ⟨("turning", none), "turning", "turning", defArgs d2.st, defBody d2.st, defScope d2.st, [], []⟩) rfl
  have b2 : Binds K e2 d2.ps [] := FunD.bindsN F2 fun _ _ _ _ _ _ us hl => match us, hl with | [_, _], _ => rfl
  obtain ⟨e3, F3⟩ := D.def_ 3 (d := ⟨("none_of", none), "none_of", "none_of", defArgs d3.st, defBody d3.st, defScope d3.st, [], []⟩) rfl
  have b3 : Binds K e3 d3.ps [] := FunD.bindsN F3 fun _ _ _ _ _ _ us hl => match us, hl with | [_, _], _ => rfl
  obtain ⟨e4, F4⟩ := D.def_ 4 (d := ⟨("last_calls", none), "last_calls", "last_calls", defArgs d4.st, defBody d4.st, defScope d4.st, [], []⟩) rfl
  have b4 : Binds K e4 d4.ps [] := FunD.bindsN F4 fun _ _ _ _ _ _ us hl => match us, hl with | [_, _], _ => rfl
  obtain ⟨e5, F5⟩ := D.def_ 5 (d := ⟨("_law_same", none), "_law_same", "_law_same", defArgs d5.st, defBody d5.st, defScope d5.st, [], []⟩) rfl
  have b5 : Binds K e5 d5.ps [] := FunD.bindsN F5 fun _ _ _ _ _ _ us hl => match us, hl with | [_, _], _ => rfl
  obtain ⟨e6, F6⟩ := D.def_ 6 (d := ⟨("_law_draw", none), "_law_draw", "_law_draw", defArgs d6.st, defBody d6.st, defScope d6.st, [], []⟩) rfl
  have b6 : Binds K e6 d6.ps [] := FunD.bindsN F6 fun _ _ _ _ _ _ us hl => match us, hl with | [_, _, _], _ => rfl
  obtain ⟨e7, F7⟩ := D.def_ 7 (d := ⟨("_law_pick", none), "_law_pick", "_law_pick", defArgs d7.st, defBody d7.st, defScope d7.st, [], []⟩) rfl
  have b7 : Binds K e7 d7.ps [] := FunD.bindsN F7 fun _ _ _ _ _ _ us hl => match us, hl with | [_, _, _], _ => rfl
  obtain ⟨e8, F8⟩ := D.def_ 8 (d := ⟨("_law_leaf", none), "_law_leaf", "_law_leaf", defArgs d8.st, defBody d8.st, defScope d8.st, [], []⟩) rfl
  have b8 : Binds K e8 d8.ps [] := FunD.bindsN F8 fun _ _ _ _ _ _ us hl => match us, hl with | [_, _, _], _ => rfl
  obtain ⟨e9, F9⟩ := D.def_ 9 (d := ⟨("_law_sum", none), "_law_sum", "_law_sum", defArgs d9.st, defBody d9.st, defScope d9.st, [], []⟩) rfl
  have b9 : Binds K e9 d9.ps [] := FunD.bindsN F9 fun _ _ _ _ _ _ us hl => match us, hl with | [_, _, _, _, _], _ => rfl
  obtain ⟨e10, F10⟩ := D.def_ 10 (d := ⟨("_law_tree", none), "_law_tree", "_law_tree", defArgs d10.st, defBody d10.st, defScope d10.st, [], []⟩) rfl
  have b10 : Binds K e10 d10.ps [] := FunD.bindsN F10 fun _ _ _ _ _ _ us hl => match us, hl with | [_, _, _, _, _], _ => rfl
  obtain ⟨e11, F11⟩ := D.def_ 11 (d := ⟨("_law_maker", none), "_law_maker", "_law_maker", defArgs d11.st, defBody d11.st, defScope d11.st, [], []⟩) rfl
  have b11 : Binds K e11 d11.ps [] := FunD.bindsN F11 fun _ _ _ _ _ _ us hl => match us, hl with | [_, _, _, _], _ => rfl
  obtain ⟨e12, F12⟩ := D.def_ 12 (d := ⟨("_law_book", none), "_law_book", "_law_book", defArgs d12.st, defBody d12.st, defScope d12.st, [], []⟩) rfl
  have b12 : Binds K e12 d12.ps [] := FunD.bindsN F12 fun _ _ _ _ _ _ us hl => match us, hl with | [_, _], _ => rfl
  obtain ⟨e13, F13⟩ := D.def_ 13 (d := ⟨("_law_called", none), "_law_called", "_law_called", defArgs d13.st, defBody d13.st, defScope d13.st, [], []⟩) rfl
  have b13 : Binds K e13 d13.ps [] := FunD.bindsN F13 fun _ _ _ _ _ _ us hl => match us, hl with | [_], _ => rfl
  obtain ⟨e16, F16⟩ := D.def_ 14 (d := ⟨("_law_all_last", none), "_law_all_last", "_law_all_last", defArgs d16.st, defBody d16.st, defScope d16.st, [], []⟩) rfl
  have b16 : Binds K e16 d16.ps [] := FunD.bindsN F16 fun _ _ _ _ _ _ us hl => match us, hl with | [_, _], _ => rfl
  obtain ⟨e17, F17⟩ := D.def_ 15 (d := ⟨("_law_tail", none), "_law_tail", "_law_tail", defArgs d17.st, defBody d17.st, defScope d17.st, [], []⟩) rfl
  have b17 : Binds K e17 d17.ps [] := FunD.bindsN F17 fun _ _ _ _ _ _ us hl => match us, hl with | [_, _, _, _, _, _], _ => rfl
  obtain ⟨e18, F18⟩ := D.def_ 16 (d := ⟨("law", none), "law", "law", defArgs d18.st, defBody d18.st, defScope d18.st, [], []⟩) rfl
  have b18 : Binds K e18 d18.ps [] := FunD.bindsN F18 fun _ _ _ _ _ _ us hl => match us, hl with | [_], _ => rfl
  refine ⟨fun i => (([(25, e0), (79, e1), (87, e2), (88, e3), (89, e4), (9, e5), (10, e6), (11, e7), (12, e8), (13, e9), (14, e10), (15, e11), (16, e12), (83, e13), (90, e16), (91, e17), (92, e18)] : List (Nat × FuncData)).lookup i).getD e0, ⟨rfl, fun _ => rfl, fun _ x h => free_ok' X G c0 x h, fun _ x d h => cst_ok X G c0 x d h, fun _ x i h => ?_, fun i dl h => ?_, fun _ x i h => ?_, fun _ x ks ds h => ?_, fun _ f h => ?_, fun _ c' m i h => ?_, fun _ x c' h => ?_⟩, ?_⟩
  · have hm : (x, i) ∈ fns := mem_lookG h
    simp only [fns, List.mem_cons, List.not_mem_nil, or_false, Prod.mk.injEq] at hm
    rcases hm with ⟨rfl, rfl⟩ | ⟨rfl, rfl⟩ | ⟨rfl, rfl⟩ | ⟨rfl, rfl⟩ | ⟨rfl, rfl⟩ | ⟨rfl, rfl⟩ | ⟨rfl, rfl⟩ | ⟨rfl, rfl⟩ | ⟨rfl, rfl⟩ | ⟨rfl, rfl⟩ | ⟨rfl, rfl⟩ | ⟨rfl, rfl⟩ | ⟨rfl, rfl⟩ | ⟨rfl, rfl⟩ | ⟨rfl, rfl⟩ | ⟨rfl, rfl⟩ | ⟨rfl, rfl⟩
    · exact ⟨He.glo_ok X G (D.fact 0 (f := .glo "parts_of") rfl), d0, rfl⟩
    · exact ⟨He.glo_ok X G (D.fact 1 (f := .glo "called_in") rfl), d1, rfl⟩
    · exact ⟨He.glo_ok X G (D.fact 2 (f := .glo "turning") rfl), d2, rfl⟩
    · exact ⟨He.glo_ok X G (D.fact 3 (f := .glo "none_of") rfl), d3, rfl⟩
    · exact ⟨He.glo_ok X G (D.fact 4 (f := .glo "last_calls") rfl), d4, rfl⟩
    · exact ⟨He.glo_ok X G (D.fact 5 (f := .glo "_law_same") rfl), d5, rfl⟩
    · exact ⟨He.glo_ok X G (D.fact 6 (f := .glo "_law_draw") rfl), d6, rfl⟩
    · exact ⟨He.glo_ok X G (D.fact 7 (f := .glo "_law_pick") rfl), d7, rfl⟩
    · exact ⟨He.glo_ok X G (D.fact 8 (f := .glo "_law_leaf") rfl), d8, rfl⟩
    · exact ⟨He.glo_ok X G (D.fact 9 (f := .glo "_law_sum") rfl), d9, rfl⟩
    · exact ⟨He.glo_ok X G (D.fact 10 (f := .glo "_law_tree") rfl), d10, rfl⟩
    · exact ⟨He.glo_ok X G (D.fact 11 (f := .glo "_law_maker") rfl), d11, rfl⟩
    · exact ⟨He.glo_ok X G (D.fact 12 (f := .glo "_law_book") rfl), d12, rfl⟩
    · exact ⟨He.glo_ok X G (D.fact 13 (f := .glo "_law_called") rfl), d13, rfl⟩
    · exact ⟨He.glo_ok X G (D.fact 14 (f := .glo "_law_all_last") rfl), d16, rfl⟩
    · exact ⟨He.glo_ok X G (D.fact 15 (f := .glo "_law_tail") rfl), d17, rfl⟩
    · exact ⟨He.glo_ok X G (D.fact 16 (f := .glo "law") rfl), d18, rfl⟩
  · have hm : (i, dl) ∈ L := mem_lookN h
    simp only [L, List.mem_cons, List.not_mem_nil, or_false, Prod.mk.injEq] at hm
    rcases hm with ⟨rfl, rfl⟩ | ⟨rfl, rfl⟩ | ⟨rfl, rfl⟩ | ⟨rfl, rfl⟩ | ⟨rfl, rfl⟩ | ⟨rfl, rfl⟩ | ⟨rfl, rfl⟩ | ⟨rfl, rfl⟩ | ⟨rfl, rfl⟩ | ⟨rfl, rfl⟩ | ⟨rfl, rfl⟩ | ⟨rfl, rfl⟩ | ⟨rfl, rfl⟩ | ⟨rfl, rfl⟩ | ⟨rfl, rfl⟩ | ⟨rfl, rfl⟩ | ⟨rfl, rfl⟩
    · exact ⟨⟨_, _, F0⟩, b0, sc0, _, P_parts_of, rfl, rfl, ck0⟩
    · exact ⟨⟨_, _, F1⟩, b1, sc1, _, P_called_in, rfl, rfl, ck1⟩
    · exact ⟨⟨_, _, F2⟩, b2, sc2, _, P_turning, rfl, rfl, ck2⟩
    · exact ⟨⟨_, _, F3⟩, b3, sc3, _, P_none_of, rfl, rfl, ck3⟩
    · exact ⟨⟨_, _, F4⟩, b4, sc4, _, P_last_calls, rfl, rfl, ck4⟩
    · exact ⟨⟨_, _, F5⟩, b5, sc5, _, P_law_same, rfl, rfl, ck5⟩
    · exact ⟨⟨_, _, F6⟩, b6, sc6, _, P_law_draw, rfl, rfl, ck6⟩
    · exact ⟨⟨_, _, F7⟩, b7, sc7, _, P_law_pick, rfl, rfl, ck7⟩
    · exact ⟨⟨_, _, F8⟩, b8, sc8, _, P_law_leaf, rfl, rfl, ck8⟩
    · exact ⟨⟨_, _, F9⟩, b9, sc9, _, P_law_sum, rfl, rfl, ck9⟩
    · exact ⟨⟨_, _, F10⟩, b10, sc10, _, P_law_tree, rfl, rfl, ck10⟩
    · exact ⟨⟨_, _, F11⟩, b11, sc11, _, P_law_maker, rfl, rfl, ck11⟩
    · exact ⟨⟨_, _, F12⟩, b12, sc12, _, P_law_book, rfl, rfl, ck12⟩
    · exact ⟨⟨_, _, F13⟩, b13, sc13, _, P_law_called, rfl, rfl, ck13⟩
    · exact ⟨⟨_, _, F16⟩, b16, sc16, _, P_law_all_last, rfl, rfl, ck16⟩
    · exact ⟨⟨_, _, F17⟩, b17, sc17, _, P_law_tail, rfl, rfl, ck17⟩
    · exact ⟨⟨_, _, F18⟩, b18, sc18, _, P_law_k07, rfl, rfl, ck18⟩
  · simp [Y, xs] at h
  · simp [Y, cds] at h
  · simp [Y, flds] at h
  · simp [Y, mths] at h
  · simp [Y, mks] at h
  · exact fun s u => FunD.bindsA (ps := d18.ps) F18 (fun _ _ _ _ _ _ us hl => match us, hl with | [_], _ => rfl) s [u] rfl
abbrev Plain : Prop := ∀ ns : List Int, ns.length ≤ 63 → ∃ S', (cal CP.prg 4000 60).fn 92 [.scr ns] [] = .ok (.bl true) S'
theorem nmL : (HandSHeadRun.topDef R.prog 21).name = ("law" : PySem.Str) := by kernel_rfl
theorem ixL : fns.lookup ("law" : PySem.Str) = some 92 := by decide +kernel
theorem ixD : L.lookup 92 = some d18 := by kernel_rfl
theorem walkF (plain : Plain) : ∀ (w : World) (mg : Str → Option Value) (fa' : Addr) (h : Heap), hk.says w h → h.Ns mainGlobals mg → mg (HandSHeadRun.topDef R.prog 21).name = some (.ref fa') → ∃ (K : PySem.W.Frag) (fd : FuncData) (sp : Sp), K.In h ∧ (∀ (s : Shared) (u : Value), BindsTo s fd ⟨[u], []⟩ [("_law_script", u)]) ∧
      (∀ (H : Hp) (a : Addr) (ns : List Int), ns.length ≤ 63 → Only H → SqL K H a (ns.map V.int) → sp [.ref a] H (fun v _ => v = .bl true) fun _ _ _ => False) ∧ ∀ base : Heap, K.In base → base.Ns mainGlobals mg → FnOk rowL.prog w K mg base (L2.CX rowL.prog w) 230 fa' fd ["_law_script"] sp := by
  intro w mg fa' h Y' G hmg0
  obtain ⟨K, KX, c⟩ := Y'
  rw [nmL] at hmg0
  obtain ⟨fD, k, hb⟩ := lnk KX G c
  have e : fa' = fA K 92 := by
    have e2 := (k.kf [] _ _ ixL).1
    rw [hmg0] at e2
    injection e2 with e3
    injection e3
  subst e
  exact ⟨K, fD 92, spF (T K w) (cal CP.prg 4000 60) 92, KX, hb, fun H a ns hl _ hS => sp_law plain H a ns hl hS, fun base _ _ => (all_ok k 60 92 d18 ixD).ok (by decide)⟩
end CT.k07
open PySem PySem.W PySem.Calls PyProof.Rows in
theorem CT.k07.holds_of (plain : CT.k07.Plain) : CT.k07.rowL.Holds := by
  w_on; o_law
  refine HandSHeadRun.head_any (r := OpenLaw.row CT.k07.rowL) (q := view (OpenLaw.row CT.k07.rowL).prog [21]) (H := CT.k07.hk) (ob := CT.k07.ob) (M := 4000) (loose := CT.k07.nms) (d := HandSHeadRun.topDef (OpenLaw.row CT.k07.rowL).prog 21) (kwd := []) CT.k07.ob_eq
    (by kernel_rfl) (fun s => by kernel_rfl) CT.k07.run (by kernel_rfl) (by kernel_rfl) (by kernel_rfl) (by rfl) (by first | assumption | decide +kernel) (by decide +kernel) ⟨rfl, rfl, rfl, rfl, rfl, by decide +kernel⟩ ?hw ?hc
  case hw => w_witness2
  case hc =>
    refine CT.walk_w (l := CT.k07.rowL) (n := 63) (k := 230) (x := "_law_script") rfl (by decide) (by kernel_rfl) ⟨rfl, by decide, by decide⟩ ?F
    exact CT.k07.walkF plain

theorem PySem.Challenge.cw_callturn_k07_whole_calls_that_come_last_holds : PySem.Challenge.rw_callturn_k07_whole_calls_that_come_last.Holds :=
  CT.k07.holds_of fun ns _ => CP.plain_k07 ns
