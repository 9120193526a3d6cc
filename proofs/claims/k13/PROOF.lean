import PyProof.Rows.All
import Wide.All
import OpenK.AllK
import Wide.FinOn
import PySem.Syntax
import PyProof.EqLayable
import HandS.Base
import HandS.Call
import HandS.List
import HandS.Comp
import HandS.Ends
import HandS.Dict
import HandS.Iter
import HandS.More
import HandS.Words
import HandS.WordsList
import HandS.WordsDict
import HandS.WordsExc
import HandS.Exc
import HandS.TryOnly
import HandS.ExcOwn
import HandS.Flow
import HandS.IsInst
import HandS.Conv
import HandS.Zip
import HandS.TupAny
import HandS.TupMul
import HandS.Deep
import HandS.Wide
import HandS.NoneIn
import HandS.HeadHook1
import HandS.HeadHook2
import PyProof.IsRules
import HandS.SortInts
import PyProof.TupleOfSeq
import HandS.ExcValue
import KE.GoesEnum
import KE.GoesMore
import HandS.HeadWalk
import KE.KItemsList
import HandS.Zip0
import HandS.SetFor
import HandS.Strs
import HandS.Style
import HandS.Small
import HandS.Codes
import PyProof.Rows.Walk
import HandS.Head0
import HandS.Head1
import HandS.Head2
import HandS.HeadEnd
import PySem.Challenge.RW_shownwants_k13_whole_forbids
set_option Elab.async false
set_option linter.all false
set_option maxRecDepth 100000
namespace Mi
open PySem

/-- a value as a tree -/
inductive D where
  | non | bl (b : Bool) | int (i : Int) | str (s : Str)
  | tup (ds : List D) | lst (ds : List D)
  | dct (ks vs : List D)
  | set (ds : List D)
  | ins (c : Str) (fs : List Str) (ds : List D)
  | rng (lo hi : Int)
  | fn (x : Str)
  | scr (ns : List Int)
  deriving Inhabited

/-- the longest list, tuple, text (the model's line) -/
abbrev lim : Nat := 16777216

mutual
/-- as plain data (what is none is a dict) -/
def D.py : D → PyData
  | .non => .none
  | .bl b => .bool b
  | .int i => .int i
  | .str s => .str s
  | .tup ds => .tuple (pyAll ds)
  | .lst ds => .list (pyAll ds)
  | .dct _ _ => .dict []
  | .set _ => .dict []
  | .ins _ _ _ => .dict []
  | .rng _ _ => .dict []
  | .fn _ => .dict []
  | .scr _ => .dict []
def pyAll : List D → List PyData
  | [] => []
  | d :: ds => d.py :: pyAll ds
end
mutual
/-- nothing in it can ever change: atoms and tuples of such -/
def D.hard : D → Bool
  | .non => true
  | .bl _ => true
  | .int _ => true
  | .str _ => true
  | .tup ds => hardAll ds
  | .lst _ => false
  | .dct _ _ => false
  | .set _ => false
  | .ins _ _ _ => false
  | .rng _ _ => false
  | .fn _ => true
  | .scr _ => false
def hardAll : List D → Bool
  | [] => true
  | d :: ds => d.hard && hardAll ds
end
/-- a container whose items are hard -/
def D.hardIn : D → Bool
  | .lst ds => hardAll ds
  | .dct ks vs => hardAll ks && hardAll vs
  | _ => false
/-- a test of a value -/
def truW : D → (Bool → Prop) → Prop
  | .non, Q => Q false
  | .bl b, Q => Q b
  | .int i, Q => Q (i != 0)
  | .str s, Q => s.length ≤ 16777216 ∧ Q ((s.length : Int) != 0)
  | .tup ds, Q => Q (!ds.isEmpty)
  | .lst ds, Q => Q (!ds.isEmpty)
  | _, _ => False
def D.isNon : D → Bool
  | .non => true
  | _ => false

/-- data that == compares: no dict within, not too deep -/
def D.shp (d : D) : Bool := SeqAt.shaped d.py
def D.eqv (d e : D) : Bool := PyData.eqv d.py e.py

def D.isCon : D → Bool
  | .lst _ => true
  | .dct _ _ => true
  | _ => false
/-- a slot: nothing yet; a value that stays; a list, dict, set that this slot alone holds; the same, locked by a loop -/
inductive Sl where
  | un | va (d : D) | ow (d : D) | lk (p : Nat) (d : D) | hn (a c : Nat) | sc (a : Nat) (ns : List Int)
  deriving Inhabited
def getS (S : List Sl) (i : Nat) : Option D := match S[i]? with
  | some (.va d) => some d
  | some (.ow d) => some d
  | some (.lk _ d) => some d
  | _ => none
def getO (S : List Sl) (i : Nat) : Option D := match S[i]? with
  | some (.ow d) => some d
  | _ => none
def frz1 (S : List Sl) (i : Nat) : List Sl := match S[i]? with
  | some (.ow d) => S.set i (.va d)
  | some (.lk _ d) => S.set i (.va d)
  | _ => S
/-- these slots' things stay as they are from now on -/
def frz : List Nat → List Sl → List Sl
  | [], S => S
  | i :: r, S => frz r (frz1 S i)
def wip : List Nat → List Sl → List Sl
  | [], S => S
  | i :: r, S => (wip r S).set i .un

/-- an exception: its class, its fields -/
structure Xc where
  c : Str
  ns : List Str
  fs : List D
abbrev DK := D → Prop
abbrev XP := Xc → Prop
/-- a def's promise: from the arguments -/
structure FSpec where
  name : Str
  cls : Str
  lvl : Nat
  ar : Nat
  hd : Bool
  spec : List D → DK → XP → Prop
/-- what C(..) makes: the attributes -/
structure CSpec where
  name : Str
  lvl : Nat
  ar : Nat
  fs : List Str
  spec : List D → (List D → Prop) → XP → Prop
inductive Ty where
  | bt (n : String)
  | own (c : Str)
  deriving DecidableEq
def D.isTy : D → Ty → Bool
  | .bl _, .bt n => n == "bool" || n == "int"
  | .int _, .bt n => n == "int"
  | .str _, .bt n => n == "str"
  | .tup _, .bt n => n == "tuple"
  | .lst _, .bt n => n == "list"
  | .dct _ _, .bt n => n == "dict"
  | .ins c _ _, .own x => decide (c = x)
  | _, _ => false
/-- what isinstance may be asked of -/
def D.tyd : D → Bool
  | .set _ => false
  | .rng _ _ => false
  | .fn _ => false
  | .scr _ => false
  | _ => true
inductive Blt where
  | len | all | any | sum | tuple | list | int | abs | min1 | max1 | min2 | max2 | sorted | dict | range1
  deriving DecidableEq
inductive BM where
  | dget2 | lindex | dget1
  deriving DecidableEq
inductive Op where
  | bin (o : Operator)
  | cmp (o : CmpOp)
  | neg
  | tup | lst
  | idx
  | fld (f : Str)
  | blt (b : Blt)

/-- targets -/
inductive TG where
  | nm (i : Nat)
  | tp (g : TG)
  | gnil
  | gcons (a r : TG)
/-- expressions, argument lists, what is walked -/
inductive ME where
  | var (i : Nat)
  | con (d : D)
  | glo (x : Str) (d : D)
  | op (o : Op) (as : ME)
  | bm (m : BM) (o as : ME)
  | chn (o1 o2 : CmpOp) (a b c : ME)
  | and (a b : ME)
  | or (a b : ME)
  | not (a : ME)
  | ife (c a b : ME)
  | isi (ts : List Ty) (a : ME)
  | call (sp : FSpec) (as : ME)
  | callh (sp : FSpec) (h : Nat) (as : ME)
  | meth (sp : FSpec) (o as : ME)
  | eqo (neg : Bool) (sp : FSpec) (as : ME)
  | lz (a b : ME)
  | ds1 (k v : ME)
  | ss (b : Bool) (a : ME)
  | make (sp : CSpec) (as : ME)
  | slc (a lo hi : ME)
  | nop
  | lc (vs : List Nat) (elt : ME) (g : TG) (it tst : ME)
  | dc (vs : List Nat) (k v : ME) (g : TG) (it : ME)
  | dsp (ks vs : ME)
  | pop (i : Nat)
  | popAt (i : Nat) (e : ME)
  | anil
  | acons (a r : ME)
  | itS (a : ME)
  | itX (i : Nat)
  | itR (as : ME)
  | itE (a : ME)
  | itZ (a b : ME)
  | itI (a : ME)
inductive MS where
  | nil
  | seq (s r : MS)
  | asg (g : TG) (e : ME)
  | par (l : List (Nat × Bool × ME))
  | aug (i : Nat) (o : Operator) (e : ME)
  | exp (e : ME)
  | app (i : Nat) (e : ME)
  | ext (i : Nat) (e : ME)
  | sti (i : Nat) (k e : ME)
  | ret (e : ME)
  | retn
  | ifs (c : ME) (a b : MS)
  | fr (g : TG) (it : ME) (b : MS)
  | wh (c : ME) (b : MS)
  | rs (c : Str) (ns : List Str) (as : ME)
  | pas
  | con
  | brk
  | sef (f : Str) (e : ME)
  | mkh (i j : Nat)
  | nev

def mulOk (i j : Int) : Prop := (-(2 ^ 64) < i ∧ i < 2 ^ 64) ∨ (-(2 ^ 64) < j ∧ j < 2 ^ 64) ∨ i.natAbs.log2 + j.natAbs.log2 < 1000000
def divOk (j : Int) : Prop := (j ≠ 0 ∧ j.natAbs < 1073741824) ∨ (0 < j ∧ j.natAbs.log2 < 9000)
def binSem : Operator → D → D → DK → Prop
  | .Add, .int i, .int j, Q => Q (.int (i + j))
  | .Add, .tup a, .tup b, Q => a.length + b.length ≤ lim ∧ Q (.tup (a ++ b))
  | .Add, .lst a, .lst b, Q => a.length + b.length ≤ lim ∧ Q (.lst (a ++ b))
  | .Add, .str a, .str b, Q => a.length + b.length ≤ lim ∧ Q (.str (a ++ b))
  | .Sub, .int i, .int j, Q => Q (.int (i - j))
  | .Mult, .int i, .int j, Q => mulOk i j ∧ Q (.int (i * j))
  | .Mult, .tup a, .int j, Q => a ≠ [] ∧ 2 ≤ j ∧ j ≤ 1000 ∧ a.length ≤ 1000 ∧ Q (.tup (List.replicate j.toNat a).flatten)
  | .Mult, .lst a, .int j, Q => j < 2 ^ 63 ∧ -(2 ^ 63) ≤ j ∧ a.length * j.toNat ≤ lim ∧ Q (.lst (List.replicate j.toNat a).flatten)
  | .FloorDiv, .int i, .int j, Q => divOk j ∧ Q (.int (i.fdiv j))
  | .Mod, .int i, .int j, Q => j ≠ 0 ∧ Q (.int (i.fmod j))
  | .Pow, .int i, .int j, Q => 0 ≤ j ∧ j ≤ 1000000 ∧ i.natAbs < 2 ^ 64 ∧ Q (.int (i ^ j.toNat))
  | _, _, _, _ => False
/-- the place of a key -/
def keyAt (k : D) : List D → Option Nat
  | [] => none
  | x :: r => if D.eqv x k then some 0 else (keyAt k r).map (· + 1)
def D.isKey : D → Bool
  | .int _ => true
  | .str _ => true
  | _ => false
def D.flat : D → Bool
  | .non => true
  | .bl _ => true
  | .int _ => true
  | .str _ => true
  | _ => false
def inAny (d : D) (ds : List D) : Bool := ds.any fun e => D.eqv e d
def isBl : D → Bool → Bool
  | .bl a, c => decide (a = c)
  | _, _ => false
def cmpSem : CmpOp → D → D → DK → Prop
  | .Eq, d, e, Q => d.shp = true ∧ e.shp = true ∧ Q (.bl (D.eqv d e))
  | .NotEq, d, e, Q => d.shp = true ∧ e.shp = true ∧ Q (.bl (!D.eqv d e))
  | .Lt, .int i, .int j, Q => Q (.bl (decide (i < j)))
  | .LtE, .int i, .int j, Q => Q (.bl (decide (i ≤ j)))
  | .Gt, .int i, .int j, Q => Q (.bl (decide (j < i)))
  | .GtE, .int i, .int j, Q => Q (.bl (decide (j ≤ i)))
  | .Is, d, .non, Q => Q (.bl d.isNon)
  | .IsNot, d, .non, Q => Q (.bl (!d.isNon))
  | .Is, d, .bl c, Q => Q (.bl (isBl d c))
  | .IsNot, d, .bl c, Q => Q (.bl (!isBl d c))
  | .In, d, .lst ds, Q => d.shp = true ∧ (D.lst ds).shp = true ∧ Q (.bl (inAny d ds))
  | .In, d, .tup ds, Q => d.flat = true ∧ ds.all D.flat = true ∧ Q (.bl (inAny d ds))
  | .In, d, .dct ks _, Q => d.isKey = true ∧ Q (.bl (keyAt d ks).isSome)
  | .NotIn, d, .lst ds, Q => d.shp = true ∧ (D.lst ds).shp = true ∧ Q (.bl (!inAny d ds))
  | .NotIn, d, .tup ds, Q => d.flat = true ∧ ds.all D.flat = true ∧ Q (.bl (!inAny d ds))
  | .NotIn, d, .dct ks _, Q => d.isKey = true ∧ Q (.bl (keyAt d ks).isNone)
  | _, _, _, _ => False
/-- the place of an index -/
def ixAt (n : Nat) (i : Int) : Option Nat := if 0 ≤ i then (if i < n then some i.toNat else none) else if -(n : Int) ≤ i then some (i + n).toNat else none
def idxSem : D → D → DK → Prop
  | .lst ds, .int i, Q => ∃ j d, ixAt ds.length i = some j ∧ ds[j]? = some d ∧ Q d
  | .tup ds, .int i, Q => ∃ j d, ixAt ds.length i = some j ∧ ds[j]? = some d ∧ Q d
  | .dct ks vs, k, Q => k.isKey = true ∧ ∃ j d, keyAt k ks = some j ∧ vs[j]? = some d ∧ Q d
  | _, _, _ => False
def fldAt (f : Str) : List Str → List D → Option D
  | x :: r, d :: ds => if f = x then some d else fldAt f r ds
  | _, _ => none
def fldSem (f : Str) : D → DK → Prop
  | .ins _ fs ds, Q => ∃ d, fldAt f fs ds = some d ∧ Q d
  | _, _ => False
def boolsOf : List D → Option (List Bool)
  | [] => some []
  | .bl b :: r => (boolsOf r).map (b :: ·)
  | _ => none
def intsOf : List D → Option (List Int)
  | [] => some []
  | .int b :: r => (intsOf r).map (b :: ·)
  | _ => none
def putVals (k v : D) : List D → List D → List D
  | x :: r, y :: s => (if D.eqv x k then v else y) :: putVals k v r s
  | _, _ => []
def putKey (k v : D) (ks vs : List D) : List D × List D := if (ks.any fun x => D.eqv x k) = true then (ks, putVals k v ks vs) else (ks ++ [k], vs ++ [v])
def fromPairs : List D → List D → List D → Option (List D × List D)
  | [], ks, vs => some (ks, vs)
  | .tup [k, v] :: r, ks, vs => if k.isKey then fromPairs r (putKey k v ks vs).1 (putKey k v ks vs).2 else none
  | _, _, _ => none
def seqOf : D → Option (List D)
  | .lst ds => some ds
  | .tup ds => some ds
  | _ => none
def lenOf : D → Option Nat
  | .lst ds => some ds.length
  | .tup ds => some ds.length
  | .dct ks _ => some ks.length
  | .str s => some s.length
  | _ => none
def bltSem : Blt → List D → DK → Prop
  | .len, [d], Q => ∃ n, lenOf d = some n ∧ n ≤ lim ∧ Q (.int n)
  | .all, [.lst ds], Q => ∃ bs, boolsOf ds = some bs ∧ Q (.bl (bs.all id))
  | .any, [.lst ds], Q => ∃ bs, boolsOf ds = some bs ∧ Q (.bl (bs.any id))
  | .sum, [.lst ds], Q => ∃ ns, intsOf ds = some ns ∧ Q (.int ns.sum)
  | .tuple, [d], Q => ∃ ds, seqOf d = some ds ∧ Q (.tup ds)
  | .list, [.rng lo hi], Q => -(2 ^ 62) ≤ lo ∧ lo < 2 ^ 62 ∧ -(2 ^ 62) ≤ hi ∧ hi < 2 ^ 62 ∧ (hi - lo).toNat ≤ lim ∧ Q (.lst ((List.range (hi - lo).toNat).map fun (k : Nat) => D.int (lo + k)))
  | .list, [d], Q => ∃ ds, seqOf d = some ds ∧ Q (.lst ds)
  | .int, [.int i], Q => Q (.int i)
  | .int, [.bl b], Q => Q (.int (if b then 1 else 0))
  | .abs, [.int i], Q => Q (.int (if i < 0 then -i else i))
  | .min1, [.lst ds], Q => ∃ ns, intsOf ds = some ns ∧ 0 < ns.length ∧ ∀ m, m ∈ ns → (∀ y, y ∈ ns → m ≤ y) → Q (.int m)
  | .max1, [.lst ds], Q => ∃ ns, intsOf ds = some ns ∧ 0 < ns.length ∧ ∀ m, m ∈ ns → (∀ y, y ∈ ns → y ≤ m) → Q (.int m)
  | .min2, [.int i, .int j], Q => Q (.int (if j < i then j else i))
  | .max2, [.int i, .int j], Q => Q (.int (if j > i then j else i))
  | .dict, [.lst ds], Q => ∃ ks vs, fromPairs ds [] [] = some (ks, vs) ∧ Q (.dct ks vs)
  | .range1, [.int i], Q => Q (.rng 0 i)
  | .sorted, [d], Q => ∃ ds ns, seqOf d = some ds ∧ intsOf ds = some ns ∧ ∀ out : List Int, out.Perm ns → out.Pairwise (· ≤ ·) → Q (.lst (out.map D.int))
  | _, _, _ => False
def BM.hd : BM → D → Bool
  | .dget2, .dct _ _ => true
  | .dget1, .dct _ _ => true
  | .lindex, .lst _ => true
  | _, _ => false
def bmSem : BM → List D → DK → Prop
  | .dget2, [.dct ks vs, k, z], Q => k.isKey = true ∧ Q (match keyAt k ks with
    | some j => vs.getD j z
    | none => z)
  | .dget1, [.dct ks vs, k], Q => k.isKey = true ∧ Q (match keyAt k ks with
    | some j => vs.getD j .non
    | none => .non)
  | .lindex, [.lst ds, d], Q => (D.lst ds).shp = true ∧ d.shp = true ∧ ∃ j, (ds.findIdx? fun e => D.eqv e d) = some j ∧ Q (.int j)
  | _, _, _ => False
def Op.sem : Op → List D → DK → Prop
  | .bin o, [a, b], Q => binSem o a b Q
  | .cmp o, [a, b], Q => cmpSem o a b Q
  | .neg, [.int i], Q => Q (.int (-i))
  | .tup, ds, Q => ds.length ≤ 1000 ∧ Q (.tup ds)
  | .lst, ds, Q => ds.length ≤ 1000 ∧ Q (.lst ds)
  | .idx, [a, b], Q => idxSem a b Q
  | .fld f, [a], Q => fldSem f a Q
  | .blt b, ds, Q => bltSem b ds Q
  | _, _, _ => False
/-- a slice's end -/
def cutIx (n : Nat) (d : Nat) : Option Int → Nat
  | none => d
  | some i => if i < 0 then (i + n).toNat else min i.toNat n
def slcSem (d : D) (lo hi : Option Int) (Q : DK) : Prop := match d with
  | .tup ds => Q (.tup ((ds.drop (cutIx ds.length 0 lo)).take (cutIx ds.length ds.length hi - cutIx ds.length 0 lo)))
  | .lst ds => Q (.lst ((ds.drop (cutIx ds.length 0 lo)).take (cutIx ds.length ds.length hi - cutIx ds.length 0 lo)))
  | .scr ns => Q (.lst (((ns.map D.int).drop (cutIx (ns.map D.int).length 0 lo)).take (cutIx (ns.map D.int).length (ns.map D.int).length hi - cutIx (ns.map D.int).length 0 lo)))
  | _ => False
/-- an end of a slice -/
def partOf : ME → D → Option (Option Int)
  | .nop, _ => some none
  | _, .int i => some (some i)
  | _, _ => none
/-- what a for walks -/
def noHn (vs : List Nat) (S : List Sl) : Bool := vs.all fun i => match S[i]? with
  | some (.hn _ _) => false
  | _ => true
def rngOk (lo hi : Int) : Prop := -(2 ^ 62) ≤ lo ∧ lo < 2 ^ 62 ∧ -(2 ^ 62) ≤ hi ∧ hi < 2 ^ 62
def iterS : D → (List D → Prop) → Prop
  | .lst ds, Q => Q ds
  | .tup ds, Q => Q ds
  | .rng lo hi, Q => rngOk lo hi ∧ Q ((List.range (hi - lo).toNat).map fun (k : Nat) => D.int (lo + k))
  | _, _ => False
def rngSem : List D → (List D → Prop) → Prop
  | [.int j], Q => rngOk 0 j ∧ Q ((List.range j.toNat).map fun (k : Nat) => D.int (0 + k))
  | [.int i, .int j], Q => rngOk i j ∧ Q ((List.range (j - i).toNat).map fun (k : Nat) => D.int (i + k))
  | _, _ => False
def enumFrom : Nat → List D → List D
  | _, [] => []
  | n, d :: ds => .tup [.int n, d] :: enumFrom (n + 1) ds
def zipT : List D → List D → List D
  | a :: as, b :: bs => .tup [a, b] :: zipT as bs
  | _, _ => []

def glen : TG → Nat
  | .gcons _ r => glen r + 1
  | _ => 0
mutual
def tgW : TG → D → List Sl → (List Sl → Prop) → Prop
  | .nm i, d, S, Q => Q (S.set i (.va d))
  | .tp g, d, S, Q => ∃ ds, d = .tup ds ∧ ds.length = glen g ∧ tgsW g ds S Q
  | .gnil, _, _, _ => False
  | .gcons _ _, _, _, _ => False
def tgsW : TG → List D → List Sl → (List Sl → Prop) → Prop
  | .gnil, ds, S, Q => ds = [] ∧ Q S
  | .gcons a r, ds, S, Q => ∃ d rest, ds = d :: rest ∧ tgW a d S fun S' => tgsW r rest S' Q
  | .nm _, _, _, _ => False
  | .tp _, _, _, _ => False
end
/-- the slots that a target sets -/
def gvars : TG → List Nat
  | .nm i => [i]
  | .tp g => gvars g
  | .gnil => []
  | .gcons a r => gvars a ++ gvars r
def lcGo (f : D → (Option D → Prop) → Prop) : List D → List D → (List D → Prop) → Prop
  | [], acc, Q => Q acc
  | d :: ds, acc, Q => f d fun o => lcGo f ds (match o with
    | some y => acc ++ [y]
    | none => acc) Q
def dcGo (f : D → (D → D → Prop) → Prop) : List D → List D → List D → (List D → List D → Prop) → Prop
  | [], ks, vs, Q => Q ks vs
  | d :: ds, ks, vs, Q => f d fun k v => k.isKey = true ∧ dcGo f ds (putKey k v ks vs).1 (putKey k v ks vs).2 Q
abbrev XS := Xc → List Sl → Prop
def vars : ME → List Nat
  | .var i => [i]
  | .con _ => []
  | .glo _ _ => []
  | .op _ as => vars as
  | .bm _ o as => vars o ++ vars as
  | .chn _ _ a b c => vars a ++ (vars b ++ vars c)
  | .and a b => vars a ++ vars b
  | .or a b => vars a ++ vars b
  | .not a => vars a
  | .ife c a b => vars c ++ (vars a ++ vars b)
  | .isi _ a => vars a
  | .call _ as => vars as
  | .callh _ _ as => vars as
  | .meth _ o as => vars o ++ vars as
  | .eqo _ _ as => vars as
  | .lz a b => vars a ++ vars b
  | .ds1 a b => vars a ++ vars b
  | .ss _ a => vars a
  | .make _ as => vars as
  | .slc a lo hi => vars a ++ (vars lo ++ vars hi)
  | .nop => []
  | .lc _ elt _ it tst => vars it ++ (vars tst ++ vars elt)
  | .dc _ k v _ it => vars it ++ (vars k ++ vars v)
  | .dsp ks vs => vars ks ++ vars vs
  | .pop _ => []
  | .popAt _ e => vars e
  | .anil => []
  | .acons a r => vars a ++ vars r
  | .itS a => vars a
  | .itX i => [i]
  | .itR as => vars as
  | .itE a => vars a
  | .itZ a b => vars a ++ vars b
  | .itI a => vars a
def pops : ME → List Nat
  | .var _ => []
  | .con _ => []
  | .glo _ _ => []
  | .op _ as => pops as
  | .bm _ o as => pops o ++ pops as
  | .chn _ _ a b c => pops a ++ (pops b ++ pops c)
  | .and a b => pops a ++ pops b
  | .or a b => pops a ++ pops b
  | .not a => pops a
  | .ife c a b => pops c ++ (pops a ++ pops b)
  | .isi _ a => pops a
  | .call _ as => pops as
  | .callh _ _ as => pops as
  | .meth _ o as => pops o ++ pops as
  | .eqo _ _ as => pops as
  | .lz a b => pops a ++ pops b
  | .ds1 a b => pops a ++ pops b
  | .ss _ a => pops a
  | .make _ as => pops as
  | .slc a lo hi => pops a ++ (pops lo ++ pops hi)
  | .nop => []
  | .lc _ elt _ it tst => pops it ++ (pops tst ++ pops elt)
  | .dc _ k v _ it => pops it ++ (pops k ++ pops v)
  | .dsp ks vs => pops ks ++ pops vs
  | .pop i => [i]
  | .popAt i e => i :: pops e
  | .anil => []
  | .acons a r => pops a ++ pops r
  | .itS a => pops a
  | .itX _ => []
  | .itR as => pops as
  | .itE a => pops a
  | .itZ a b => pops a ++ pops b
  | .itI a => pops a
structure WT where
  v : List Sl → (D → List Sl → Prop) → XS → Prop
  t : List Sl → (Bool → List Sl → Prop) → XS → Prop
  a : List Sl → (List D → List Sl → Prop) → XS → Prop
  i : List Sl → (List D → List Sl → Prop) → XS → Prop
def noW : List Sl → (List D → List Sl → Prop) → XS → Prop := fun _ _ _ => False
abbrev mkV (v : List Sl → (D → List Sl → Prop) → XS → Prop) : WT := ⟨v, fun S Q E => v S (fun d S1 => truW d fun k => Q k S1) E, noW, noW⟩
abbrev mkA (a : List Sl → (List D → List Sl → Prop) → XS → Prop) : WT := ⟨fun _ _ _ => False, fun _ _ _ => False, a, noW⟩
abbrev mkI (i : List Sl → (List D → List Sl → Prop) → XS → Prop) : WT := ⟨fun _ _ _ => False, fun _ _ _ => False, noW, i⟩
def noX : XS := fun _ _ => False
/-- a turn of a comprehension -/
def lcF (g : TG) (vs : List Nat) (S1 : List Sl) (t elt : WT) : D → (Option D → Prop) → Prop := fun d K =>
  tgW g d (wip vs S1) fun S2 => t.t S2 (fun b _ => if b = true then elt.v S2 (fun y _ => K (some y)) noX else K none) noX
def dcF (g : TG) (vs : List Nat) (S1 : List Sl) (k v : WT) : D → (D → D → Prop) → Prop := fun d K =>
  tgW g d (wip vs S1) fun S2 => k.v S2 (fun x _ => v.v S2 (fun y _ => K x y) noX) noX
def W : ME → WT
  | .var i => mkV fun S Q _ => ∃ d, getS S i = some d ∧ Q d S
  | .con d => mkV fun S Q _ => Q d S
  | .glo _ d => mkV fun S Q _ => Q d S
  | .op o as => mkV fun S Q E => (W as).a S (fun ds S' => o.sem ds fun d => Q d S') E
  | .bm m o as => mkV fun S Q E => (W o).v S (fun d S1 => m.hd d = true ∧ (W as).a S1 (fun ds S' => bmSem m (d :: ds) fun d => Q d S') E) E
  | .chn o1 o2 a b c => mkV fun S Q E => (W a).v S (fun d1 S1 => (W b).v S1 (fun d2 S2 => cmpSem o1 d1 d2 fun r => ∃ k, r = .bl k ∧
      if k = true then (W c).v S2 (fun d3 S3 => cmpSem o2 d2 d3 fun r => Q r S3) E else Q (.bl false) S2) E) E
  | .and a b => ⟨fun S Q E => (W a).v S (fun d S1 => truW d fun k => if k = true then (W b).v S1 Q E else Q d S1) E, fun S Q E => (W a).t S (fun k S1 => if k = true then (W b).t S1 Q E else Q false S1) E, noW, noW⟩
  | .or a b => ⟨fun S Q E => (W a).v S (fun d S1 => truW d fun k => if k = true then Q d S1 else (W b).v S1 Q E) E, fun S Q E => (W a).t S (fun k S1 => if k = true then Q true S1 else (W b).t S1 Q E) E, noW, noW⟩
  | .not a => ⟨fun S Q E => (W a).v S (fun d S1 => truW d fun k => Q (.bl (!k)) S1) E, fun S Q E => (W a).t S (fun k S1 => Q (!k) S1) E, noW, noW⟩
  | .ife c a b => mkV fun S Q E => (W c).t S (fun k S1 => if k = true then (W a).v S1 Q E else (W b).v S1 Q E) E
  | .isi ts a => mkV fun S Q E => (W a).v S (fun d S1 => d.tyd = true ∧ Q (.bl (ts.any fun t => d.isTy t)) S1) E
  | .call sp as => mkV fun S Q E => (W as).a S (fun ds S' => ds.length = sp.ar ∧ sp.spec ds (fun d => Q d S') fun x => E x S') E
  | .callh sp h as => mkV fun S Q E => (∃ a c, S[h]? = some (.hn a c)) ∧ (W as).a S (fun ds S' => ds.length = sp.ar ∧ sp.spec ds (fun d => Q d S') fun x => E x S') E
  | .meth sp o as => mkV fun S Q E => (W o).v S (fun d S1 => (∃ fs ds, d = .ins sp.cls fs ds ∧ sp.name ∉ fs) ∧ (W as).a S1 (fun ds S' => (d :: ds).length = sp.ar ∧ sp.spec (d :: ds) (fun d => Q d S') fun x => E x S') E) E
  | .eqo neg sp as => mkV fun S Q E => (W as).a S (fun ds S' => (∃ fs d1 gs e1, ds = [.ins sp.cls fs d1, .ins sp.cls gs e1]) ∧ ds.length = sp.ar ∧ sp.spec ds (fun d => ∃ r, d = .bl r ∧ Q (.bl (r != neg)) S') fun _ => False) E
  | .lz a b => mkV fun S Q E => (W a).v S (fun d S1 => (W b).v S1 (fun e S2 => ∃ ds es, d = .tup ds ∧ e = .tup es ∧ min ds.length es.length ≤ lim ∧ Q (.lst (zipT ds es)) S2) E) E
  | .ds1 a b => mkV fun S Q E => (W a).v S (fun d1 S1 => (W b).v S1 (fun d2 S2 => d1.isKey = true ∧ Q (.dct [d1] [d2]) S2) E) E
  | .ss b a => mkV fun S Q E => (W a).v S (fun d S1 => ∃ ds ns, d = .tup ds ∧ intsOf ds = some ns ∧ ns.length ≤ 60 ∧ ∀ out : List Int, out.Nodup → (∀ k, k ∈ out ↔ k ∈ ns) → (b = true → out.Pairwise (· < ·)) → Q (if b = true then .lst (out.map D.int) else .int out.length) S1) E
  | .make sp as => mkV fun S Q E => (W as).a S (fun ds S' => ds.length = sp.ar ∧ sp.spec ds (fun vs => vs.length = sp.fs.length ∧ Q (.ins sp.name sp.fs vs) S') fun x => E x S') E
  | .slc a lo hi => mkV fun S Q E => (W a).v S (fun d S1 => (W lo).v S1 (fun l S2 => ∃ l', partOf lo l = some l' ∧ (W hi).v S2 (fun h S3 => ∃ h', partOf hi h = some h' ∧ slcSem d l' h' fun r => Q r S3) E) E) E
  | .nop => mkV fun S Q _ => Q .non S
  | .lc vs elt g it tst => mkV fun S Q E => (W it).i S (fun items S1 => items.length ≤ lim ∧ noHn vs S1 = true ∧ lcGo (lcF g vs (frz (vars it ++ (vars tst ++ vars elt)) S1) (W tst) (W elt)) items [] fun ys => Q (.lst ys) S1) E
  | .dc vs k v g it => mkV fun S Q E => (W it).i S (fun items S1 => items.length ≤ lim ∧ noHn vs S1 = true ∧ dcGo (dcF g vs (frz (vars it ++ (vars k ++ vars v)) S1) (W k) (W v)) items [] [] fun ks ws => Q (.dct ks ws) S1) E
  | .dsp ks vs => mkV fun S Q E => (W ks).a S (fun a S1 => (W vs).a S1 (fun b S2 => a = [] ∧ b = [] ∧ Q (.dct [] []) S2) E) E
  | .pop i => mkV fun S Q _ => ∃ ds d, getO S i = some (.lst ds) ∧ ds.getLast? = some d ∧ Q d (S.set i (.ow (.lst ds.dropLast)))
  | .popAt i e => mkV fun S Q E => (∃ ds, getO S i = some (.lst ds)) ∧ (W e).v S (fun d S1 => ∃ k ds j x, d = .int k ∧ getO S1 i = some (.lst ds) ∧ -(2 ^ 63) ≤ k ∧ k < 2 ^ 63 ∧ ixAt ds.length k = some j ∧ ds[j]? = some x ∧ Q x (S1.set i (.ow (.lst (ds.eraseIdx j))))) E
  | .anil => mkA fun S Q _ => Q [] S
  | .acons a r => mkA fun S Q E => (W a).v S (fun d S1 => (W r).a S1 (fun ds S2 => Q (d :: ds) S2) E) E
  | .itS a => mkI fun S Q E => (W a).v S (fun d S1 => iterS d fun ds => Q ds S1) E
  | .itX i => mkI fun S Q _ => ∃ d, getS S i = some d ∧ iterS d fun ds => Q ds S
  | .itR as => mkI fun S Q E => (W as).a S (fun ds S1 => rngSem ds fun xs => Q xs S1) E
  | .itE a => mkI fun S Q E => (W a).v S (fun d S1 => ∃ ds, seqOf d = some ds ∧ Q (enumFrom 0 ds) S1) E
  | .itZ a b => mkI fun S Q E => (W a).v S (fun d S1 => (W b).v S1 (fun e S2 => ∃ ds es, ((d = .lst ds ∧ e = .lst es) ∨ (d = .tup ds ∧ e = .tup es)) ∧ Q (zipT ds es) S2) E) E
  | .itI _ => mkI noW
abbrev ev (m : ME) := (W m).v
abbrev evT (m : ME) := (W m).t
abbrev evs (m : ME) := (W m).a
abbrev evi (m : ME) := (W m).i

structure En where
  nx : List Sl → Prop
  rt : D → List Sl → Prop
  bk : List Sl → Prop := fun _ => False
  ct : List Sl → Prop := fun _ => False
  ex : XS := fun _ _ => False
/-- what is handed on is hard: no slot's thing is shared; else those that the term reads stay as they are -/
def thaw (k : Bool) (vs : List Nat) (S : List Sl) : List Sl := if k = true then S else frz vs S
def mkSl (own : Bool) (d : D) : Sl := if own = true then .ow d else .va d
def okSl (own : Bool) (d : D) : Bool := if own = true then d.hardIn else d.hard
def lock (o : Option Nat) (p : Nat) (S : List Sl) : List Sl := match o with
  | some i => (match S[i]? with
    | some (.ow d) => S.set i (.lk p d)
    | _ => S)
  | none => S
def unlock (o : Option Nat) (S : List Sl) : List Sl := match o with
  | some i => (match S[i]? with
    | some (.lk _ d) => S.set i (.ow d)
    | _ => S)
  | none => S
/-- the locked slot stands -/
def held (o : Option Nat) (S0 S : List Sl) : Prop := match o with
  | some i => S[i]? = S0[i]?
  | none => True
def itSlot : ME → Option Nat
  | .itX i => some i
  | _ => none
def frGo (g : TG) (b : En → List Sl → Prop) (E : En) (hd : List Sl → Prop) (fin : List Sl → Prop) : List D → List Sl → Prop
  | [], S => hd S ∧ fin S
  | d :: ds, S => hd S ∧ tgW g d S fun S' => b { nx := frGo g b E hd fin ds, rt := E.rt, bk := fun S2 => hd S2 ∧ fin S2, ct := frGo g b E hd fin ds, ex := E.ex } S'
def whGo (c : WT) (b : En → List Sl → Prop) (E : En) : Nat → List Sl → Prop
  | 0, _ => False
  | n + 1, S => c.t S (fun k S1 => if k = true then b { nx := whGo c b E n, rt := E.rt, bk := E.nx, ct := whGo c b E n, ex := E.ex } S1 else E.nx S1) E.ex
/-- name, .. = e, .. -/
def parW : List (Nat × Bool × ME) → List Sl → (List D → List Sl → Prop) → XS → Prop
  | [], S, Q, _ => Q [] S
  | (_, f, m) :: r, S, Q, E => (W m).v S (fun d S1 => (f = true → d.isCon = true) ∧ parW r S1 (fun ds S2 => Q (d :: ds) S2) E) E
def parSet : List (Nat × Bool × ME) → List D → List Sl → List Sl
  | (i, f, _) :: r, d :: ds, S => parSet r ds (S.set i (mkSl f d))
  | _, _, S => S
def parOk : List (Nat × Bool × ME) → List D → Bool
  | (_, f, _) :: r, d :: ds => okSl f d && parOk r ds
  | _, _ => true
def parVars : List (Nat × Bool × ME) → List Nat
  | [] => []
  | (_, _, m) :: r => vars m ++ parVars r
def parPops : List (Nat × Bool × ME) → List Nat
  | [] => []
  | (_, _, m) :: r => pops m ++ parPops r
def WS : MS → En → List Sl → Prop
  | .nil, E, S => E.nx S
  | .seq s r, E, S => WS s { nx := fun S' => WS r E S', rt := E.rt, bk := E.bk, ct := E.ct, ex := E.ex } S
  | .asg g e, E, S => (W e).v S (fun d S' => tgW g d (thaw d.hard (vars e) S') E.nx) E.ex
  | .par l, E, S => parW l S (fun ds S' => E.nx (parSet l ds (thaw (parOk l ds) (parVars l) S'))) E.ex
  | .aug i o e, E, S => ∃ x, getS S i = some x ∧ (W e).v S (fun y S' => binSem o x y fun r => (∃ n, r = .int n) ∧ E.nx (S'.set i (.va r))) E.ex
  | .exp e, E, S => (W e).v S (fun _ S' => E.nx S') E.ex
  | .app i e, E, S => (∃ ds, getO S i = some (.lst ds)) ∧ (W e).v S (fun d S' => ∃ ds, getO (thaw d.hard (vars e) S') i = some (.lst ds) ∧ ds.length < lim ∧ E.nx ((thaw d.hard (vars e) S').set i (.ow (.lst (ds ++ [d]))))) E.ex
  | .ext i e, E, S => (∃ ds, getO S i = some (.lst ds)) ∧ (W e).v S (fun d S' => ∃ es ds, d = .lst es ∧ getO (thaw (hardAll es) (vars e) S') i = some (.lst ds) ∧ ds.length + es.length ≤ lim ∧ E.nx ((thaw (hardAll es) (vars e) S').set i (.ow (.lst (ds ++ es))))) E.ex
  | .sti i k e, E, S => (W e).v S (fun d S1 => (∃ d', getO S1 i = some d') ∧ (W k).v S1 (fun x S2 =>
      (∃ ds n j, getO (thaw d.hard (vars e) S2) i = some (.lst ds) ∧ x = .int n ∧ ixAt ds.length n = some j ∧ E.nx ((thaw d.hard (vars e) S2).set i (.ow (.lst (ds.set j d))))) ∨
      (∃ ks vs, getO (thaw d.hard (vars e) S2) i = some (.dct ks vs) ∧ x.isKey = true ∧ ks.length < lim ∧ E.nx ((thaw d.hard (vars e) S2).set i (.ow (.dct (putKey x d ks vs).1 (putKey x d ks vs).2))))) E.ex) E.ex
  | .ret e, E, S => (W e).v S (fun d S' => E.rt d S') E.ex
  | .retn, E, S => E.rt .non S
  | .ifs c a b, E, S => (W c).t S (fun k S' => if k = true then WS a E S' else WS b E S') E.ex
  | .fr g it b, E, S => (W it).i S (fun items S1 => match itSlot it with
    | some i => (match S1[i]? with
      | some (.ow _) => ∀ p, frGo g (WS b) E (held (some i) (lock (some i) p S1)) (fun S2 => E.nx (unlock (some i) S2)) items (lock (some i) p S1)
      | _ => frGo g (WS b) E (held (some i) S1) E.nx items S1)
    | none => frGo g (WS b) E (fun _ => True) E.nx items (frz (vars it) S1)) E.ex
  | .wh c b, E, S => ∃ n, whGo (W c) (WS b) E n S
  | .rs c ns as, E, S => (W as).a S (fun ds S' => ds.length = ns.length ∧ hardAll ds = true ∧ E.ex ⟨c, ns, ds⟩ S') E.ex
  | .pas, E, S => E.nx S
  | .con, E, S => E.ct S
  | .brk, E, S => E.bk S
  | .sef _ _, _, _ => False
  | .mkh i j, E, S => (∃ ns, S[j]? = some (.va (.scr ns))) ∧ ∀ a c, E.nx (S.set i (.hn a c))
  | .nev, _, _ => False
def hst (hd : Option (Nat × Nat)) (S : List Sl) : Prop := match hd with
  | some (a, c) => S[0]? = some (.hn a c)
  | none => True
def slots0 (hd : Option (Nat × Nat)) (ds : List D) (n : Nat) : List Sl := (match hd with
  | some (a, c) => [Sl.hn a c]
  | none => []) ++ (ds.map Sl.va ++ List.replicate n .un)
/-- self.f = e, .. -/
def sefW : List (Str × ME) → List Sl → (List D → Prop) → XS → Prop
  | [], _, Q, _ => Q []
  | (_, m) :: r, S, Q, E => (W m).v S (fun d S1 => sefW r (thaw d.hard (vars m) S1) (fun ds => Q (d :: ds)) E) E
end Mi
set_option maxHeartbeats 1000000
namespace Mi
open PySem PySem.Spec L2

def keyD : Key → D
  | .inl i => .int i
  | .inr s => .str s
/-- the classes whose instances are values of ours -/
def allCls : List Str := ["Record", "Showing", "Picks", "Shares", "Shop", "Spending", "Leasts"]
def KC (K : PySem.W.Frag) (x : Str) : Prop := x ∈ allCls ∧ PySem.W.nsIn K mainGlobals x = some (some (.ref (He.ga K x)))
def InsOk (K : PySem.W.Frag) (c : Str) (fs : List Str) : Prop := KC K c ∧ ∀ f ∈ fs, NoAttr K (He.ga K c) f
mutual
def Rep (K : PySem.W.Frag) (G : Hp) : D → V → Prop
  | .non, v => v = .non
  | .bl b, v => v = .bl b
  | .int i, v => v = .int i
  | .str s, v => v = .str s
  | .tup ds, v => ∃ a vs, v = .ref a ∧ SqT K G a vs ∧ Reps K G ds vs
  | .lst ds, v => ∃ a vs, v = .ref a ∧ G a = some (.lst vs) ∧ Reps K G ds vs
  | .dct ks ws, v => ∃ a kvs, v = .ref a ∧ Rd G a (.dK kvs) ∧ kvs.map (fun kv => keyD kv.1) = ks ∧ Reps K G ws (kvs.map (·.2))
  | .set _, _ => False
  | .ins c fs ds, v => ∃ a dx flds, v = .ref a ∧ G a = some (.ins (He.ga K c) dx flds) ∧ G dx = some (.own a) ∧ flds.map (·.1) = fs ∧ InsOk K c fs ∧ Reps K G ds (flds.map (·.2))
  | .rng lo hi, v => ∃ a, v = .ref a ∧ G a = some (.rng lo hi)
  | .fn x, v => v = .ref (He.ga K x)
  | .scr ns, v => ∃ a, v = .ref a ∧ SqL K G a (ns.map V.int)
def Reps (K : PySem.W.Frag) (G : Hp) : List D → List V → Prop
  | [], vs => vs = []
  | d :: ds, vs => ∃ v r, vs = v :: r ∧ Rep K G d v ∧ Reps K G ds r
end
section
variable {K : PySem.W.Frag} {G G' : Hp}
theorem SqT.up (e : Same G G') {a : Addr} {vs : List V} (h : SqT K G a vs) : SqT K G' a vs := by
  rcases h with (h | ⟨o, h⟩) | h
  · exact .inl (.inl (e _ _ h))
  · exact .inl (.inr ⟨o, e _ _ h⟩)
  · exact .inr h
mutual
theorem Rep.up (e : Same G G') : ∀ {d : D} {v : V}, Rep K G d v → Rep K G' d v
  | .non, _, h => h
  | .bl _, _, h => h
  | .int _, _, h => h
  | .str _, _, h => h
  | .tup ds, _, h => by
    obtain ⟨a, vs, h1, h2, h3⟩ := h
    exact ⟨a, vs, h1, SqT.up e h2, Reps.up e h3⟩
  | .lst ds, _, h => by
    obtain ⟨a, vs, h1, h2, h3⟩ := h
    exact ⟨a, vs, h1, e _ _ h2, Reps.up e h3⟩
  | .dct ks ws, _, h => by
    obtain ⟨a, kvs, h1, h2, h3, h4⟩ := h
    exact ⟨a, kvs, h1, h2.elim (fun z => .inl (e _ _ z)) (fun ⟨o, z⟩ => .inr ⟨o, e _ _ z⟩), h3, Reps.up e h4⟩
  | .set _, _, h => h
  | .ins c fs ds, _, h => by
    obtain ⟨a, dx, fl, h1, h2, h3, h4, h6, h5⟩ := h
    exact ⟨a, dx, fl, h1, e _ _ h2, e _ _ h3, h4, h6, Reps.up e h5⟩
  | .rng lo hi, _, h => by
    obtain ⟨a, h1, h2⟩ := h
    exact ⟨a, h1, e _ _ h2⟩
  | .fn x, _, h => h
  | .scr ns, _, h => by
    obtain ⟨a, h1, h2⟩ := h
    exact ⟨a, h1, e.seq h2⟩
theorem Reps.up (e : Same G G') : ∀ {ds : List D} {vs : List V}, Reps K G ds vs → Reps K G' ds vs
  | [], _, h => h
  | d :: ds, _, h => by
    obtain ⟨v, r, h1, h2, h3⟩ := h
    exact ⟨v, r, h1, Rep.up e h2, Reps.up e h3⟩
end
/-- the tuples alone -/
def tups (G : Hp) : Hp := fun a => match G a with
  | some (.tup xs) => some (.tup xs)
  | some (.frz o (.tup xs)) => some (.frz o (.tup xs))
  | _ => none
theorem tups_sub : Same (tups G) G := fun a o h => by
  unfold tups at h
  split at h <;> first | (cases h; assumption) | cases h
theorem tups_tup {a : Addr} {xs : List V} (h : G a = some (.tup xs)) : tups G a = some (.tup xs) := by
  unfold tups
  rw [h]
theorem SqT.tups {a : Addr} {vs : List V} (h : SqT K G a vs) : SqT K (Mi.tups G) a vs := by
  rcases h with (h | ⟨o, h⟩) | h
  · exact .inl (.inl (tups_tup h))
  · refine .inl (.inr ⟨o, ?_⟩)
    unfold Mi.tups
    rw [h]
  · exact .inr h
mutual
/-- hard data lean on tuples alone -/
theorem Rep.hard : ∀ {d : D} {v : V}, d.hard = true → Rep K G d v → Rep K (tups G) d v
  | .non, _, _, h => h
  | .bl _, _, _, h => h
  | .int _, _, _, h => h
  | .str _, _, _, h => h
  | .tup ds, _, q, h => by
    obtain ⟨a, vs, h1, h2, h3⟩ := h
    exact ⟨a, vs, h1, SqT.tups h2, Reps.hard (by simpa [D.hard] using q) h3⟩
  | .lst ds, _, q, _ => by simp [D.hard] at q
  | .dct ks ws, _, q, _ => by simp [D.hard] at q
  | .set _, _, q, _ => by simp [D.hard] at q
  | .ins c fs ds, _, q, _ => by simp [D.hard] at q
  | .rng lo hi, _, q, _ => by simp [D.hard] at q
  | .fn x, _, _, h => h
  | .scr ns, _, q, _ => by simp [D.hard] at q
theorem Reps.hard : ∀ {ds : List D} {vs : List V}, hardAll ds = true → Reps K G ds vs → Reps K (tups G) ds vs
  | [], _, _, h => h
  | d :: ds, _, q, h => by
    obtain ⟨v, r, h1, h2, h3⟩ := h
    have q' : d.hard = true ∧ hardAll ds = true := by simpa [hardAll] using q
    exact ⟨v, r, h1, Rep.hard q'.1 h2, Reps.hard q'.2 h3⟩
end
theorem Reps.len : ∀ {ds : List D} {vs : List V}, Reps K G ds vs → ds.length = vs.length
  | [], _, h => by
    have e : _ = [] := h
    rw [e] <;> rfl
  | d :: ds, _, h => by
    obtain ⟨v, r, h1, h2, h3⟩ := h
    rw [h1, List.length_cons, List.length_cons, Reps.len h3]
theorem Reps.get : ∀ {ds : List D} {vs : List V} {i : Nat} {d : D}, Reps K G ds vs → ds[i]? = some d → ∃ v, vs[i]? = some v ∧ Rep K G d v
  | [], _, _, _, _, e => by simp at e
  | x :: ds, _, 0, d, h, e => by
    obtain ⟨v, r, rfl, h2, h3⟩ := h
    simp at e
    subst e
    exact ⟨v, rfl, h2⟩
  | x :: ds, _, i + 1, d, h, e => by
    obtain ⟨v, r, rfl, h2, h3⟩ := h
    obtain ⟨w, h4, h5⟩ := Reps.get (i := i) (d := d) h3 (by simpa using e)
    exact ⟨w, by simpa using h4, h5⟩
theorem Reps.getv : ∀ {ds : List D} {vs : List V} {i : Nat} {v : V}, Reps K G ds vs → vs[i]? = some v → ∃ d, ds[i]? = some d ∧ Rep K G d v
  | [], vs, _, _, h, e => by
    have z : vs = [] := h
    rw [z] at e
    simp at e
  | x :: ds, _, 0, v, h, e => by
    obtain ⟨w, r, rfl, h2, h3⟩ := h
    simp at e
    subst e
    exact ⟨x, rfl, h2⟩
  | x :: ds, _, i + 1, v, h, e => by
    obtain ⟨w, r, rfl, h2, h3⟩ := h
    obtain ⟨d, h4, h5⟩ := Reps.getv (i := i) (v := v) h3 (by simpa using e)
    exact ⟨d, by simpa using h4, h5⟩
theorem Reps.app : ∀ {ds es : List D} {vs ws : List V}, Reps K G ds vs → Reps K G es ws → Reps K G (ds ++ es) (vs ++ ws)
  | [], _, _, _, h, h' => by
    have e : _ = [] := h
    rw [e]
    exact h'
  | d :: ds, _, _, _, h, h' => by
    obtain ⟨v, r, rfl, h2, h3⟩ := h
    exact ⟨v, r ++ _, rfl, h2, Reps.app h3 h'⟩
theorem Reps.one {d : D} {v : V} (h : Rep K G d v) : Reps K G [d] [v] := ⟨v, [], rfl, h, rfl⟩
theorem Reps.drop : ∀ {ds : List D} {vs : List V} (n : Nat), Reps K G ds vs → Reps K G (ds.drop n) (vs.drop n)
  | _, _, 0, h => h
  | [], vs, n + 1, h => by
    have e : vs = [] := h
    rw [e]
    rfl
  | d :: ds, _, n + 1, h => by
    obtain ⟨v, r, rfl, h2, h3⟩ := h
    exact Reps.drop n h3
theorem Reps.take : ∀ {ds : List D} {vs : List V} (n : Nat), Reps K G ds vs → Reps K G (ds.take n) (vs.take n)
  | _, _, 0, h => by simp [Reps]
  | [], vs, n + 1, h => by
    have e : vs = [] := h
    rw [e]
    rfl
  | d :: ds, _, n + 1, h => by
    obtain ⟨v, r, rfl, h2, h3⟩ := h
    exact ⟨v, r.take n, rfl, h2, Reps.take n h3⟩
theorem Reps.set : ∀ {ds : List D} {vs : List V} {d : D} {v : V} (i : Nat), Rep K G d v → Reps K G ds vs → Reps K G (ds.set i d) (vs.set i v)
  | [], vs, d, v, i, _, h => by
    have e : vs = [] := h
    rw [e]
    rfl
  | x :: ds, _, d, v, 0, hd, h => by
    obtain ⟨w, r, rfl, h2, h3⟩ := h
    exact ⟨v, r, rfl, hd, h3⟩
  | x :: ds, _, d, v, i + 1, hd, h => by
    obtain ⟨w, r, rfl, h2, h3⟩ := h
    exact ⟨w, r.set i v, rfl, h2, Reps.set i hd h3⟩
theorem Reps.erase : ∀ {ds : List D} {vs : List V} (i : Nat), Reps K G ds vs → Reps K G (ds.eraseIdx i) (vs.eraseIdx i)
  | [], vs, i, h => by
    have e : vs = [] := h
    rw [e]
    rfl
  | x :: ds, _, 0, h => by
    obtain ⟨w, r, rfl, h2, h3⟩ := h
    exact h3
  | x :: ds, _, i + 1, h => by
    obtain ⟨w, r, rfl, h2, h3⟩ := h
    exact ⟨w, r.eraseIdx i, rfl, h2, Reps.erase i h3⟩
theorem Reps.dropLast {ds : List D} {vs : List V} (h : Reps K G ds vs) : Reps K G ds.dropLast vs.dropLast := by
  rw [List.dropLast_eq_take, List.dropLast_eq_take, h.len]
  exact Reps.take _ h
theorem Reps.nil_iff {vs : List V} : Reps K G [] vs ↔ vs = [] := Iff.rfl
theorem Reps.cons_iff {d : D} {ds : List D} {vs : List V} : Reps K G (d :: ds) vs ↔ ∃ v r, vs = v :: r ∧ Rep K G d v ∧ Reps K G ds r := Iff.rfl
end

/-- the law's hand: [cells, place, rest, mix, count] -/
def HandOk (G H : Hp) (a c : Addr) : Prop := ∃ (xs : List Int) (i r m n : Int), H a = some (.lst [.ref c, .int i, .int r, .int m, .int n]) ∧ G c = some (.lst (xs.map V.int)) ∧
  xs.length ≤ 63 ∧ (∀ x ∈ xs, 0 ≤ x) ∧ 0 ≤ i ∧ 0 ≤ r
/-- where the def began: the heap, what of it stays -/
structure IC where
  He : Hp
  Ge : Hp
  ex : Addr → Prop
def isOwn : Sl → Bool
  | .ow _ => true
  | .lk _ _ => true
  | _ => false
def Own (S : List Sl) (i : Nat) : Prop := ∃ s, S[i]? = some s ∧ isOwn s = true
def hs (S : List Sl) (a : Addr) : Prop := ∃ (i : Nat) (c : Addr), S[i]? = some (Sl.hn a c)
def Cell (K : PySem.W.Frag) (G H : Hp) (p : Addr) : D → Prop
  | .lst ds => ∃ vs, H p = some (.lst vs) ∧ Reps K G ds vs
  | .dct ks ws => ∃ kvs, H p = some (.dK kvs) ∧ kvs.map (fun kv => keyD kv.1) = ks ∧ Reps K G ws (kvs.map (·.2))
  | _ => False
def CellL (K : PySem.W.Frag) (G H : Hp) (p : Addr) : D → Prop
  | .lst ds => ∃ vs, H p = some (.lst vs) ∧ Reps K G ds vs
  | .dct ks ws => ∃ o kvs, H p = some (.frz o (.dK kvs)) ∧ kvs.map (fun kv => keyD kv.1) = ks ∧ Reps K G ws (kvs.map (·.2))
  | _ => False
def SlOk (K : PySem.W.Frag) (C : IC) (G H : Hp) (x : Option (Option V)) : Sl → Prop
  | .un => True
  | .va d => ∃ v, x = some (some v) ∧ Rep K G d v
  | .hn a c => x = some (some (.ref a)) ∧ HandOk G H a c ∧ G a = none ∧ (C.ex a ∨ C.He a = none)
  | .sc a ns => x = some (some (.ref a))
  | .ow d => ∃ p, x = some (some (.ref p)) ∧ G p = none ∧ C.He p = none ∧ Cell K G H p d
  | .lk p d => x = some (some (.ref p)) ∧ G p = none ∧ C.He p = none ∧ CellL K G H p d
structure Rel (K : PySem.W.Frag) (C : IC) (G H : Hp) (σ : St) (S : List Sl) : Prop where
  sub : Same G H
  ge : Same C.Ge G
  new : ∀ a o, G a = some o → C.Ge a = some o ∨ C.He a = none
  frm : ∀ a o, C.He a = some o → ¬ C.ex a → H a = some o
  dom : ∀ a, C.He a ≠ none → H a ≠ none
  len : S.length = σ.length
  sl : ∀ (i : Nat) (s : Sl), S[i]? = some s → SlOk K C G H σ[i]? s
  dis : ∀ (i j : Nat) (p : Addr), i ≠ j → Own S i → Own S j → σ[i]? = some (some (.ref p)) → σ[j]? ≠ some (some (.ref p))
  hdis : ∀ (i : Nat) (p : Addr), Own S i → σ[i]? = some (some (.ref p)) → ¬ hs S p
def sk : Sl → Sl
  | .ow _ => .ow .non
  | .lk p _ => .lk p .non
  | s => s
/-- behind an expression: G the ground as it was, G2 what the value leans on -/
structure Post (K : PySem.W.Frag) (C : IC) (G H H2 : Hp) (σ : St) (S S2 : List Sl) (vs pp : List Nat) (G2 : Hp) : Prop where
  r0 : Rel K C G H σ S
  rel : Rel K C G H2 σ S2
  sub : Same G2 H2
  up : Same G G2
  src : ∀ a o, G2 a = some o → G a = some o ∨ H a = none ∨ ∃ i ∈ vs, Own S i ∧ σ[i]? = some (some (.ref a))
  frm : ∀ a o, H a = some o → ¬ hs S a → (∀ i ∈ pp, Own S i → σ[i]? ≠ some (some (.ref a))) → H2 a = some o
  knd : S2.map sk = S.map sk
section
variable {K : PySem.W.Frag} {C : IC} {G H H1 H2 G1 G2 : Hp} {σ : St} {S S1 S2 : List Sl} {vs ws pp qq : List Nat}
theorem knd_get (k : S2.map sk = S.map sk) (i : Nat) : (S2[i]?).map sk = (S[i]?).map sk := by
  have := congrArg (fun l => l[i]?) k
  simpa using this
theorem knd_own (k : S2.map sk = S.map sk) (i : Nat) : Own S2 i ↔ Own S i := by
  have e := knd_get k i
  unfold Own
  constructor
  · rintro ⟨s, h, o⟩
    rw [h] at e
    cases q : S[i]? with
    | none => rw [q] at e; cases e
    | some t =>
      rw [q] at e
      have e' : sk s = sk t := by simpa using e
      exact ⟨t, rfl, by cases s <;> cases t <;> simp_all [sk, isOwn]⟩
  · rintro ⟨s, h, o⟩
    rw [h] at e
    cases q : S2[i]? with
    | none => rw [q] at e; cases e
    | some t =>
      rw [q] at e
      have e' : sk t = sk s := by simpa using e
      exact ⟨t, rfl, by cases s <;> cases t <;> simp_all [sk, isOwn]⟩
theorem knd_hs (k : S2.map sk = S.map sk) (a : Addr) : hs S2 a ↔ hs S a := by
  unfold hs
  constructor
  · rintro ⟨i, c, h⟩
    have e := knd_get k i
    rw [h] at e
    cases q : S[i]? with
    | none => rw [q] at e; cases e
    | some t =>
      rw [q] at e
      have e' : sk (.hn a c) = sk t := by simpa using e
      cases t <;> simp [sk] at e'
      obtain ⟨rfl, rfl⟩ := e'
      exact ⟨i, _, q⟩
  · rintro ⟨i, c, h⟩
    have e := knd_get k i
    rw [h] at e
    cases q : S2[i]? with
    | none => rw [q] at e; cases e
    | some t =>
      rw [q] at e
      have e' : sk t = sk (.hn a c) := by simpa using e
      cases t <;> simp [sk] at e'
      obtain ⟨rfl, rfl⟩ := e'
      exact ⟨i, _, q⟩
theorem Rel.own_none (r : Rel K C G H σ S) {i : Nat} {p : Addr} (ow : Own S i) (hp : σ[i]? = some (some (.ref p))) : G p = none ∧ C.He p = none := by
  obtain ⟨s, h, o⟩ := ow
  have q := r.sl i s h
  cases s <;> simp [isOwn] at o
  · obtain ⟨p', e, n, n2, _⟩ := q
    rw [hp] at e; cases e
    exact ⟨n, n2⟩
  · obtain ⟨e, n, n2, _⟩ := q
    rw [hp] at e; cases e
    exact ⟨n, n2⟩
theorem Rel.hs_none (r : Rel K C G H σ S) {a : Addr} (h : hs S a) : G a = none := by
  obtain ⟨i, c, h⟩ := h
  exact (r.sl i _ h).2.2.1
theorem Cell.there {p : Addr} {d : D} (h : Cell K G H p d) : H p ≠ none := by
  cases d with
  | lst ds => obtain ⟨vs, h1, _⟩ := h; rw [h1]; exact fun z => nomatch z
  | dct ks ws => obtain ⟨kvs, h1, _⟩ := h; rw [h1]; exact fun z => nomatch z
  | _ => exact h.elim
theorem CellL.there {p : Addr} {d : D} (h : CellL K G H p d) : H p ≠ none := by
  cases d with
  | lst ds => obtain ⟨vs, h1, _⟩ := h; rw [h1]; exact fun z => nomatch z
  | dct ks ws => obtain ⟨o, kvs, h1, _⟩ := h; rw [h1]; exact fun z => nomatch z
  | _ => exact h.elim
theorem Rel.own_some (r : Rel K C G H σ S) {i : Nat} {p : Addr} (ow : Own S i) (e : σ[i]? = some (some (.ref p))) : H p ≠ none := by
  obtain ⟨s, h, o⟩ := ow
  have q := r.sl i s h
  cases s <;> simp [isOwn] at o
  · obtain ⟨p', e', _, _, c⟩ := q
    rw [e] at e'; cases e'
    exact c.there
  · obtain ⟨e', _, _, c⟩ := q
    rw [e] at e'; cases e'
    exact c.there
theorem Rel.hs_some (r : Rel K C G H σ S) {a : Addr} (h : hs S a) : H a ≠ none := by
  obtain ⟨i, c, h⟩ := h
  obtain ⟨_, ⟨xs, i, r, m, n, h1, _⟩, _⟩ := r.sl i _ h
  rw [h1]
  exact fun z => nomatch z
/-- nothing was done -/
theorem Post.same (r : Rel K C G H σ S) : Post K C G H H σ S S vs pp G :=
  ⟨r, r, r.sub, Same.refl _, fun a o h => .inl h, fun a o h _ _ => h, rfl⟩
theorem Post.avd (p : Post K C G H H2 σ S S2 vs pp G2) (i : Nat) (b : Addr) (hi : i ∉ vs) (ow : Own S2 i) (e : σ[i]? = some (some (.ref b))) : G2 b = none := by
  have ow0 := (knd_own p.knd i).mp ow
  cases q : G2 b with
  | none => rfl
  | some o =>
    rcases p.src b o q with z | z | ⟨j, hj, oj, ej⟩
    · rw [(p.r0.own_none ow0 e).1] at z; cases z
    · exact absurd z (p.r0.own_some ow0 e)
    · exact absurd ej (p.r0.dis i j b (fun z => hi (z ▸ hj)) ow0 oj e)
theorem Post.hav (p : Post K C G H H2 σ S S2 vs pp G2) (a : Addr) (h : hs S2 a) : G2 a = none := by
  have h0 := (knd_hs p.knd a).mp h
  cases q : G2 a with
  | none => rfl
  | some o =>
    rcases p.src a o q with z | z | ⟨j, hj, oj, ej⟩
    · rw [p.r0.hs_none h0] at z; cases z
    · exact absurd z (p.r0.hs_some h0)
    · exact absurd h0 (p.r0.hdis j a oj ej)
theorem Post.new (p : Post K C G H H2 σ S S2 vs pp G2) (a : Addr) (o : HO) (h : G2 a = some o) : C.Ge a = some o ∨ C.He a = none := by
  rcases p.src a o h with z | z | ⟨j, hj, oj, ej⟩
  · exact p.r0.new a o z
  · refine .inr ?_
    cases q : C.He a with
    | none => rfl
    | some u => exact absurd z (p.r0.dom a (by rw [q]; exact fun z => nomatch z))
  · exact .inr (p.r0.own_none oj ej).2
def joinG (G1 G2 : Hp) : Hp := fun a => match G1 a with
  | some o => some o
  | none => G2 a
theorem joinG_left : Same G1 (joinG G1 G2) := fun a o h => by
  unfold joinG
  rw [h]
theorem joinG_right (h1 : Same G1 H) (h2 : Same G2 H) : Same G2 (joinG G1 G2) := fun a o h => by
  unfold joinG
  cases q : G1 a with
  | none => exact h
  | some u =>
    have e1 := h1 a u q
    have e2 := h2 a o h
    rw [e1] at e2
    exact e2
theorem joinG_sub (h1 : Same G1 H) (h2 : Same G2 H) : Same (joinG G1 G2) H := fun a o h => by
  unfold joinG at h
  cases q : G1 a with
  | none => rw [q] at h; exact h2 a o h
  | some u =>
    rw [q] at h
    cases h
    exact h1 a _ q
theorem joinG_none {a : Addr} (h1 : G1 a = none) (h2 : G2 a = none) : joinG G1 G2 a = none := by
  unfold joinG
  rw [h1]
  exact h2
theorem joinG_cases {a : Addr} {o : HO} (h : joinG G1 G2 a = some o) : G1 a = some o ∨ G2 a = some o := by
  unfold joinG at h
  cases q : G1 a with
  | none => rw [q] at h; exact .inr h
  | some u => rw [q] at h; exact .inl h
/-- what the first value leans on stands behind the second -/
theorem Post.keep1 (p1 : Post K C G H H1 σ S S1 vs pp G1) (p2 : Post K C G H1 H2 σ S1 S2 ws qq G2) (hd : ∀ i ∈ qq, i ∉ vs) : Same G1 H2 := fun a o h => by
  refine p2.frm a o (p1.sub a o h) (fun hh => ?_) fun i hi ow e => ?_
  · rw [p1.hav a hh] at h; cases h
  · rw [p1.avd i a (hd i hi) ow e] at h; cases h
theorem Post.trans (p1 : Post K C G H H1 σ S S1 vs pp G1) (p2 : Post K C G H1 H2 σ S1 S2 ws qq G2) (hd : ∀ i ∈ qq, i ∉ vs) : Post K C G H H2 σ S S2 (vs ++ ws) (pp ++ qq) (joinG G1 G2) := by
  have k1 := p1.keep1 p2 hd
  refine ⟨p1.r0, p2.rel, joinG_sub k1 p2.sub, p1.up.trans joinG_left, fun a o h => ?_, fun a o h nh np => ?_, p2.knd.trans p1.knd⟩
  · rcases joinG_cases h with h | h
    · rcases p1.src a o h with z | z | ⟨j, hj, z⟩
      · exact .inl z
      · exact .inr (.inl z)
      · exact .inr (.inr ⟨j, List.mem_append_left _ hj, z⟩)
    · rcases p2.src a o h with z | z | ⟨j, hj, oj, ej⟩
      · exact .inl z
      · by_cases q : H a = none
        · exact .inr (.inl q)
        · obtain ⟨u, hu⟩ := Option.ne_none_iff_exists'.mp q
          by_cases nh : hs S a
          · have h2 := (knd_hs p1.knd a).mpr nh
            exact absurd z (p1.rel.hs_some h2)
          · by_cases np : ∀ i ∈ pp, Own S i → σ[i]? ≠ some (some (.ref a))
            · rw [p1.frm a u hu nh np] at z; cases z
            · have ⟨i, hi⟩ := Classical.not_forall.mp np
              have ⟨h3, h4⟩ := Classical.not_imp.mp hi
              have ⟨h5, h6⟩ := Classical.not_imp.mp h4
              have h7 := Classical.not_not.mp h6
              exact absurd z (p1.rel.own_some ((knd_own p1.knd i).mpr h5) h7)
      · exact .inr (.inr ⟨j, List.mem_append_right _ hj, (knd_own p1.knd j).mp oj, ej⟩)
  · refine p2.frm a o (p1.frm a o h nh fun i hi => np i (List.mem_append_left _ hi)) (fun z => nh ((knd_hs p1.knd a).mp z)) fun i hi ow => np i (List.mem_append_right _ hi) ((knd_own p1.knd i).mp ow)
theorem Post.mono (p : Post K C G H H1 σ S S1 vs pp G1) (h1 : ∀ i ∈ vs, i ∈ ws) (h2 : ∀ i ∈ pp, i ∈ qq) : Post K C G H H1 σ S S1 ws qq G1 :=
  ⟨p.r0, p.rel, p.sub, p.up, fun a o h => (p.src a o h).imp id (Or.imp id fun ⟨j, hj, z⟩ => ⟨j, h1 j hj, z⟩), fun a o h nh np => p.frm a o h nh fun i hi => np i (h2 i hi), p.knd⟩
/-- the value leans on nothing new -/
theorem Post.flat (p : Post K C G H H1 σ S S1 vs pp G1) : Post K C G H H1 σ S S1 ws pp G :=
  ⟨p.r0, p.rel, p.rel.sub, Same.refl _, fun a o h => .inl h, p.frm, p.knd⟩
end
end Mi
set_option maxHeartbeats 1000000
namespace Mi
open PySem PySem.Spec L2

section
variable {K : PySem.W.Frag} {C : IC} {G H H1 H2 G1 G2 : Hp} {σ : L2.St} {S S1 S2 : List Sl} {vs ws pp qq : List Nat}
theorem same_upd {p : Addr} {o : HO} (h : H p = none) : Same H (upd H p o) := fun a u e => by
  rw [upd_ne (ne_of_none e h)]
  exact e
theorem Cell.up {p : Addr} {d : D} (h : Cell K G H p d) (e : ∀ o, H p = some o → H2 p = some o) (u : Same G G2) : Cell K G2 H2 p d := by
  cases d with
  | lst ds =>
    obtain ⟨vs, h1, h2⟩ := h
    exact ⟨vs, e _ h1, h2.up u⟩
  | dct ks ws =>
    obtain ⟨kvs, h1, h2, h3⟩ := h
    exact ⟨kvs, e _ h1, h2, h3.up u⟩
  | _ => exact h.elim
theorem CellL.up {p : Addr} {d : D} (h : CellL K G H p d) (e : ∀ o, H p = some o → H2 p = some o) (u : Same G G2) : CellL K G2 H2 p d := by
  cases d with
  | lst ds =>
    obtain ⟨vs, h1, h2⟩ := h
    exact ⟨vs, e _ h1, h2.up u⟩
  | dct ks ws =>
    obtain ⟨o, kvs, h1, h2, h3⟩ := h
    exact ⟨o, kvs, e _ h1, h2, h3.up u⟩
  | _ => exact h.elim
theorem Cell.some {p : Addr} {d : D} (h : Cell K G H p d) : H p ≠ none := by
  cases d with
  | lst ds => obtain ⟨vs, h1, _⟩ := h; rw [h1]; exact fun z => nomatch z
  | dct ks ws => obtain ⟨kvs, h1, _⟩ := h; rw [h1]; exact fun z => nomatch z
  | _ => exact h.elim
theorem CellL.some {p : Addr} {d : D} (h : CellL K G H p d) : H p ≠ none := by
  cases d with
  | lst ds => obtain ⟨vs, h1, _⟩ := h; rw [h1]; exact fun z => nomatch z
  | dct ks ws => obtain ⟨o, kvs, h1, _⟩ := h; rw [h1]; exact fun z => nomatch z
  | _ => exact h.elim
theorem HandOk.up {a c : Addr} (h : HandOk G H a c) (e : ∀ o, H a = some o → H2 a = some o) (u : Same G G2) : HandOk G2 H2 a c := by
  obtain ⟨xs, i, r, m, n, h1, h2, h3⟩ := h
  exact ⟨xs, i, r, m, n, e _ h1, u _ _ h2, h3⟩
/-- the ground is kept, the heap is kept but where nothing of ours stands -/
theorem Rel.heap (r : Rel K C G H σ S) (hG : Same G H2) (hF : ∀ a o, C.He a = some o → ¬ C.ex a → H2 a = some o) (hD : ∀ a, C.He a ≠ none → H2 a ≠ none)
    (hO : ∀ (i : Nat) (p : Addr), Own S i → σ[i]? = some (some (.ref p)) → ∀ o, H p = some o → H2 p = some o) (hH : ∀ (i : Nat) (a c : Addr), S[i]? = some (Sl.hn a c) → HandOk G H2 a c) : Rel K C G H2 σ S := by
  refine ⟨hG, r.ge, r.new, hF, hD, r.len, fun i s h => ?_, r.dis, r.hdis⟩
  have q := r.sl i s h
  cases s with
  | un => exact q
  | va d =>
    exact q
  | hn a c => exact ⟨q.1, hH i a c h, q.2.2⟩
  | sc a ns => exact q
  | ow d =>
    obtain ⟨p, e, h1, h2, h3⟩ := q
    exact ⟨p, e, h1, h2, h3.up (hO i p ⟨_, h, rfl⟩ e) (Same.refl _)⟩
  | lk p d =>
    obtain ⟨e, h1, h2, h3⟩ := q
    exact ⟨e, h1, h2, h3.up (hO i p ⟨_, h, rfl⟩ e) (Same.refl _)⟩
theorem Rel.grow (r : Rel K C G H σ S) (e : Same H H2) : Rel K C G H2 σ S :=
  r.heap (r.sub.trans e) (fun a o h n => e _ _ (r.frm a o h n)) (fun a h z => r.dom a h (e.free z)) (fun _ _ _ _ o h => e _ _ h) fun i a c h => by
    exact (r.sl i _ h).2.1.up (fun o h => e _ _ h) (Same.refl _)
theorem Rel.none_of (r : Rel K C G H σ S) {p : Addr} (h : H p = none) : C.He p = none ∧ G p = none := by
  refine ⟨?_, r.sub.free h⟩
  cases q : C.He p with
  | none => rfl
  | some o => exact absurd h (r.dom p (by rw [q]; exact fun z => nomatch z))
/-- a place that is free now was free ahead, or is none of the slots' -/
theorem Post.free (p : Post K C G H H1 σ S S1 vs pp G1) {a : Addr} (h : H1 a = none) : H a = none := by
  cases q : H a with
  | none => rfl
  | some u =>
    by_cases nh : hs S a
    · exact absurd h (p.rel.hs_some ((knd_hs p.knd a).mpr nh))
    · by_cases np : ∀ i ∈ pp, Own S i → σ[i]? ≠ some (some (.ref a))
      · rw [p.frm a u q nh np] at h; cases h
      · have ⟨i, hi⟩ := Classical.not_forall.mp np
        have ⟨h3, h4⟩ := Classical.not_imp.mp hi
        have ⟨h5, h6⟩ := Classical.not_imp.mp h4
        exact absurd h (p.rel.own_some ((knd_own p.knd i).mpr h5) (Classical.not_not.mp h6))
/-- a new object on which the value leans -/
theorem Post.laid {p : Addr} {o : HO} (q : Post K C G H H1 σ S S1 vs pp G1) (hp : H1 p = none) : Post K C G H (upd H1 p o) σ S S1 vs pp (upd G1 p o) := by
  have g1 : G1 p = none := q.sub.free hp
  refine ⟨q.r0, q.rel.grow (same_upd hp), fun a u h => ?_, q.up.trans (same_upd g1), fun a u h => ?_, fun a u h nh np => ?_, q.knd⟩
  · by_cases e : a = p
    · subst e; rw [upd_same] at h ⊢; exact h
    · rw [upd_ne e] at h ⊢; exact q.sub a u h
  · by_cases e : a = p
    · subst e; exact .inr (.inl (q.free hp))
    · rw [upd_ne e] at h; exact q.src a u h
  · exact same_upd hp _ _ (q.frm a u h nh np)
/-- a new object that stands apart -/
theorem Post.apart {p : Addr} {o : HO} (q : Post K C G H H1 σ S S1 vs pp G1) (hp : H1 p = none) : Post K C G H (upd H1 p o) σ S S1 vs pp G1 :=
  ⟨q.r0, q.rel.grow (same_upd hp), q.sub.trans (same_upd hp), q.up, q.src, fun a u h nh np => same_upd hp _ _ (q.frm a u h nh np), q.knd⟩
end

def XRep (K : PySem.W.Frag) (G H : Hp) (cls : Value) (d : Option Addr) (x : Xc) : Prop :=
  cls = .ref (He.ga K x.c) ∧ hardAll x.fs = true ∧ ((x.ns = [] ∧ x.fs = [] ∧ d = none) ∨ ∃ dd flds, d = some dd ∧ H dd = some (.xd flds) ∧ (∀ n, flds.lookup n = (x.ns.zip (flds.map (·.2))).lookup n) ∧ Reps K G x.fs (flds.map (·.2)))
def liftX (K : PySem.W.Frag) (C : IC) (E : XS) : WX := fun cls d σ H => ∃ G S x, Rel K C G H σ S ∧ XRep K G H cls d x ∧ E x S
abbrev VW := List Sl → (D → List Sl → Prop) → XS → Prop
abbrev TW := List Sl → (Bool → List Sl → Prop) → XS → Prop
abbrev AW := List Sl → (List D → List Sl → Prop) → XS → Prop
def rdE (K : PySem.W.Frag) (C : IC) (w : VW) (vs pp : List Nat) (E : XS) : TE := fun σ H Qv => ∃ G S Q, Rel K C G H σ S ∧ w S Q E ∧
  ∀ d S2 v H2 G2, Post K C G H H2 σ S S2 vs pp G2 → Rep K G2 d v → Q d S2 → Qv v H2
def rdT (K : PySem.W.Frag) (C : IC) (w : TW) (vs pp : List Nat) (E : XS) : TT := fun σ H Qv => ∃ G S Q, Rel K C G H σ S ∧ w S Q E ∧
  ∀ k S2 H2, Post K C G H H2 σ S S2 vs pp G → Q k S2 → Qv k H2
def rdA (K : PySem.W.Frag) (C : IC) (w : AW) (vs pp : List Nat) (E : XS) : TA := fun σ H Qv => ∃ G S Q, Rel K C G H σ S ∧ w S Q E ∧
  ∀ ds S2 us H2 G2, Post K C G H H2 σ S S2 vs pp G2 → Reps K G2 ds us → Q ds S2 → Qv us H2
/-- a new container that nothing else holds -/
def rdF (K : PySem.W.Frag) (C : IC) (w : VW) (vs pp : List Nat) (E : XS) : TE := fun σ H Qv => ∃ (G : Hp) (S : List Sl) (Q : D → List Sl → Prop), Rel K C G H σ S ∧ w S (fun d S2 => d.isCon = true ∧ Q d S2) E ∧
  ∀ d S2 p H2 G2, Post K C G H H2 σ S S2 vs pp G2 → H p = none → G2 p = none → (∀ (i : Nat), Own S2 i → σ[i]? ≠ some (some (.ref p))) → ¬ hs S2 p → Cell K G2 H2 p d → Q d S2 → Qv (.ref p) H2
theorem PE.imp {X : Cx} {e : Expr} {t t' : TE} (h : PE X e t) (i : ∀ σ H Q, t' σ H Q → t σ H Q) : PE X e t' := ⟨fun pins s σ H Q I hw => h.run pins s σ H Q I (i σ H Q hw)⟩
theorem PT.imp {X : Cx} {e : Expr} {t t' : TT} (h : PT X e t) (i : ∀ σ H Q, t' σ H Q → t σ H Q) : PT X e t' := ⟨fun pins s σ H Q I hw => h.run pins s σ H Q I (i σ H Q hw)⟩
theorem PA.imp {X : Cx} {e : List Expr} {t t' : TA} (h : PA X e t) (i : ∀ σ H Q, t' σ H Q → t σ H Q) : PA X e t' := ⟨fun ps pins s σ H Q I hw => h.run ps pins s σ H Q I (i σ H Q hw)⟩
def JE (X : Cx) (C : IC) (e : Expr) (m : ME) : Prop := ∀ E : XS, Takes X (liftX X.K C E) → PE X e (rdE X.K C (W m).v (vars m) (pops m) E)
def JT (X : Cx) (C : IC) (e : Expr) (m : ME) : Prop := ∀ E : XS, Takes X (liftX X.K C E) → PT X e (rdT X.K C (W m).t (vars m) (pops m) E)
def JA (X : Cx) (C : IC) (es : List Expr) (m : ME) : Prop := ∀ E : XS, Takes X (liftX X.K C E) → PA X es (rdA X.K C (W m).a (vars m) (pops m) E)
def JF (X : Cx) (C : IC) (e : Expr) (m : ME) : Prop := ∀ E : XS, Takes X (liftX X.K C E) → PE X e (rdF X.K C (W m).v (vars m) (pops m) E)
section
variable {X : Cx} {C : IC} {E : XS} {vs ws pp qq : List Nat} {w1 w2 : VW} {a b : Expr} {pos : Pos}
/-- two in a row -/
theorem rd_two {K : PySem.W.Frag} {σ : L2.St} {H : Hp} {G : Hp} {S : List Sl} {R : V → V → Hp → Prop} {P : D → D → List Sl → Prop} (hd : ∀ i ∈ qq, i ∉ vs) (r : Rel K C G H σ S) (h : w1 S (fun d1 S1 => w2 S1 (fun d2 S2 => P d1 d2 S2) E) E)
    (k : ∀ d1 d2 S2 v1 v2 H2 G2, Post K C G H H2 σ S S2 (vs ++ ws) (pp ++ qq) G2 → Rep K G2 d1 v1 → Rep K G2 d2 v2 → P d1 d2 S2 → R v1 v2 H2) :
    rdE K C w1 vs pp E σ H fun x H1 => rdE K C w2 ws qq E σ H1 fun y H2 => R x y H2 := by
  refine ⟨G, S, _, r, h, fun d1 S1 v1 H1 G1 p1 r1 q1 => ?_⟩
  refine ⟨G, S1, _, p1.rel, q1, fun d2 S2 v2 H2 G2 p2 r2 q2 => ?_⟩
  have k1 := p1.keep1 p2 hd
  exact k d1 d2 S2 v1 v2 H2 (joinG G1 G2) (p1.trans p2 hd) (r1.up joinG_left) (r2.up (joinG_right k1 p2.sub)) q2
end
end Mi
set_option maxHeartbeats 1000000
namespace Mi
open PySem PySem.Spec L2

/-- what follows an expression -/
def Kt (K : PySem.W.Frag) (C : IC) (G H : Hp) (σ : L2.St) (S : List Sl) (vs pp : List Nat) (Q : D → List Sl → Prop) (Qv : VK) : Prop :=
  ∀ d S2 v H2 G2, Post K C G H H2 σ S S2 vs pp G2 → Rep K G2 d v → Q d S2 → Qv v H2
section
variable {K : PySem.W.Frag} {C : IC} {G H H2 G2 : Hp} {σ : L2.St} {S S2 : List Sl} {vs pp : List Nat} {Q : D → List Sl → Prop} {Qv : VK}
theorem Kt.val (k : Kt K C G H σ S vs pp Q Qv) (p : Post K C G H H2 σ S S2 vs pp G2) {d : D} {v : V} (r : Rep K G2 d v) (q : Q d S2) : Qv v H2 :=
  k d S2 v H2 G2 p r q
theorem Kt.int (k : Kt K C G H σ S vs pp Q Qv) (p : Post K C G H H2 σ S S2 vs pp G2) {i : Int} (q : Q (.int i) S2) : Qv (.int i) H2 := k.val p (d := .int i) rfl q
theorem Kt.bl (k : Kt K C G H σ S vs pp Q Qv) (p : Post K C G H H2 σ S S2 vs pp G2) {i : Bool} (q : Q (.bl i) S2) : Qv (.bl i) H2 := k.val p (d := .bl i) rfl q
theorem Kt.str (k : Kt K C G H σ S vs pp Q Qv) (p : Post K C G H H2 σ S S2 vs pp G2) {i : Str} (q : Q (.str i) S2) : Qv (.str i) H2 := k.val p (d := .str i) rfl q
theorem Kt.tup (k : Kt K C G H σ S vs pp Q Qv) (p : Post K C G H H2 σ S S2 vs pp G2) {ds : List D} {us : List V} {a : Addr} (r : Reps K G2 ds us) (hp : H2 a = none) (q : Q (.tup ds) S2) : Qv (.ref a) (upd H2 a (.tup us)) :=
  k.val (p.laid hp) (d := .tup ds) ⟨a, us, rfl, SqT.of upd_same, r.up (same_upd (p.sub.free hp))⟩ q
theorem Kt.lst (k : Kt K C G H σ S vs pp Q Qv) (p : Post K C G H H2 σ S S2 vs pp G2) {ds : List D} {us : List V} {a : Addr} (r : Reps K G2 ds us) (hp : H2 a = none) (q : Q (.lst ds) S2) : Qv (.ref a) (upd H2 a (.lst us)) :=
  k.val (p.laid hp) (d := .lst ds) ⟨a, us, rfl, upd_same, r.up (same_upd (p.sub.free hp))⟩ q
theorem Kt.dct (k : Kt K C G H σ S vs pp Q Qv) (p : Post K C G H H2 σ S S2 vs pp G2) {ks ws : List D} {kvs : List (Key × V)} {a : Addr} (r : Reps K G2 ws (kvs.map (·.2))) (e : kvs.map (fun kv => keyD kv.1) = ks) (hp : H2 a = none) (q : Q (.dct ks ws) S2) : Qv (.ref a) (upd H2 a (.dK kvs)) :=
  k.val (p.laid hp) (d := .dct ks ws) ⟨a, kvs, rfl, .inl upd_same, e, r.up (same_upd (p.sub.free hp))⟩ q
end

mutual
theorem Rep.dp {K : PySem.W.Frag} {G H : Hp} (s : Same G H) : ∀ {d : D} {v : V}, d.py.canLay0 = true → Rep K G d v → Dp K H v d.py
  | .non, v, _, r => by
    have e : v = .non := r
    subst e; exact .non
  | .bl b, v, _, r => by
    have e : v = .bl b := r
    subst e; exact .bl b
  | .int i, v, _, r => by
    have e : v = .int i := r
    subst e; exact .int i
  | .str x, v, _, r => by
    have e : v = .str x := r
    subst e; exact .str x
  | .tup ds, v, h, r => by
    obtain ⟨a, us, rfl, h1, h2⟩ := r
    exact .tup (SqT.up s h1) (Reps.dp s (by simpa [D.py, PyData.canLay0] using h) h2)
  | .lst ds, v, h, r => by
    obtain ⟨a, us, rfl, h1, h2⟩ := r
    exact .lst (SqL.of (s _ _ h1)) (Reps.dp s (by simpa [D.py, PyData.canLay0] using h) h2)
  | .dct _ _, _, h, _ => by simp [D.py, PyData.canLay0] at h
  | .set _, _, h, _ => by simp [D.py, PyData.canLay0] at h
  | .ins _ _ _, _, h, _ => by simp [D.py, PyData.canLay0] at h
  | .rng _ _, _, h, _ => by simp [D.py, PyData.canLay0] at h
  | .fn _, _, h, _ => by simp [D.py, PyData.canLay0] at h
  | .scr _, _, h, _ => by simp [D.py, PyData.canLay0] at h
theorem Reps.dp {K : PySem.W.Frag} {G H : Hp} (s : Same G H) : ∀ {ds : List D} {us : List V}, PyData.canLayAll0 (pyAll ds) = true → Reps K G ds us → DpAll K H us (pyAll ds)
  | [], us, _, r => by
    have e : us = [] := r
    subst e; exact .nil
  | d :: ds, _, h, r => by
    obtain ⟨v, us, rfl, h1, h2⟩ := r
    have h' : d.py.canLay0 = true ∧ PyData.canLayAll0 (pyAll ds) = true := by simpa [pyAll, PyData.canLayAll0] using h
    exact .cons (Rep.dp s h'.1 h1) (Reps.dp s h'.2 h2)
end
theorem shp_lay {d : D} (h : d.shp = true) : d.py.canLay0 = true := SeqAt.canLay_of_shaped h
theorem pyAll_any {ds : List D} {f : PyData → Bool} : (pyAll ds).any f = ds.any fun d => f d.py := by
  induction ds with
  | nil => rfl
  | cons d r ih => simp [pyAll, ih]
/-- flat values -/
theorem flat_rep {K : PySem.W.Frag} {G : Hp} {d : D} {v : V} (h : d.flat = true) (r : Rep K G d v) : flatV v = true := by
  cases d <;> simp [D.flat] at h
  · have e : v = .non := r
    subst e; rfl
  · have e : v = .bl _ := r
    subst e; rfl
  · have e : v = .int _ := r
    subst e; rfl
  · have e : v = .str _ := r
    subst e; rfl
theorem flat_eqv {K : PySem.W.Frag} {G G' : Hp} {d e : D} {v u : V} (h : d.flat = true) (h' : e.flat = true) (r : Rep K G d v) (r' : Rep K G' e u) : eqV v u = D.eqv d e := by
  cases d <;> simp [D.flat] at h <;> cases e <;> simp [D.flat] at h' <;> simp only [Rep] at r r' <;> subst r <;> subst r' <;> rfl
theorem flat_all {K : PySem.W.Frag} {G : Hp} : ∀ {ds : List D} {us : List V}, ds.all D.flat = true → Reps K G ds us → us.all flatV = true
  | [], us, _, r => by
    have e : us = [] := r
    subst e; rfl
  | d :: ds, _, h, r => by
    obtain ⟨v, us, rfl, h1, h2⟩ := r
    have h' : d.flat = true ∧ ds.all D.flat = true := by simpa using h
    simp only [List.all_cons, flat_rep h'.1 h1, Bool.true_and]
    exact flat_all h'.2 h2
theorem flat_any {K : PySem.W.Frag} {G G' : Hp} {d : D} {v : V} (h : d.flat = true) (r : Rep K G' d v) : ∀ {ds : List D} {us : List V}, ds.all D.flat = true → Reps K G ds us → inV v us = inAny d ds
  | [], us, _, r => by
    have e : us = [] := r
    subst e; rfl
  | e :: ds, _, h2, r2 => by
    obtain ⟨u, us, rfl, h3, h4⟩ := r2
    have h' : e.flat = true ∧ ds.all D.flat = true := by simpa using h2
    have ih := flat_any h r h'.2 h4
    unfold inV inAny at ih ⊢
    simp only [List.any_cons, ih, flat_eqv h'.1 h h3 r]
theorem Rep.inv_int {K : PySem.W.Frag} {G : Hp} {i : Int} {v : V} (r : Rep K G (.int i) v) : v = .int i := r
theorem Rep.inv_str {K : PySem.W.Frag} {G : Hp} {i : Str} {v : V} (r : Rep K G (.str i) v) : v = .str i := r

theorem keyD_eqv (a b : Key) : D.eqv (keyD a) (keyD b) = decide (a = b) := by
  cases a <;> cases b
  · rw [key_ll]; rfl
  · rw [key_lr]; rfl
  · rw [key_rl]; rfl
  · rw [key_rr]
    rename_i x y
    show (x == y) = _
    by_cases e : x = y
    · subst e; simp
    · rw [beq_eq_false_iff_ne.mpr e, decide_eq_false e]
theorem isKey_ex {d : D} (h : d.isKey = true) : ∃ k, d = keyD k := by
  cases d <;> simp [D.isKey] at h
  · exact ⟨.inl _, rfl⟩
  · exact ⟨.inr _, rfl⟩
theorem keyD_rep {K : PySem.W.Frag} {G : Hp} {k : Key} {v : V} (r : Rep K G (keyD k) v) : v = kV k := by
  cases k
  · exact r
  · exact r
theorem valV_at {K : PySem.W.Frag} {G : Hp} (k : Key) : ∀ {kvs : List (Key × V)} {ws : List D}, Reps K G ws (kvs.map (·.2)) →
    (∀ v, valV kvs k = some v → ∃ j d, keyAt (keyD k) (kvs.map fun kv => keyD kv.1) = some j ∧ ws[j]? = some d ∧ Rep K G d v) ∧ (valV kvs k = none → keyAt (keyD k) (kvs.map fun kv => keyD kv.1) = none)
  | [], ws, _ => ⟨fun v h => (by cases h), fun _ => rfl⟩
  | (x, y) :: r, ws, h => by
    cases ws with
    | nil => cases h
    | cons d ws =>
      obtain ⟨v', us, e, h1, h2⟩ := h
      simp only [List.map_cons, List.cons.injEq] at e
      obtain ⟨e1, e2⟩ := e
      subst e1 e2
      have ih := valV_at k h2
      by_cases q : x = k
      · subst q
        rw [valV_pos rfl]
        refine ⟨fun v hv => ?_, fun z => nomatch z⟩
        cases hv
        refine ⟨0, d, ?_, rfl, h1⟩
        show (if D.eqv (keyD x) (keyD x) then some 0 else _) = _
        rw [keyD_eqv]
        simp
      · have e3 : valV ((x, y) :: r) k = valV r k := by simp [valV, List.find?_cons, q]
        have e4 : keyAt (keyD k) (((x, y) :: r).map fun kv => keyD kv.1) = (keyAt (keyD k) (r.map fun kv => keyD kv.1)).map (· + 1) := by
          show (if D.eqv (keyD x) (keyD k) then some 0 else _) = _
          rw [keyD_eqv, decide_eq_false q]
          rfl
        rw [e3, e4]
        refine ⟨fun v hv => ?_, fun z => by rw [ih.2 z]; rfl⟩
        obtain ⟨j, d', h3, h4, h5⟩ := ih.1 v hv
        exact ⟨j + 1, d', by rw [h3]; rfl, by simpa using h4, h5⟩
theorem keyD_any (k : Key) : ∀ (kvs : List (Key × V)), ((kvs.map fun kv => keyD kv.1).any fun x => D.eqv x (keyD k)) = kvs.any fun kv => decide (kv.1 = k)
  | [] => rfl
  | x :: r => by simp only [List.map_cons, List.any_cons, keyD_eqv, keyD_any k r]
theorem putVals_rep {K : PySem.W.Frag} {G : Hp} (k : Key) {d : D} {v : V} (r : Rep K G d v) : ∀ {kvs : List (Key × V)} {ws : List D}, Reps K G ws (kvs.map (·.2)) →
    Reps K G (putVals (keyD k) d (kvs.map fun kv => keyD kv.1) ws) ((kvs.map fun kv => if kv.1 = k then (kv.1, v) else kv).map (·.2))
  | [], ws, h => by
    cases ws with
    | nil => exact rfl
    | cons _ _ => obtain ⟨_, _, z, _⟩ := h; cases z
  | (x, y) :: rest, ws, h => by
    cases ws with
    | nil => cases h
    | cons w ws =>
      obtain ⟨v', us, e, h1, h2⟩ := h
      simp only [List.map_cons, List.cons.injEq] at e
      obtain ⟨e1, e2⟩ := e
      subst e1 e2
      have ih := putVals_rep k r h2
      show Reps K G ((if D.eqv (keyD x) (keyD k) then d else w) :: _) _
      rw [keyD_eqv]
      by_cases q : x = k
      · rw [if_pos (by simpa using q)]
        simp only [List.map_cons, if_pos q]
        exact ⟨v, _, rfl, r, ih⟩
      · rw [if_neg (by simpa using q)]
        simp only [List.map_cons, if_neg q]
        exact ⟨y, _, rfl, h1, ih⟩
theorem putK_rep {K : PySem.W.Frag} {G : Hp} (k : Key) {d : D} {v : V} (r : Rep K G d v) {kvs : List (Key × V)} {ks ws : List D} (e : kvs.map (fun kv => keyD kv.1) = ks) (h : Reps K G ws (kvs.map (·.2))) :
    (putK kvs k v).map (fun kv => keyD kv.1) = (putKey (keyD k) d ks ws).1 ∧ Reps K G (putKey (keyD k) d ks ws).2 ((putK kvs k v).map (·.2)) := by
  subst e
  unfold putK putKey
  rw [keyD_any]
  by_cases c : (kvs.any fun kv => decide (kv.1 = k)) = true
  · rw [if_pos c, if_pos c]
    refine ⟨?_, putVals_rep k r h⟩
    rw [List.map_map]
    refine List.map_congr_left fun p _ => ?_
    show keyD (if p.1 = k then (p.1, v) else p).1 = keyD p.1
    split <;> rfl
  · rw [if_neg c, if_neg c]
    refine ⟨by simp, ?_⟩
    rw [List.map_append]
    exact h.app (Reps.one r)
end Mi
set_option maxHeartbeats 1000000
namespace Mi
open PySem PySem.Spec L2

theorem lim_eq : (sizeLine : Nat) = lim := PySem.sizeLine_eq
def rBin (X : Cx) (f : Value → Value → Sem Value) : R2 := fun x y H Q => ∀ pins s σ u w, Inv X pins σ H s → RelV x u → RelV y w → wpAny (model X.prog X.w) X.A (f u w) (EP X pins σ Q) X.xe s
theorem opBin (X : Cx) (f : Value → Value → Sem Value) : OpR X f (rBin X f) := fun pins s σ H x y v u Q I rx ry h => h pins s σ v u I rx ry
def rCall (X : Cx) (f : Value) : List V → Hp → VK → Prop := fun xs H Q => ∀ pins s σ us, Inv X pins σ H s → Vals xs us → wpAny (model X.prog X.w) X.A (call f us) (EP X pins σ Q) X.xe s
theorem opCall (X : Cx) (f : Value) : CallR X f (rCall X f) := fun pins s σ H xs us Q I r h => h pins s σ us I r
section
variable {X : Cx} {C : IC} {G H H2 G2 : Hp} {σ : L2.St} {S S2 : List Sl} {vs pp : List Nat} {Q : D → List Sl → Prop} {Qv : VK}
theorem rb {f : Value → Value → Sem Value} {r : R2} (h : OpR X f r) {x y : V} (q : r x y H2 Qv) : rBin X f x y H2 Qv := fun pins s σ u w I rx ry => h pins s σ H2 x y u w Qv I rx ry q
theorem rc {f : Value} {r : List V → Hp → VK → Prop} (h : CallR X f r) {xs : List V} (q : r xs H2 Qv) : rCall X f xs H2 Qv := fun pins s σ us I rx => h pins s σ H2 xs us Qv I rx q
theorem nil_of {K : PySem.W.Frag} {G : Hp} {ds : List D} {us : List V} (r : Reps K G ds us) : us = [] ↔ ds = [] := by
  have := r.len
  constructor
  · intro e; subst e; exact List.length_eq_zero_iff.mp this
  · intro e; subst e; exact r
theorem bin_ok (k : Kt X.K C G H σ S vs pp Q Qv) (p : Post X.K C G H H2 σ S S2 vs pp G2) {o : Operator} {d e : D} {x y : V} (r1 : Rep X.K G2 d x) (r2 : Rep X.K G2 e y) (q : binSem o d e fun r => Q r S2) : rBin X (binaryOp o) x y H2 Qv := by
  unfold binSem at q
  split at q
  · cases r1; cases r2
    exact rb op_add ⟨_, _, rfl, rfl, k.int p q⟩
  · obtain ⟨a, us, rfl, h1, h2⟩ := r1
    obtain ⟨b, ws, rfl, h3, h4⟩ := r2
    refine rb op_catA ⟨a, b, us, ws, rfl, rfl, SqT.up p.sub h1, SqT.up p.sub h3, by rw [lim_eq, ← h2.len, ← h4.len]; exact q.1, fun e => ?_, fun e1 e2 => ?_, fun _ _ c hc => k.tup p (h2.app h4) hc q.2⟩
    · have z := (nil_of h2).mp e
      refine k.val p (d := .tup _) ⟨b, ws, rfl, h3, h4⟩ ?_
      have q2 := q.2
      rw [z] at q2
      exact q2
    · have z := (nil_of h4).mp e2
      refine k.val p (d := .tup _) ⟨a, us, rfl, h1, h2⟩ ?_
      have q2 := q.2
      rw [z, List.append_nil] at q2
      exact q2
  · obtain ⟨a, us, rfl, h1, h2⟩ := r1
    obtain ⟨b, ws, rfl, h3, h4⟩ := r2
    exact rb op_cat ⟨a, b, us, ws, rfl, rfl, p.sub _ _ h1, p.sub _ _ h3, by rw [lim_eq, ← h2.len, ← h4.len]; exact q.1, fun c hc => k.lst p (h2.app h4) hc q.2⟩
  · cases r1; cases r2
    exact rb op_add_str ⟨_, _, rfl, rfl, by rw [lim_eq]; exact q.1, k.str p q.2⟩
  · cases r1; cases r2
    exact rb op_sub ⟨_, _, rfl, rfl, k.int p q⟩
  · cases r1; cases r2
    obtain ⟨c | c | c, q⟩ := q
    · exact rb op_mul ⟨_, _, rfl, rfl, .inl c, k.int p q⟩
    · exact rb op_mul ⟨_, _, rfl, rfl, .inr c, k.int p q⟩
    · exact rb op_mulW ⟨_, _, rfl, rfl, c, k.int p q⟩
  · obtain ⟨a, us, rfl, h1, h2⟩ := r1
    cases r2
    obtain ⟨q1, q2, q3, q4, q5⟩ := q
    refine rb op_repT ⟨a, _, us, rfl, rfl, SqT.up p.sub h1, fun z => q1 ((nil_of h2).mp z), q2, q3, by rw [← h2.len]; exact q4, fun c hc => k.tup p ?_ hc q5⟩
    generalize (Int.toNat _) = n
    induction n with
    | zero => exact rfl
    | succ n ih => simp only [List.replicate_succ, List.flatten_cons]; exact h2.app ih
  · obtain ⟨a, us, rfl, h1, h2⟩ := r1
    cases r2
    obtain ⟨q1, q2, q3, q4⟩ := q
    refine rb op_rep ⟨a, _, us, rfl, rfl, p.sub _ _ h1, q2, q1, by rw [lim_eq, ← h2.len]; exact q3, fun c hc => k.lst p ?_ hc q4⟩
    generalize (Int.toNat _) = n
    induction n with
    | zero => exact rfl
    | succ n ih => simp only [List.replicate_succ, List.flatten_cons]; exact h2.app ih
  · cases r1; cases r2
    obtain ⟨c | c, q⟩ := q
    · exact rb op_fdivN ⟨_, _, rfl, rfl, c, k.int p q⟩
    · refine rb op_fdivW ⟨_, _, rfl, rfl, c, ?_⟩
      rename_i i j
      have e : i.fdiv j = i / j := Int.fdiv_eq_ediv_of_nonneg _ (by have := c.1; omega)
      rw [e] at q
      exact k.int p q
  · cases r1; cases r2
    exact rb op_modN ⟨_, _, rfl, rfl, q.1, k.int p q.2⟩
  · cases r1; cases r2
    exact rb op_pow ⟨_, _, rfl, rfl, ⟨q.1, q.2.1, q.2.2.1⟩, k.int p q.2.2.2⟩
  · exact q.elim
theorem dget_of {K : PySem.W.Frag} {ks ws : List D} {x y : V} {kd : D} (hk : kd.isKey = true) (r : Rep K G2 (.dct ks ws) x) (r2 : Rep K G2 kd y) (s : Same G2 H2) :
    ∃ a o, x = .ref a ∧ DGet H2 a y o ∧ (∀ v, o = some v → ∃ j d, keyAt kd ks = some j ∧ ws[j]? = some d ∧ Rep K G2 d v) ∧ (o = none → keyAt kd ks = none) := by
  obtain ⟨a, kvs, rfl, h1, h2, h3⟩ := r
  obtain ⟨q, rfl⟩ := isKey_ex hk
  obtain rfl := keyD_rep r2
  subst h2
  obtain ⟨z1, z2⟩ := valV_at q h3
  exact ⟨a, valV kvs q, rfl, .inl ⟨kvs, q, h1.elim (fun z => .inl (s _ _ z)) (fun ⟨o, z⟩ => .inr ⟨o, s _ _ z⟩), rfl, rfl⟩, z1, z2⟩
theorem isNon_dec {K : PySem.W.Frag} {G : Hp} {d : D} {x : V} (r1 : Rep K G d x) : decide (x = V.non) = d.isNon := by
  cases d <;> simp only [Rep] at r1 <;> first | (subst r1; rfl) | (obtain ⟨a, us, rfl, _⟩ := r1; rfl) | (obtain ⟨a, rfl, _⟩ := r1; rfl) | (obtain ⟨a, _, _, rfl, _⟩ := r1; rfl) | exact False.elim r1
def isVB : V → Bool → Bool
  | .bl a, c => decide (a = c)
  | _, _ => false
theorem isBl_rep {K : PySem.W.Frag} {d : D} {x : V} {c : Bool} (r : Rep K G2 d x) : isVB x c = isBl d c := by
  cases d with
  | non => cases r; rfl
  | bl _ => cases r; rfl
  | int _ => cases r; rfl
  | str _ => cases r; rfl
  | _ =>
    first
    | (obtain ⟨a, us, rfl, _⟩ := r <;> rfl)
    | (obtain ⟨a, us, hs, rfl, _⟩ := r <;> rfl)
    | (obtain ⟨a, rfl, _⟩ := r <;> rfl)
theorem op_isB2 : OpR X (compareOp .Is) (fun x y H Q => ∃ c, y = .bl c ∧ Q (.bl (isVB x c)) H) := by
  intro pins s σ H x y v u Q I rx ry h
  obtain ⟨c, rfl, q⟩ := h
  cases (show u = Value.bool c from ry)
  cases x with
  | bl a =>
    cases (show v = Value.bool a from rx)
    by_cases e : a = c
    · subst e
      exact PySem.wpAny_is_self rfl ⟨.bl true, H, I, rfl, by simpa [isVB] using q⟩
    · exact PySem.wpAny_is_other rfl (fun z => e (Value.bool.inj z)) ⟨.bl false, H, I, rfl, by simpa [isVB, e] using q⟩
  | non => cases rx; exact PySem.wpAny_is_other rfl (fun z => nomatch z) ⟨.bl false, H, I, rfl, q⟩
  | int i => obtain ⟨t, rfl⟩ := rx; exact PySem.wpAny_is_other rfl (fun z => nomatch z) ⟨.bl false, H, I, rfl, q⟩
  | str i => obtain ⟨t, rfl⟩ := rx; exact PySem.wpAny_is_other rfl (fun z => nomatch z) ⟨.bl false, H, I, rfl, q⟩
  | byt i => obtain ⟨t, rfl⟩ := rx; exact PySem.wpAny_is_other rfl (fun z => nomatch z) ⟨.bl false, H, I, rfl, q⟩
  | flt i => obtain ⟨t, rfl⟩ := rx; exact PySem.wpAny_is_other rfl (fun z => nomatch z) ⟨.bl false, H, I, rfl, q⟩
  | ref i => cases rx; exact PySem.wpAny_is_other rfl (fun z => nomatch z) ⟨.bl false, H, I, rfl, q⟩
  | ty i => cases rx; exact PySem.wpAny_is_other rfl (fun z => nomatch z) ⟨.bl false, H, I, rfl, q⟩
theorem op_notB2 : OpR X (compareOp .IsNot) (fun x y H Q => ∃ c, y = .bl c ∧ Q (.bl (!isVB x c)) H) := by
  intro pins s σ H x y v u Q I rx ry h
  obtain ⟨c, rfl, q⟩ := h
  cases (show u = Value.bool c from ry)
  cases x with
  | bl a =>
    cases (show v = Value.bool a from rx)
    by_cases e : a = c
    · subst e
      exact PySem.wpAny_isNot_self rfl ⟨.bl false, H, I, rfl, by simpa [isVB] using q⟩
    · exact PySem.wpAny_isNot_other rfl (fun z => e (Value.bool.inj z)) ⟨.bl true, H, I, rfl, by simpa [isVB, e] using q⟩
  | non => cases rx; exact PySem.wpAny_isNot_other rfl (fun z => nomatch z) ⟨.bl true, H, I, rfl, q⟩
  | int i => obtain ⟨t, rfl⟩ := rx; exact PySem.wpAny_isNot_other rfl (fun z => nomatch z) ⟨.bl true, H, I, rfl, q⟩
  | str i => obtain ⟨t, rfl⟩ := rx; exact PySem.wpAny_isNot_other rfl (fun z => nomatch z) ⟨.bl true, H, I, rfl, q⟩
  | byt i => obtain ⟨t, rfl⟩ := rx; exact PySem.wpAny_isNot_other rfl (fun z => nomatch z) ⟨.bl true, H, I, rfl, q⟩
  | flt i => obtain ⟨t, rfl⟩ := rx; exact PySem.wpAny_isNot_other rfl (fun z => nomatch z) ⟨.bl true, H, I, rfl, q⟩
  | ref i => cases rx; exact PySem.wpAny_isNot_other rfl (fun z => nomatch z) ⟨.bl true, H, I, rfl, q⟩
  | ty i => cases rx; exact PySem.wpAny_isNot_other rfl (fun z => nomatch z) ⟨.bl true, H, I, rfl, q⟩
theorem cmp_okH (hu : X.A.units + 65 < cLine) (sub : Same G2 H2) {Qd : DK} (kb : ∀ c, Qd (.bl c) → Qv (.bl c) H2) {o : CmpOp} {d e : D} {x y : V} (r1 : Rep X.K G2 d x) (r2 : Rep X.K G2 e y) (q : cmpSem o d e Qd) : rBin X (compareOp o) x y H2 Qv := by
  unfold cmpSem at q
  split at q
  · obtain ⟨q1, q2, q3⟩ := q
    exact rb (op_eqD (by omega)) ⟨_, _, Rep.dp sub (shp_lay q1) r1, Rep.dp sub (shp_lay q2) r2, q1, q2, kb _ q3⟩
  · obtain ⟨q1, q2, q3⟩ := q
    exact rb (op_neD (by omega)) ⟨_, _, Rep.dp sub (shp_lay q1) r1, Rep.dp sub (shp_lay q2) r2, q1, q2, kb _ q3⟩
  · cases r1; cases r2
    exact rb op_lt ⟨_, _, rfl, rfl, kb _ q⟩
  · cases r1; cases r2
    exact rb op_le ⟨_, _, rfl, rfl, kb _ q⟩
  · cases r1; cases r2
    exact rb op_gt ⟨_, _, rfl, rfl, kb _ q⟩
  · cases r1; cases r2
    exact rb op_ge ⟨_, _, rfl, rfl, kb _ q⟩
  · have e2 : y = .non := r2
    refine rb op_isN ⟨e2, ?_⟩
    rw [isNon_dec r1]
    exact kb _ q
  · have e2 : y = .non := r2
    refine rb op_notN ⟨e2, ?_⟩
    rw [isNon_dec r1]
    exact kb _ q
  · have e2 : y = .bl _ := r2
    refine rb op_isB2 ⟨_, e2, ?_⟩
    rw [isBl_rep r1]
    exact kb _ q
  · have e2 : y = .bl _ := r2
    refine rb op_notB2 ⟨_, e2, ?_⟩
    rw [isBl_rep r1]
    exact kb _ q
  · obtain ⟨q1, q2, q3⟩ := q
    refine rb (op_inD hu) ⟨_, _, Rep.dp sub (shp_lay q1) r1, Rep.dp sub (shp_lay q2) r2, q1, q2, ?_⟩
    rw [pyAll_any]
    exact kb _ q3
  · obtain ⟨q1, q2, q3⟩ := q
    obtain ⟨a, us, rfl, h1, h2⟩ := r2
    refine rb op_in_seq ⟨a, us, rfl, .inr (SqT.up sub h1), flat_rep q1 r1, flat_all q2 h2, ?_⟩
    rw [flat_any q1 r1 q2 h2]
    exact kb _ q3
  · obtain ⟨q1, q3⟩ := q
    obtain ⟨a, o, rfl, g, z1, z2⟩ := dget_of q1 r2 r1 sub
    intro pins s σ u w I rx ry
    obtain rfl : w = Value.ref a := ry
    refine d_in (by omega) I g rx fun s3 I3 => ⟨.bl o.isSome, H2, I3, rfl, ?_⟩
    cases o with
    | none =>
      rw [z2 rfl] at q3
      exact kb _ q3
    | some v =>
      obtain ⟨j, _, e, _⟩ := z1 v rfl
      rw [e] at q3
      exact kb _ q3
  · obtain ⟨q1, q2, q3⟩ := q
    refine rb (op_notInD hu) ⟨_, _, Rep.dp sub (shp_lay q1) r1, Rep.dp sub (shp_lay q2) r2, q1, q2, ?_⟩
    rw [pyAll_any]
    exact kb _ q3
  · obtain ⟨q1, q2, q3⟩ := q
    obtain ⟨a, us, rfl, h1, h2⟩ := r2
    refine rb op_notIn_seq ⟨a, us, rfl, .inr (SqT.up sub h1), flat_rep q1 r1, flat_all q2 h2, ?_⟩
    rw [flat_any q1 r1 q2 h2]
    exact kb _ q3
  · obtain ⟨q1, q3⟩ := q
    obtain ⟨a, o, rfl, g, z1, z2⟩ := dget_of q1 r2 r1 sub
    intro pins s σ u w I rx ry
    obtain rfl : w = Value.ref a := ry
    refine d_notIn (by omega) I g rx fun s3 I3 => ⟨.bl (!o.isSome), H2, I3, rfl, ?_⟩
    cases o with
    | none =>
      rw [z2 rfl] at q3
      exact kb _ q3
    | some v =>
      obtain ⟨j, _, e, _⟩ := z1 v rfl
      rw [e] at q3
      exact kb _ q3
  · exact q.elim
theorem cmp_ok (hu : X.A.units + 65 < cLine) (k : Kt X.K C G H σ S vs pp Q Qv) (p : Post X.K C G H H2 σ S S2 vs pp G2) {o : CmpOp} {d e : D} {x y : V} (r1 : Rep X.K G2 d x) (r2 : Rep X.K G2 e y) (q : cmpSem o d e fun r => Q r S2) : rBin X (compareOp o) x y H2 Qv := cmp_okH hu p.sub (fun c q => k.bl p q) r1 r2 q

end
end Mi
set_option maxHeartbeats 1000000
namespace SrtO
open PySem PyProof.Rows Srt
section
variable {prog : Program} {w : World} {A : Around} {E : Value → Shared → Prop} {s : Shared}
theorem sorted_ordT {l : Addr} {vs : List Value} {ltv : Value → Value → Bool} {Q : Value → Shared → Prop} (O : Swo ltv) (hl : s.heap.IsTuple l vs.toArray) (hz : vs.length ≤ sizeLine)
    (hS : 2 ≤ vs.length → ∀ (h₁ : Heap) (a : Addr), h₁.get? a = some (seqObj "list" vs.toArray 0) → SortableO prog w A.in1.in1 { s with heap := h₁ } a vs ltv)
    (h : ∀ (out : List Value) (h' : Heap) (p : Addr), Srtd ltv out → Stb ltv out vs → (∃ h1 : Heap, p = h1.objs.size ∧ ∀ b o, s.heap.get? b = some o → h1.get? b = some o) → (∀ b o, s.heap.get? b = some o → h'.get? b = some o) → (∃ c, h'.get? p = some (seqObj "list" out.toArray c)) → Q (.ref p) { s with heap := h' }) :
    wpAny (model prog w) A (call (.builtin "sorted") [.ref l]) Q E s := by
  obtain ⟨o, ho, hc, n, hd⟩ := hl
  refine Calls.call_function_entry kind_sorted plain_sorted entry_sorted (args_sorted1 _) ?_
  unfold Builtin.«sorted»
  refine wpAny_bind (m := checkCount "sorted" 1 1 _) (wpAny_pure ?_)
  refine wpAny_bind (wpAny_collect_seq l (.inr rfl) ho hc hd (fun h1 k => ?_) (by rw [List.size_toArray]; exact hz))
  refine wpAny_bind (wpAny_newList ?_ hz)
  have hoL : (h1.push (seqObj "list" vs.toArray 0)).get? h1.objs.size = some (seqObj "list" vs.toArray 0) := Heap.get?_push_size _ rfl
  show wpAny _ _ _ _ _ { s with heap := h1.push (seqObj "list" vs.toArray 0) }
  refine wpAny_bind (wpAny_holding (wpAny_call_entry slot_list_sort ⟨_, hoL, rfl⟩ entry_list_sort (list_sort_ord (s := { s with heap := h1.push (seqObj "list" vs.toArray 0) }) O hoL hz (fun h2 => hS h2 _ _ hoL) fun out hs hb => ⟨_, rfl, ?_⟩) (args_list_sort _)))
  refine wpAny_pure ⟨_, rfl, h out _ h1.objs.size hs hb ⟨h1, rfl, k⟩ (fun b u e => ?_) (PyProof.Rows.sortedHeap_at (vs := vs) (out := out.toArray) hoL)⟩
  have q := k b u e
  have hlt := Heap.lt_size q
  show (sortedHeap (h1.push (seqObj "list" vs.toArray 0)) h1.objs.size vs out.toArray).get? b = some u
  rw [sortedHeap_old (Nat.ne_of_lt hlt) (by rw [size_push']; exact Nat.lt_succ_of_lt hlt)]
  exact Heap.get?_push_of_some _ q
end
end SrtO
namespace Mi
open PySem PySem.Spec L2
open PyProof.Rows hiding St
section
variable {X : Cx}
theorem cr_sortedT : CallR X (.builtin "sorted") (fun vs H Q => ∃ (a : Addr) (ns : List Int), vs = [V.ref a] ∧ SqT X.K H a (ns.map V.int) ∧
    ∀ (ns' : List Int) (p : Addr), ns'.Perm ns → ns'.Pairwise (· ≤ ·) → H p = none → Q (.ref p) (upd H p (.lst (ns'.map V.int)))) := by
  intro pins s σ H vs us Q I r h
  obtain ⟨a, ns, rfl, hs, q⟩ := h
  obtain ⟨its, rv, pt, hz⟩ := I.tuple hs
  rw [Vals.ref1 r]
  have hi : IntsAre its.toArray.toList ns := ints_of_vals rv
  have hi : IntsAre its ns := hi
  have hzz : its.length ≤ sizeLine := by rw [← rv.length]; exact hz
  refine SrtO.sorted_ordT SrtO.swo_int (show s.heap.IsTuple a its.toArray from pt) hzz (fun h2 h₁ a' _ => SrtO.ints_sortable hi h2) fun out h' p h1 h2 hp hk hat => ?_
  obtain ⟨k1, k2, k3⟩ := SrtO.ints_out hi h1 h2
  obtain ⟨c, hat⟩ := hat
  have hlen : ((out.map SrtO.iv).map V.int).length ≤ sizeLine := by
    rw [List.length_map, k2.length_eq]
    rw [List.length_map] at hz
    exact hz
  obtain ⟨hx, rfl, kx⟩ := hp
  have hn : H hx.objs.size = none := (I.hok.kept kx).fresh (Nat.le_refl _)
  have hg : s.heap.get? hx.objs.size = none := by
    cases z : s.heap.get? hx.objs.size with
    | none => rfl
    | some u => exact absurd (Heap.lt_size (kx _ _ z)) (Nat.lt_irrefl _)
  exact ⟨.ref _, upd H _ (.lst ((out.map SrtO.iv).map V.int)), I.laidN (t' := s.toks) hk hg hn ⟨hlen, out, c, vals_of_ints k1, hat⟩, rfl, q _ _ k2 k3 hn⟩
end
end Mi
set_option maxHeartbeats 1000000
namespace Mi
open PySem PySem.Spec L2
open PyProof.Rows hiding St

def rIxM (X : Cx) : R2 := fun x y H Q => ∀ value slice pins s σ v u, Inv X pins σ H s → RelV x v → RelV y u → subscripted slice false v u = operate [v, u] (getItem v u) → wpAny (model X.prog X.w) X.A (subscriptTail value slice v u) (EP X pins σ Q) X.xe s
theorem opIx (X : Cx) : IxR X (rIxM X) := fun value slice pins s σ H x y v u Q I rx ry h hs => h value slice pins s σ v u I rx ry hs
section
variable {X : Cx} {C : IC} {G H H2 G2 : Hp} {σ : L2.St} {S S2 : List Sl} {vs pp : List Nat} {Q : D → List Sl → Prop} {Qv : VK}
theorem ri {r : R2} (h : IxR X r) {x y : V} (q : r x y H2 Qv) : rIxM X x y H2 Qv := fun value slice pins s σ u w I rx ry hs => h value slice pins s σ H2 x y u w Qv I rx ry q hs
theorem idx_ok (hu : X.A.units + 65 < cLine) (k : Kt X.K C G H σ S vs pp Q Qv) (p : Post X.K C G H H2 σ S S2 vs pp G2) {d e : D} {x y : V} (r1 : Rep X.K G2 d x) (r2 : Rep X.K G2 e y) (q : idxSem d e fun r => Q r S2) : rIxM X x y H2 Qv := by
  unfold idxSem at q
  split at q
  · obtain ⟨a, us, rfl, h1, h2⟩ := r1
    cases r2
    obtain ⟨j, z, e1, e2, q⟩ := q
    obtain ⟨w, e3, r3⟩ := h2.get e2
    refine ri ix_list ⟨a, us, _, w, rfl, rfl, SqL.of (p.sub _ _ h1), ?_, k.val p r3 q⟩
    unfold atI
    rw [show ixN us.length _ = some j by rw [← h2.len]; exact e1]
    exact e3
  · obtain ⟨a, us, rfl, h1, h2⟩ := r1
    cases r2
    obtain ⟨j, z, e1, e2, q⟩ := q
    obtain ⟨w, e3, r3⟩ := h2.get e2
    refine ri ix_tup ⟨a, us, _, w, rfl, rfl, SqT.up p.sub h1, ?_, k.val p r3 q⟩
    unfold atI
    rw [show ixN us.length _ = some j by rw [← h2.len]; exact e1]
    exact e3
  · obtain ⟨q1, j, z, e1, e2, q⟩ := q
    obtain ⟨a, o, rfl, g, z1, z2⟩ := dget_of q1 r1 r2 p.sub
    cases o with
    | none => rw [z2 rfl] at e1; cases e1
    | some w =>
      obtain ⟨j', d', e3, e4, r3⟩ := z1 w rfl
      rw [e1] at e3
      cases e3
      rw [e2] at e4
      cases e4
      intro value slice pins s σ v u I rx ry hs
      obtain rfl : v = Value.ref a := rx
      exact tail_any (dict_typeIs I g) PySem.F.slot_dict_getitem.lookup (d_getItem (by omega) I g ry fun w' s3 I3 rw' => ⟨w, H2, I3, rw', k.val p r3 q⟩) hs
  · exact q.elim
theorem rcut {K : PySem.W.Frag} {G : Hp} {ds : List D} {us : List V} (r : Reps K G ds us) (lo hi : Option Int) :
    Reps K G ((ds.drop (cutIx ds.length 0 lo)).take (cutIx ds.length ds.length hi - cutIx ds.length 0 lo)) (cutV us lo hi) := by
  have e : ∀ (n m : Nat) (o : Option Int), cutIx n m o = HT.sIx n m o := fun n m o => by cases o <;> rfl
  unfold cutV
  rw [e, e, r.len]
  exact (r.drop _).take _
theorem rep_ints {K : PySem.W.Frag} {G : Hp} : ∀ (ns : List Int), Reps K G (ns.map D.int) (ns.map V.int)
  | [] => rfl
  | n :: r => ⟨_, _, rfl, rfl, rep_ints r⟩
theorem slc_ok (k : Kt X.K C G H σ S vs pp Q Qv) (p : Post X.K C G H H2 σ S S2 vs pp G2) {d : D} {x : V} {lo hi : Option Int} (r1 : Rep X.K G2 d x) (q : slcSem d lo hi fun r => Q r S2) : rSlA X.K x lo hi H2 Qv ∨ rSlL X.K x lo hi H2 Qv := by
  unfold slcSem at q
  split at q
  · obtain ⟨a, us, rfl, h1, h2⟩ := r1
    refine .inl ⟨a, us, rfl, SqT.up p.sub h1, fun e => ?_, fun _ c hc => k.tup p (rcut h2 lo hi) hc q⟩
    refine k.val p (d := .tup _) ⟨a, us, rfl, h1, ?_⟩ q
    have z := rcut h2 lo hi
    have e2 : cutV us lo hi = us := by
      unfold cutV
      rw [e.1, e.2]
      simp
    rw [e2] at z
    exact z
  · obtain ⟨a, us, rfl, h1, h2⟩ := r1
    exact .inr ⟨a, us, rfl, SqL.of (p.sub _ _ h1), fun c hc => k.lst p (rcut h2 lo hi) hc q⟩
  · obtain ⟨a, rfl, h1⟩ := r1
    exact .inr ⟨a, _, rfl, p.sub.seq h1, fun c hc => k.lst p (rcut (rep_ints _) lo hi) hc q⟩
  · exact q.elim
theorem bools_rep {K : PySem.W.Frag} {G : Hp} : ∀ {ds : List D} {us : List V} {bs : List Bool}, boolsOf ds = some bs → Reps K G ds us → us = bs.map V.bl
  | [], us, bs, e, r => by
    cases e
    exact r
  | d :: ds, us, bs, e, r => by
    obtain ⟨v, ws, rfl, h1, h2⟩ := r
    cases d <;> simp [boolsOf] at e
    obtain ⟨cs, e1, rfl⟩ := e
    cases h1
    rw [bools_rep e1 h2]
    rfl
theorem ints_rep {K : PySem.W.Frag} {G : Hp} : ∀ {ds : List D} {us : List V} {bs : List Int}, intsOf ds = some bs → Reps K G ds us → us = bs.map V.int
  | [], us, bs, e, r => by
    cases e
    exact r
  | d :: ds, us, bs, e, r => by
    obtain ⟨v, ws, rfl, h1, h2⟩ := r
    cases d <;> simp [intsOf] at e
    obtain ⟨cs, e1, rfl⟩ := e
    cases h1
    rw [ints_rep e1 h2]
    rfl
theorem rep_rng {K : PySem.W.Frag} {G : Hp} (lo : Int) (n : Nat) : Reps K G ((List.range n).map fun (k : Nat) => D.int (lo + k)) ((List.range n).map fun (k : Nat) => V.int (lo + k)) := by
  have e := rep_ints (K := K) (G := G) ((List.range n).map fun (k : Nat) => lo + (k : Int))
  rw [List.map_map, List.map_map] at e
  exact e
/-- range(n) as a value -/
theorem cr_range1 : CallR X (.type "range") (fun vs H Q => ∃ j, vs = [V.int j] ∧ ∀ p, H p = none → Q (.ref p) (upd H p (.rng 0 j))) := by
  intro pins s σ H vs us Q I r h
  obtain ⟨j, rfl, q⟩ := h
  obtain ⟨u1, rfl, rj⟩ := vals1 r
  obtain ⟨u, rfl⟩ := rj
  refine call_range_1 ⟨.ref s.heap.objs.size, upd H s.heap.objs.size (.rng 0 j), I.laid (t' := s.toks + 1 + 1) (fun b o e => Heap.get?_push_of_some _ e) (Nat.le_refl _) ?_, rfl, q _ (I.hok.fresh (Nat.le_refl _))⟩
  exact ⟨s.toks, u, s.toks + 1, Heap.get?_push_size _ rfl⟩
/-- list(a range) -/
theorem cr_listRg (hc : X.calm = true) : CallR X (.type "list") (fun vs H Q => ∃ a lo hi, vs = [V.ref a] ∧ H a = some (.rng lo hi) ∧ RgOk lo hi ∧ ∀ p, H p = none → Q (.ref p) (upd H p (.lst (rgV lo hi)))) := by
  intro pins s σ H vs us Q I r h
  obtain ⟨x, a, b, rfl, ha, ok, q⟩ := h
  obtain ⟨u1, rfl, rj⟩ := vals1 r
  obtain rfl : u1 = Value.ref x := rj
  obtain ⟨t, u, v, hx⟩ := I.hok x _ ha
  obtain ⟨b1, b2, b3, b4, b5⟩ := ok
  have hr : IsRange s.heap x a b 1 t u v := hx
  refine call_list_range (n := (b - a).toNat) (I.ok.hd hc) hr (small_one b1 b2 b3 b4) (rangeSize_nat a b) b5 fun h' tk acc c' hk e' hi => ?_
  refine ⟨.ref s.heap.objs.size, upd H s.heap.objs.size (.lst (rgV a b)), I.laid hk (Nat.le_refl _) (show ObjOk X.prog X.w _ _ _ (.lst (rgV a b)) from ⟨?_, acc.toList, c', vals_rg hi, ?_⟩), rfl, q _ (I.hok.fresh (Nat.le_refl _))⟩
  · rw [rgV_length, sizeLine_eq]; omega
  · rw [Array.toArray_toList]; exact e'
theorem fromPairs_ok {K : PySem.W.Frag} {G : Hp} : ∀ {ds : List D} {us : List V} {kvs : List (Key × V)} {ks ws ks2 ws2 : List D}, fromPairs ds ks ws = some (ks2, ws2) → Reps K G ds us → kvs.map (fun kv => keyD kv.1) = ks → Reps K G ws (kvs.map (·.2)) →
    ∃ (ps : List Addr) (more : List (Key × V)), us = ps.map V.ref ∧ Paired (fun p kv => SqT K G p [kV kv.1, kv.2]) ps more ∧ (mergeK kvs more).map (fun kv => keyD kv.1) = ks2 ∧ Reps K G ws2 ((mergeK kvs more).map (·.2))
  | [], us, kvs, ks, ws, ks2, ws2, e, r, h1, h2 => by
    cases e
    exact ⟨[], [], r, .nil, h1, h2⟩
  | d :: ds, us, kvs, ks, ws, ks2, ws2, e, r, h1, h2 => by
    obtain ⟨v, us', rfl, r1, r2⟩ := r
    unfold fromPairs at e
    split at e
    · rename_i e0; cases e0
    · rename_i k x rest e0
      cases e0
      obtain ⟨a, zs, rfl, h3, k1, z1, rfl, rk, x1, z2, rfl, rx, rn⟩ := r1
      have rn' : z2 = [] := rn
      subst rn'
      by_cases hk : k.isKey = true
      · rw [if_pos hk] at e
        obtain ⟨q, rfl⟩ := isKey_ex hk
        obtain rfl := keyD_rep rk
        obtain ⟨p1, p2⟩ := putK_rep q rx h1 h2
        obtain ⟨ps, more, e1, e2, e3, e4⟩ := fromPairs_ok e r2 p1 p2
        exact ⟨a :: ps, (q, x1) :: more, by rw [e1]; rfl, .cons h3 e2, e3, e4⟩
      · rw [if_neg hk] at e; cases e
    · cases e
theorem Paired.up' {α β : Type} {F F' : α → β → Prop} (h : ∀ a b, F a b → F' a b) : ∀ {l : List α} {m : List β}, Paired F l m → Paired F' l m
  | _, _, .nil => .nil
  | _, _, .cons a b => .cons (h _ _ a) (Paired.up' h b)
def bltVal : Blt → Value
  | .len => .builtin "len"
  | .all => .builtin "all"
  | .any => .builtin "any"
  | .sum => .builtin "sum"
  | .tuple => .type "tuple"
  | .list => .type "list"
  | .int => .type "int"
  | .abs => .builtin "abs"
  | .min1 => .builtin "min"
  | .max1 => .builtin "max"
  | .min2 => .builtin "min"
  | .max2 => .builtin "max"
  | .sorted => .builtin "sorted"
  | .dict => .type "dict"
  | .range1 => .type "range"
theorem seqOf_rep {K : PySem.W.Frag} {d : D} {ds : List D} {x : V} (e : seqOf d = some ds) (r : Rep K G2 d x) : ∃ a us, x = .ref a ∧ Reps K G2 ds us ∧ ((G2 a = some (.lst us) ∧ d = .lst ds) ∨ (SqT K G2 a us ∧ d = .tup ds)) := by
  cases d <;> simp [seqOf] at e
  · subst e
    obtain ⟨a, us, rfl, h1, h2⟩ := r
    exact ⟨a, us, rfl, h2, .inr ⟨h1, rfl⟩⟩
  · subst e
    obtain ⟨a, us, rfl, h1, h2⟩ := r
    exact ⟨a, us, rfl, h2, .inl ⟨h1, rfl⟩⟩
theorem blt_ok (hc : X.calm = true) (k : Kt X.K C G H σ S vs pp Q Qv) (p : Post X.K C G H H2 σ S S2 vs pp G2) {b : Blt} {ds : List D} {us : List V} (r : Reps X.K G2 ds us) (q : bltSem b ds fun r => Q r S2) : rCall X (bltVal b) us H2 Qv := by
  unfold bltSem at q
  split at q
  · obtain ⟨x, _, rfl, r1, rn⟩ := r
    have rn' : _ = [] := rn
    subst rn'
    obtain ⟨n, e, hn, q⟩ := q
    rename_i d
    cases d <;> simp [lenOf] at e
    · subst e
      cases r1
      exact rc call_len ⟨_, _, rfl, ⟨by rw [lim_eq]; exact hn, rfl⟩, k.int p q⟩
    · subst e
      obtain ⟨a, us, rfl, h1, h2⟩ := r1
      refine rc call_len ⟨_, _, rfl, .inr ⟨us, SqT.up p.sub h1, rfl⟩, ?_⟩
      rw [← h2.len]
      exact k.int p q
    · subst e
      obtain ⟨a, us, rfl, h1, h2⟩ := r1
      refine rc call_len ⟨_, _, rfl, .inl ⟨us, SqL.of (p.sub _ _ h1), rfl⟩, ?_⟩
      rw [← h2.len]
      exact k.int p q
    · subst e
      obtain ⟨a, kvs, rfl, h1, h2, h3⟩ := r1
      subst h2
      rw [List.length_map] at q
      intro pins s σ us I rx
      obtain ⟨u1, rfl, rj⟩ := vals1 rx
      obtain rfl : u1 = Value.ref a := rj
      exact d_len I (h1.elim (fun z => .inl (p.sub _ _ z)) (fun ⟨o, z⟩ => .inr ⟨o, p.sub _ _ z⟩)) fun t s' I' => ⟨.int kvs.length, H2, I', ⟨t, rfl⟩, k.int p q⟩
  · obtain ⟨x, _, rfl, r1, rn⟩ := r
    have rn' : _ = [] := rn
    subst rn'
    obtain ⟨a, us, rfl, h1, h2⟩ := r1
    obtain ⟨bs, e, q⟩ := q
    have e2 := bools_rep e h2
    subst e2
    exact rc (cr_all hc) ⟨a, bs, rfl, SqL.of (p.sub _ _ h1), k.bl p q⟩
  · obtain ⟨x, _, rfl, r1, rn⟩ := r
    have rn' : _ = [] := rn
    subst rn'
    obtain ⟨a, us, rfl, h1, h2⟩ := r1
    obtain ⟨bs, e, q⟩ := q
    have e2 := bools_rep e h2
    subst e2
    exact rc (cr_any hc) ⟨a, bs, rfl, SqL.of (p.sub _ _ h1), k.bl p q⟩
  · obtain ⟨x, _, rfl, r1, rn⟩ := r
    have rn' : _ = [] := rn
    subst rn'
    obtain ⟨a, us, rfl, h1, h2⟩ := r1
    obtain ⟨bs, e, q⟩ := q
    have e2 := ints_rep e h2
    subst e2
    exact rc (cr_sum hc) ⟨a, bs, rfl, SqL.of (p.sub _ _ h1), k.int p q⟩
  · obtain ⟨x, _, rfl, r1, rn⟩ := r
    have rn' : _ = [] := rn
    subst rn'
    obtain ⟨ds, e, q⟩ := q
    obtain ⟨a, us, rfl, h2, ⟨h1, rfl⟩ | ⟨h1, rfl⟩⟩ := seqOf_rep e r1
    · exact rc call_tuple_of ⟨a, us, rfl, .inl ⟨SqL.of (p.sub _ _ h1), fun l hl => k.tup p h2 hl q⟩⟩
    · exact rc call_tuple_of ⟨a, us, rfl, .inr ⟨SqT.up p.sub h1, k.val p (d := .tup _) ⟨a, us, rfl, h1, h2⟩ q⟩⟩
  · obtain ⟨x, _, rfl, r1, rn⟩ := r
    have rn' : _ = [] := rn
    subst rn'
    obtain ⟨a, rfl, h1⟩ := r1
    obtain ⟨q1, q2, q3, q4, q5, q⟩ := q
    refine rc (cr_listRg hc) ⟨a, _, _, rfl, p.sub _ _ h1, ⟨q1, q2, q3, q4, q5⟩, fun l hl => k.lst p ?_ hl q⟩
    exact rep_rng _ _
  · obtain ⟨x, _, rfl, r1, rn⟩ := r
    have rn' : _ = [] := rn
    subst rn'
    obtain ⟨ds, e, q⟩ := q
    obtain ⟨a, us, rfl, h2, ⟨h1, rfl⟩ | ⟨h1, rfl⟩⟩ := seqOf_rep e r1
    · exact rc call_list_of ⟨a, us, rfl, .inl (SqL.of (p.sub _ _ h1)), fun l hl => k.lst p h2 hl q⟩
    · exact rc call_list_of ⟨a, us, rfl, .inr (SqT.up p.sub h1), fun l hl => k.lst p h2 hl q⟩
  · obtain ⟨x, _, rfl, r1, rn⟩ := r
    have rn' : _ = [] := rn
    subst rn'
    cases r1
    exact rc call_int1 (.inl ⟨_, rfl, k.int p q⟩)
  · obtain ⟨x, _, rfl, r1, rn⟩ := r
    have rn' : _ = [] := rn
    subst rn'
    cases r1
    exact rc call_int1 (.inr ⟨_, rfl, k.int p q⟩)
  · obtain ⟨x, _, rfl, r1, rn⟩ := r
    have rn' : _ = [] := rn
    subst rn'
    cases r1
    exact rc call_abs ⟨_, rfl, k.int p q⟩
  · obtain ⟨x, _, rfl, r1, rn⟩ := r
    have rn' : _ = [] := rn
    subst rn'
    obtain ⟨a, us, rfl, h1, h2⟩ := r1
    obtain ⟨ns, e, hn, q⟩ := q
    have e2 := ints_rep e h2
    subst e2
    exact rc (cr_min hc) ⟨a, ns, rfl, SqL.of (p.sub _ _ h1), hn, fun m h3 h4 => k.int p (q m h3 h4)⟩
  · obtain ⟨x, _, rfl, r1, rn⟩ := r
    have rn' : _ = [] := rn
    subst rn'
    obtain ⟨a, us, rfl, h1, h2⟩ := r1
    obtain ⟨ns, e, hn, q⟩ := q
    have e2 := ints_rep e h2
    subst e2
    exact rc (cr_max hc) ⟨a, ns, rfl, SqL.of (p.sub _ _ h1), hn, fun m h3 h4 => k.int p (q m h3 h4)⟩
  · obtain ⟨x, _, rfl, r1, y, _, rfl, r2, rn⟩ := r
    have rn' : _ = [] := rn
    subst rn'
    cases r1; cases r2
    exact rc (call_min2 hc) ⟨_, _, rfl, k.int p q⟩
  · obtain ⟨x, _, rfl, r1, y, _, rfl, r2, rn⟩ := r
    have rn' : _ = [] := rn
    subst rn'
    cases r1; cases r2
    exact rc (call_max2 hc) ⟨_, _, rfl, k.int p q⟩
  · obtain ⟨x, _, rfl, r1, rn⟩ := r
    have rn' : _ = [] := rn
    subst rn'
    obtain ⟨a, us, rfl, h1, h2⟩ := r1
    obtain ⟨ks, ws, e, q⟩ := q
    obtain ⟨ps, more, rfl, e2, e3, e4⟩ := fromPairs_ok (kvs := []) e h2 rfl rfl
    exact rc (call_dictP hc) ⟨a, ps, more, rfl, SqL.of (p.sub _ _ h1), Paired.up' (fun _ _ h => SqT.up p.sub h) e2, fun l hl => k.dct p e4 e3 hl q⟩
  · obtain ⟨x, _, rfl, r1, rn⟩ := r
    have rn' : _ = [] := rn
    subst rn'
    cases r1
    exact rc cr_range1 ⟨_, rfl, fun l hl => k.val (p.laid hl) (d := .rng 0 _) ⟨l, rfl, upd_same⟩ q⟩
  · obtain ⟨x, _, rfl, r1, rn⟩ := r
    have rn' : _ = [] := rn
    subst rn'
    obtain ⟨ds, ns, e, e1, q⟩ := q
    obtain ⟨a, us, rfl, h2, ⟨h1, rfl⟩ | ⟨h1, rfl⟩⟩ := seqOf_rep e r1
    · have e2 := ints_rep e1 h2
      subst e2
      exact rc cr_sortedI ⟨a, ns, rfl, SqL.of (p.sub _ _ h1), fun out l h3 h4 hl => k.lst p (rep_ints out) hl (q out h3 h4)⟩
    · have e2 := ints_rep e1 h2
      subst e2
      exact rc cr_sortedT ⟨a, ns, rfl, SqT.up p.sub h1, fun out l h3 h4 hl => k.lst p (rep_ints out) hl (q out h3 h4)⟩
  · exact q.elim
end
end Mi
set_option maxHeartbeats 1000000
namespace Mi
open PySem PySem.Spec L2
open PyProof.Rows hiding St

structure SC where
  N : List Str
  sc : Scope
  fn : Str → Bool
def visB (s : SC) (i : Nat) (x : Str) : Bool := decide (s.N[i]? = some x) && ((match s.sc.names.lookup x with
    | some .local => true
    | some .cell => true
    | some .free => true
    | _ => false) && (!(x == ("__debug__" : Str)) && !(x == ("__classdict__" : Str))))
def locB (s : SC) (i : Nat) (x : Str) : Bool := decide (s.N[i]? = some x) && (match s.sc.names.lookup x with
    | some .local => true
    | some .cell => s.fn x
    | _ => false)
def glB (s : SC) (x : Str) : Bool := decide (s.sc.names.lookup x = some .globalImplicit) && (!(x == ("__debug__" : Str)) && !(x == ("__name__" : Str)))
def conB : Const → D → Bool
  | .none, .non => true
  | .bool b, .bl c => b == c
  | .int i, .int j => decide (i = j)
  | .str x, .str y => decide (x = y)
  | _, _ => false
def dsj (a b : ME) : Bool := (pops b).all fun i => !(vars a).contains i
def noSt : Expr → Bool
  | .Starred _ _ => false
  | _ => true
def noSet : Expr → Bool
  | .Set _ _ _ => false
  | _ => true
def noSl : Expr → Bool
  | .Slice _ _ _ _ => false
  | _ => true
def plainO : Expr → Bool
  | .Call (.Name _ _) [] [] _ => false
  | _ => true
/-- a test that asks a value's truth -/
def plainT : Expr → Bool
  | .UnaryOp .Not _ _ => false
  | .BoolOp _ _ _ => false
  | .IfExp _ _ _ _ => false
  | .Compare _ _ _ _ => false
  | _ => true
def noComp : Expr → Bool
  | .ListComp _ _ _ _ => false
  | .SetComp _ _ _ _ => false
  | .DictComp _ _ _ _ _ => false
  | _ => true
def bltName : Blt → Str
  | .len => "len"
  | .all => "all"
  | .any => "any"
  | .sum => "sum"
  | .tuple => "tuple"
  | .list => "list"
  | .int => "int"
  | .abs => "abs"
  | .min1 => "min"
  | .max1 => "max"
  | .min2 => "min"
  | .max2 => "max"
  | .sorted => "sorted"
  | .dict => "dict"
  | .range1 => "range"
def bltNames : List Str := ["len", "all", "any", "sum", "tuple", "list", "int", "abs", "min", "max", "sorted", "dict", "range", "isinstance", "enumerate", "zip", "bool", "str", "set", "repr"]
def tyName : Str → Option String := fun x => if x = ("int" : Str) then some "int" else if x = ("bool" : Str) then some "bool" else if x = ("tuple" : Str) then some "tuple" else if x = ("list" : Str) then some "list" else if x = ("str" : Str) then some "str" else if x = ("dict" : Str) then some "dict" else none
def tyB (s : SC) : Ty → Expr → Bool
  | .bt n, .Name x _ => glB s x && decide (tyName x = some n)
  | .own c, .Name x _ => glB s x && decide (x = c)
  | _, _ => false
def tysB (s : SC) : List Ty → List Expr → Bool
  | [], [] => true
  | t :: ts, e :: es => tyB s t e && tysB s ts es
  | _, _ => false
mutual
def gB (s : SC) : TG → Expr → Bool
  | .nm i, .Name x _ => locB s i x
  | .tp g, .Tuple es _ _ => gsB s g es
  | _, _ => false
def gsB (s : SC) : TG → List Expr → Bool
  | .gnil, [] => true
  | .gcons a r, e :: es => noSt e && (gB s a e && gsB s r es)
  | _, _ => false
end
def bmName : BM → Str
  | .dget2 => "get"
  | .dget1 => "get"
  | .lindex => "index"
def bmAr : BM → Nat
  | .dget2 => 2
  | .dget1 => 1
  | .lindex => 1
def isCmp : Op → Bool
  | .cmp _ => true
  | _ => false
def isNop : ME → Bool
  | .nop => true
  | _ => false
/-- a walk whose items are new pairs: the target is written as a tuple -/
def needT : ME → Bool
  | .itE _ => true
  | .itZ _ _ => true
  | _ => false
def isTup : Expr → Bool
  | .Tuple _ _ _ => true
  | _ => false
structure CT where
  e : SC → Expr → Bool
  t : SC → Expr → Bool
  a : SC → List Expr → Bool
  i : SC → Expr → Bool
def no1 : SC → Expr → Bool := fun _ _ => false
def noA : SC → List Expr → Bool := fun _ _ => false
abbrev ctE (f : SC → Expr → Bool) : CT := ⟨f, fun s e => plainT e && f s e, noA, no1⟩
def ck : ME → CT
  | .var i => ctE fun s e => match e with
    | .Name x _ => visB s i x
    | _ => false
  | .con d => ctE fun _ e => match e with
    | .Constant c _ _ => conB c d
    | _ => false
  | .glo x _ => ctE fun s e => match e with
    | .Name y _ => decide (x = y) && glB s y
    | _ => false
  | .op o as => (fun f => ⟨f, fun s e => (plainT e || isCmp o) && f s e, noA, no1⟩ : (SC → Expr → Bool) → CT) fun s e => match o, e with
    | .bin p, .BinOp x q y _ => decide (p = q) && (ck as).a s [x, y]
    | .cmp p, .Compare x [q] [y] _ => decide (p = q) && (!behindInMarks q y && (ck as).a s [x, y])
    | .neg, .UnaryOp .USub x _ => (ck as).a s [x]
    | .tup, .Tuple es _ _ => (ck as).a s es
    | .lst, .List es _ => (ck as).a s es
    | .idx, .Subscript x y _ => noSl y && (ck as).a s [x, y]
    | .fld f, .Attribute x g _ => decide (f = g) && (plainO x && (ck as).a s [x])
    | .blt b, .Call (.Name x _) es [] _ => decide (bltName b = x) && (glB s x && (!es.isEmpty && (ck as).a s es))
    | _, _ => false
  | .bm m o as => ctE fun s e => match e with
    | .Call (.Attribute x n apos) es [] pos => decide (bmName m = n) && (plainO x && ((apos.endLine == pos.line) && (decide (es.length = bmAr m) && ((ck o).e s x && (dsj o as && (ck as).a s es)))))
    | _ => false
  | .chn o1 o2 a b c => (fun f => ⟨f, f, noA, no1⟩ : (SC → Expr → Bool) → CT) fun s e => match e with
    | .Compare x [p, q] [y, z] _ => decide (o1 = p) && (decide (o2 = q) && (!behindInMarks q z && ((ck a).e s x && ((ck b).e s y && ((ck c).e s z && (dsj a b && (dsj b c && dsj a c)))))))
    | _ => false
  | .and a b => ⟨fun s e => match e with
    | .BoolOp .And (x :: y :: rest) pos => (ck a).e s x && (dsj a b && (match rest with
      | [] => (ck b).e s y
      | _ => (ck b).e s (.BoolOp .And (y :: rest) pos)))
    | _ => false, fun s e => match e with
    | .BoolOp .And (x :: y :: rest) pos => (ck a).t s x && (match rest with
      | [] => (ck b).t s y
      | _ => (ck b).t s (.BoolOp .And (y :: rest) pos))
    | _ => false, noA, no1⟩
  | .or a b => ⟨fun s e => match e with
    | .BoolOp .Or (x :: y :: rest) pos => (ck a).e s x && (dsj a b && (match rest with
      | [] => (ck b).e s y
      | _ => (ck b).e s (.BoolOp .Or (y :: rest) pos)))
    | _ => false, fun s e => match e with
    | .BoolOp .Or (x :: y :: rest) pos => (ck a).t s x && (match rest with
      | [] => (ck b).t s y
      | _ => (ck b).t s (.BoolOp .Or (y :: rest) pos))
    | _ => false, noA, no1⟩
  | .not a => ⟨fun s e => match e with
    | .UnaryOp .Not x _ => (ck a).e s x
    | _ => false, fun s e => match e with
    | .UnaryOp .Not x _ => (ck a).t s x
    | _ => false, noA, no1⟩
  | .ife c a b => ⟨fun s e => match e with
    | .IfExp x y z _ => (ck c).t s x && ((ck a).e s y && (ck b).e s z)
    | _ => false, no1, noA, no1⟩
  | .isi ts a => ctE fun s e => match e with
    | .Call (.Name f _) [x, .Tuple es _ _] [] _ => decide (f = ("isinstance" : Str)) && (glB s f && (noSt x && ((ck a).e s x && (tysB s ts es && decide (2 ≤ es.length ∧ es.length ≤ 9)))))
    | .Call (.Name f _) [x, y] [] _ => decide (f = ("isinstance" : Str)) && (glB s f && (noSt x && ((ck a).e s x && (match ts with
      | [t] => tyB s t y
      | _ => false))))
    | _ => false
  | .call sp as => ctE fun s e => match e with
    | .Call (.Name x _) es [] _ => decide (sp.name = x) && (decide (sp.cls = ("" : Str)) && (!sp.hd && (glB s x && (!es.isEmpty && (ck as).a s es))))
    | _ => false
  | .callh sp h as => ctE fun s e => match e with
    | .Call (.Name x _) (.Name y _ :: es) [] _ => decide (sp.name = x) && (decide (sp.cls = ("" : Str)) && (sp.hd && (glB s x && (visB s h y && (ck as).a s es))))
    | _ => false
  | .meth sp o as => ctE fun s e => match e with
    | .Call (.Attribute x m apos) es [] pos => decide (sp.name = m) && (decide (sp.cls ≠ ("" : Str)) && (!sp.hd && (plainO x && ((apos.endLine == pos.line) && (decide (es.length < 20) && ((ck o).e s x && (dsj o as && (ck as).a s es)))))))
    | _ => false
  | .eqo neg sp as => (fun f => ⟨f, f, noA, no1⟩ : (SC → Expr → Bool) → CT) fun s e => match e with
    | .Compare x [q] [y] _ => decide (q = if neg = true then CmpOp.NotEq else CmpOp.Eq) && (!behindInMarks q y && (decide (sp.name = ("__eq__" : Str)) && (decide (sp.cls ≠ ("" : Str)) && (!sp.hd && (ck as).a s [x, y]))))
    | _ => false
  | .lz a b => ctE fun s e => match e with
    | .Call (.Name x _) [.Call (.Name z _) [p, q] [] _] [] _ => decide (x = ("list" : Str)) && (decide (z = ("zip" : Str)) && (glB s x && (glB s z && (noSt p && (noSt q && ((ck a).e s p && ((ck b).e s q && dsj a b)))))))
    | _ => false
  | .ds1 a b => ctE fun s e => match e with
    | .Dict [some k] [v] _ => dsj a b && ((ck a).e s k && (ck b).e s v)
    | _ => false
  | .ss b a => ctE fun s e => match e with
    | .Call (.Name x _) [.Call (.Name z _) [p] [] _] [] _ => decide (x = if b = true then ("sorted" : Str) else "len") && (decide (z = ("set" : Str)) && (glB s x && (glB s z && (noSt p && (ck a).e s p))))
    | _ => false
  | .make sp as => ctE fun s e => match e with
    | .Call (.Name x _) es [] _ => decide (sp.name = x) && (glB s x && (!es.isEmpty && (ck as).a s es))
    | _ => false
  | .slc a lo hi => ctE fun s e => match e with
    | .Subscript x (.Slice l h none _) _ => (ck a).e s x && (dsj a lo && (dsj a hi && (dsj lo hi && ((match l with
      | some y => (ck lo).e s y
      | none => isNop lo) && (match h with
      | some y => (ck hi).e s y
      | none => isNop hi)))))
    | _ => false
  | .nop => ⟨no1, no1, noA, no1⟩
  | .lc vs elt g it tst => ctE fun s e => match e with
    | .ListComp x [⟨tg, iter, ifs, 0⟩] scope _ =>
      let own := vs.map fun i => ((s.N[i]?).getD ("" : Str), i)
      let s2 : SC := ⟨s.N, relS scope s.sc, fun x => scope.names.lookup x == some .cell⟩
      blkC s.N s.sc scope own && ((pops elt).isEmpty && ((pops tst).isEmpty && (gB s2 g tg && ((gvars g).all (fun i => vs.contains i) && ((!needT it || isTup tg) && ((ck it).i s iter && ((ck elt).e s2 x && (match ifs with
        | [] => (match tst with
          | .con (.bl true) => true
          | _ => false)
        | [c] => (ck tst).t s2 c
        | _ => false))))))))
    | _ => false
  | .dc _ _ _ _ _ => ⟨no1, no1, noA, no1⟩
  | .dsp ks vs => ctE fun _ e => match e, ks, vs with
    | .Dict [] [] _, .anil, .anil => true
    | _, _, _ => false
  | .pop i => ctE fun s e => match e with
    | .Call (.Attribute (.Name x _) m apos) [] [] pos => decide (m = ("pop" : Str)) && (visB s i x && (apos.endLine == pos.line))
    | _ => false
  | .popAt i a => ctE fun s e => match e with
    | .Call (.Attribute (.Name x _) m apos) [y] [] pos => decide (m = ("pop" : Str)) && (visB s i x && ((apos.endLine == pos.line) && (noSt y && (ck a).e s y)))
    | _ => false
  | .anil => ⟨no1, no1, fun _ es => es.isEmpty, no1⟩
  | .acons a r => ⟨no1, no1, fun s es => match es with
    | e :: es => noSt e && ((ck a).e s e && (dsj a r && (ck r).a s es))
    | [] => false, no1⟩
  | .itS a => ⟨no1, no1, noA, fun s e => noSet e && (ck a).e s e⟩
  | .itX i => ⟨no1, no1, noA, fun s e => match e with
    | .Name x _ => visB s i x
    | _ => false⟩
  | .itR as => ⟨no1, no1, noA, fun s e => match e with
    | .Call (.Name x _) es [] _ => decide (x = ("range" : Str)) && (glB s x && (decide (es.length = 1 ∨ es.length = 2) && (ck as).a s es))
    | _ => false⟩
  | .itE a => ⟨no1, no1, noA, fun s e => match e with
    | .Call (.Name x _) [y] [] _ => decide (x = ("enumerate" : Str)) && (glB s x && (noSt y && (ck a).e s y))
    | _ => false⟩
  | .itZ a b => ⟨no1, no1, noA, fun s e => match e with
    | .Call (.Name x _) [y, z] [] _ => decide (x = ("zip" : Str)) && (glB s x && (noSt y && (noSt z && ((ck a).e s y && ((ck b).e s z && dsj a b)))))
    | _ => false⟩
  | .itI _ => ⟨no1, no1, noA, no1⟩
/-- what a term calls, by a predicate -/
def Us (fn : FSpec → Prop) (mk : CSpec → Prop) (gl : Str → D → Prop) (kc : Str → Prop) : ME → Prop
  | .var _ => True
  | .con _ => True
  | .glo x d => gl x d
  | .op _ as => Us fn mk gl kc as
  | .bm _ o as => Us fn mk gl kc o ∧ Us fn mk gl kc as
  | .chn _ _ a b c => Us fn mk gl kc a ∧ Us fn mk gl kc b ∧ Us fn mk gl kc c
  | .and a b => Us fn mk gl kc a ∧ Us fn mk gl kc b
  | .or a b => Us fn mk gl kc a ∧ Us fn mk gl kc b
  | .not a => Us fn mk gl kc a
  | .ife c a b => Us fn mk gl kc c ∧ Us fn mk gl kc a ∧ Us fn mk gl kc b
  | .isi ts a => (∀ c, Ty.own c ∈ ts → kc c) ∧ Us fn mk gl kc a
  | .call sp as => fn sp ∧ Us fn mk gl kc as
  | .callh sp _ as => fn sp ∧ Us fn mk gl kc as
  | .meth sp o as => fn sp ∧ Us fn mk gl kc o ∧ Us fn mk gl kc as
  | .eqo _ sp as => (fn sp ∧ fn { sp with lvl := sp.lvl + 1 }) ∧ Us fn mk gl kc as
  | .lz a b => Us fn mk gl kc a ∧ Us fn mk gl kc b
  | .ds1 a b => Us fn mk gl kc a ∧ Us fn mk gl kc b
  | .ss _ a => Us fn mk gl kc a
  | .make sp as => mk sp ∧ Us fn mk gl kc as
  | .slc a lo hi => Us fn mk gl kc a ∧ Us fn mk gl kc lo ∧ Us fn mk gl kc hi
  | .nop => True
  | .lc _ elt _ it tst => Us fn mk gl kc elt ∧ Us fn mk gl kc it ∧ Us fn mk gl kc tst
  | .dc _ k v _ it => Us fn mk gl kc k ∧ Us fn mk gl kc v ∧ Us fn mk gl kc it
  | .dsp ks vs => Us fn mk gl kc ks ∧ Us fn mk gl kc vs
  | .pop _ => True
  | .popAt _ e => Us fn mk gl kc e
  | .anil => True
  | .acons a r => Us fn mk gl kc a ∧ Us fn mk gl kc r
  | .itS a => Us fn mk gl kc a
  | .itX _ => True
  | .itR as => Us fn mk gl kc as
  | .itE a => Us fn mk gl kc a
  | .itZ a b => Us fn mk gl kc a ∧ Us fn mk gl kc b
  | .itI a => Us fn mk gl kc a
end Mi
set_option maxHeartbeats 1000000
namespace Mi
open PySem PySem.Spec L2
open PyProof.Rows hiding St

structure ClsF (K : PySem.W.Frag) (mg : Str → Option Value) (c : Str) : Prop where
  cls : Cls K (He.ga K c)
  att : PySem.W.findIn K (.ref (He.ga K c)) "__class__" = some (some (.builtin "object.__class__"))
  gd : PySem.W.specialIn K (.builtin "object.__class__") "__get__" = some (some (.builtin "getset_descriptor.__get__"))
  tk : PySem.W.takesIn K (.builtin "object.__class__") = some true
  mro : PySem.W.mroIn K (He.ga K c) (.type "object") = some true
  mgc : mg c = some (.ref (He.ga K c))
  ne : PySem.W.findIn K (.ref (He.ga K c)) "__ne__" = some (some (.builtin "object.__ne__"))
def tyNames : List String := ["NoneType", "bool", "int", "str", "list", "tuple", "dict"]
def tyAsk : List String := ["int", "bool", "tuple", "list", "str", "dict"]
/-- what the module has written -/
structure KOk (K : PySem.W.Frag) (mg : Str → Option Value) : Prop where
  blt : ∀ b ∈ bltNames, mg b = none
  cls : ∀ c, KC K c → ClsF K mg c
  kitT : ∀ n ∈ tyNames, ∀ x, KC K x → PySem.W.kitOne K (.type n) (.ref (He.ga K x)) = some false
  kitC : ∀ c, KC K c → ∀ n ∈ tyAsk, PySem.W.kitOne K (.ref (He.ga K c)) (.type n) = some false
  kitO : ∀ c x, KC K c → KC K x → PySem.W.kitOne K (.ref (He.ga K c)) (.ref (He.ga K x)) = some (decide (c = x))
/-- behind a call -/
structure Ret (K : PySem.W.Frag) (G H : Hp) (hd : Option (Addr × Addr)) (G2 H2 : Hp) : Prop where
  up : Same G G2
  sub : Same G2 H2
  new : ∀ a o, G2 a = some o → G a = some o ∨ H a = none
  frm : ∀ a o, H a = some o → (∀ c, hd ≠ some (a, c)) → H2 a = some o
  hnd : ∀ a c, hd = some (a, c) → HandOk G2 H2 a c ∧ G2 a = none
def hdV : Option (Addr × Addr) → List V
  | some (a, _) => [.ref a]
  | none => []
def spOf (K : PySem.W.Frag) (sp : FSpec) : Sp := fun vs H Qv Ev => ∃ (G : Hp) (ds : List D) (us : List V) (hd : Option (Addr × Addr)) (Q : DK) (E : XP),
  vs = hdV hd ++ us ∧ hd.isSome = sp.hd ∧ ds.length = sp.ar ∧ Same G H ∧ Reps K G ds us ∧ (∀ a c, hd = some (a, c) → HandOk G H a c ∧ G a = none) ∧ sp.spec ds Q E ∧
  (∀ d v H2 G2, Ret K G H hd G2 H2 → Rep K G2 d v → Q d → Qv v H2) ∧ ∀ x cls dd H2 G2, Ret K G H hd G2 H2 → XRep K G2 H2 cls dd x → E x → Ev cls dd H2
/-- behind an __init__ -/
structure RetI (K : PySem.W.Frag) (G H : Hp) (x : Addr) (G2 H2 : Hp) : Prop where
  up : Same G G2
  sub : Same G2 H2
  new : ∀ a o, G2 a = some o → G a = some o ∨ H a = none
  frm : ∀ a o, H a = some o → a ≠ x → H2 a = some o
def spInit (K : PySem.W.Frag) (sp : CSpec) : Sp := fun vs H Qv Ev => ∃ (x dx : Addr) (G : Hp) (ds : List D) (us : List V) (Q : List D → Prop) (E : XP),
  vs = .ref x :: us ∧ ds.length = sp.ar ∧ H x = some (.ins (He.ga K sp.name) dx []) ∧ H dx = some (.own x) ∧ Same G H ∧ G x = none ∧ G dx = none ∧ Reps K G ds us ∧ sp.spec ds Q E ∧
  (∀ ws flds H2 G2, RetI K G H x G2 H2 → flds.map (·.1) = sp.fs → Reps K G2 ws (flds.map (·.2)) → H2 x = some (.ins (He.ga K sp.name) dx flds) → Q ws → Qv .non H2) ∧
  ∀ y cls dd H2 G2, RetI K G H x G2 H2 → XRep K G2 H2 cls dd y → E y → Ev cls dd H2
/-- where a def stands -/
def fAt (K : PySem.W.Frag) (sp : FSpec) : Addr := if sp.cls = ("" : Str) then He.ga K sp.name else He.ma K (He.ga K sp.cls) sp.name
structure FnGood (P : Program) (w : World) (K : PySem.W.Frag) (mg : Str → Option Value) (base : Heap) (sp : FSpec) : Prop where
  ex : ∃ (fd : FuncData) (ps : List Str), Binds K fd ps [] ∧ FnOk P w K mg base (L2.CX P w) sp.lvl (fAt K sp) fd ps (spOf K sp)
  kp : PySem.W.keepIn K (.ref (fAt K sp)) = true
  glo : sp.cls = ("" : Str) → mg sp.name = some (.ref (fAt K sp))
  met : sp.cls ≠ ("" : Str) → KC K sp.cls ∧ Meth K (He.ga K sp.cls) sp.name (fAt K sp)
structure MkGood (P : Program) (w : World) (K : PySem.W.Frag) (mg : Str → Option Value) (base : Heap) (sp : CSpec) : Prop where
  ex : ∃ (f : Addr) (fd : FuncData) (ps : List Str), Mk K (He.ga K sp.name) f ∧ Binds K fd ps [] ∧ FnOk P w K mg base (L2.CX P w) sp.lvl f fd ps (spInit K sp)
  ok : InsOk K sp.name sp.fs
/-- the context of ours -/
structure XG (fn : FSpec → Prop) (mk : CSpec → Prop) (gl : Str → D → Prop) (kc : Str → Prop) (X : Cx) (s : SC) : Prop where
  N : X.N = s.N
  sc : X.env.scope = s.sc
  fnn : X.fn = s.fn
  calm : X.calm = true
  nd : X.N.Nodup
  un : X.A.units + 65 < cLine
  ko : KOk X.K X.mg
  fns : ∀ sp, fn sp → FnGood X.prog X.w X.K X.mg X.base sp ∧ Room sp.lvl X.A
  mks : ∀ sp, mk sp → MkGood X.prog X.w X.K X.mg X.base sp ∧ Room (sp.lvl + 1) X.A
  gls : ∀ x d, gl x d → ∃ u v, X.mg x = some u ∧ RelV v u ∧ ∀ G, Rep X.K G d v
  kcs : ∀ c, kc c → KC X.K c
section
variable {K : PySem.W.Frag} {C : IC} {G H H2 G1 G2 : Hp} {σ : L2.St} {S S2 : List Sl} {vs pp : List Nat}
/-- a call of ours keeps ours -/
theorem Post.call {H1 : Hp} {S1 : List Sl} {hd : Option (Addr × Addr)} (p : Post K C G H H1 σ S S1 vs pp G1) (hh : ∀ a c, hd = some (a, c) → ∃ (i : Nat), S1[i]? = some (Sl.hn a c)) (r : Ret K G1 H1 hd G2 H2) : Post K C G H H2 σ S S1 vs pp G2 := by
  have hhs : ∀ a c, hd = some (a, c) → hs S1 a := fun a c e => let ⟨i, h⟩ := hh a c e; ⟨i, c, h⟩
  have nothd : ∀ a, G1 a ≠ none → ∀ c, hd ≠ some (a, c) := fun a h c e => h (p.hav a (hhs a c e))
  refine ⟨p.r0, p.rel.heap (p.up.trans (r.up.trans r.sub)) (fun a o h n => ?_) (fun a h => ?_) (fun i b ow e o h => r.frm b o h fun c z => p.rel.hdis i b ow e (hhs b c z)) fun i a c h => ?_, r.sub, p.up.trans r.up, fun a o h => ?_, fun a o h nh np => ?_, p.knd⟩
  · refine r.frm a o (p.rel.frm a o h n) fun c z => ?_
    obtain ⟨i, hi⟩ := hh a c z
    rcases (p.rel.sl i _ hi).2.2.2 with q | q
    · exact n q
    · rw [q] at h; cases h
  · have := p.rel.dom a h
    cases q : H1 a with
    | none => exact absurd q this
    | some o =>
      by_cases z : ∃ c, hd = some (a, c)
      · obtain ⟨c, z⟩ := z
        obtain ⟨⟨xs, i, r', m, n, h1, _⟩, _⟩ := r.hnd a c z
        rw [h1]; exact fun z => nomatch z
      · rw [r.frm a o q fun c e => z ⟨c, e⟩]; exact fun z => nomatch z
  · by_cases z : ∃ c', hd = some (a, c')
    · obtain ⟨c', z⟩ := z
      obtain ⟨j, hj⟩ := hh a c' z
      obtain ⟨_, ⟨xs, i1, r1, m1, n1, e1, e2, e3⟩, _⟩ := p.rel.sl i _ h
      obtain ⟨_, ⟨ys, i2, r2, m2, n2, e4, e5, e6⟩, _⟩ := p.rel.sl j _ hj
      rw [e1] at e4
      cases e4
      obtain ⟨⟨zs, i3, r3, m3, n3, e7, e8, e9⟩, _⟩ := r.hnd a c z
      have e10 := r.up _ _ (p.up _ _ e2)
      rw [e8] at e10
      exact ⟨zs, i3, r3, m3, n3, e7, by rw [e2, ← e10], e9⟩
    · have q := p.rel.sl i _ h
      exact q.2.1.up (fun o h => r.frm a o h fun c e => z ⟨c, e⟩) (Same.refl _)
  · rcases r.new a o h with h | h
    · exact p.src a o h
    · exact .inr (.inl (p.free h))
  · refine r.frm a o (p.frm a o h nh np) fun c z => nh ((knd_hs p.knd a).mp (hhs a c z))
end
end Mi
set_option maxHeartbeats 1000000
namespace Mi
open PySem PySem.Spec L2
open PyProof.Rows hiding St
section
variable {K : PySem.W.Frag} {C : IC} {G H H1 G1 G2 H2 : Hp} {σ : L2.St} {S S1 S2 : List Sl} {vs ws pp qq : List Nat}
/-- a greater ground, where it touches nothing that is ours alone -/
theorem Rel.ground (r : Rel K C G H σ S) (up : Same G G2) (sub : Same G2 H) (new : ∀ a o, G2 a = some o → C.Ge a = some o ∨ C.He a = none)
    (avd : ∀ (i : Nat) (p : Addr), Own S i → σ[i]? = some (some (.ref p)) → G2 p = none) (hav : ∀ a, hs S a → G2 a = none) : Rel K C G2 H σ S := by
  refine ⟨sub, r.ge.trans up, new, r.frm, r.dom, r.len, fun i s h => ?_, r.dis, r.hdis⟩
  have q := r.sl i s h
  cases s with
  | un => exact q
  | va d =>
    obtain ⟨v, e, h1⟩ := q
    exact ⟨v, e, h1.up up⟩
  | ow d =>
    obtain ⟨p, e, h1, h2, h3⟩ := q
    exact ⟨p, e, avd i p ⟨_, h, rfl⟩ e, h2, h3.up (fun _ z => z) up⟩
  | lk p d =>
    obtain ⟨e, h1, h2, h3⟩ := q
    exact ⟨e, avd i p ⟨_, h, rfl⟩ e, h2, h3.up (fun _ z => z) up⟩
  | hn a c =>
    obtain ⟨e, h1, h2, h3⟩ := q
    exact ⟨e, h1.up (fun _ z => z) up, hav a ⟨i, c, h⟩, h3⟩
  | sc a ns => exact q
/-- a slot's thing stays from now on -/
theorem Rel.frz1 (r : Rel K C G H σ S) (i : Nat) : ∃ G2, Same G G2 ∧ Rel K C G2 H σ (frz1 S i) ∧ (∀ a, G2 a ≠ none → G a ≠ none ∨ (Own S i ∧ σ[i]? = some (some (.ref a)))) := by
  unfold Mi.frz1
  have go : ∀ (s : Sl) (d : D) (p : Addr), S[i]? = some s → isOwn s = true → σ[i]? = some (some (.ref p)) → G p = none → C.He p = none → (∃ o, H p = some o ∧ Rep K (upd G p o) d (.ref p)) →
      ∃ G2, Same G G2 ∧ Rel K C G2 H σ (S.set i (.va d)) ∧ (∀ a, G2 a ≠ none → G a ≠ none ∨ (Own S i ∧ σ[i]? = some (some (.ref a)))) := by
    intro s d p h o e h1 h2 ⟨u, h3, h4⟩
    have ow : Own S i := ⟨s, h, o⟩
    have own' : ∀ j, Own (S.set i (.va d)) j → Own S j ∧ j ≠ i := by
      rintro j ⟨t, q, z⟩
      by_cases ej : i = j
      · subst ej
        rw [List.getElem?_set_self (List.getElem?_eq_some_iff.mp h).1] at q
        cases q
        cases z
      · rw [List.getElem?_set_ne ej] at q
        exact ⟨⟨t, q, z⟩, fun z => ej z.symm⟩
    have hs' : ∀ a, hs (S.set i (.va d)) a → hs S a := by
      rintro a ⟨j, c, q⟩
      by_cases ej : i = j
      · subst ej
        rw [List.getElem?_set_self (List.getElem?_eq_some_iff.mp h).1] at q
        cases q
      · rw [List.getElem?_set_ne ej] at q
        exact ⟨j, c, q⟩
    refine ⟨upd G p u, same_upd h1, ?_, fun a q => ?_⟩
    · have rg : ∀ j t, j ≠ i → S[j]? = some t → SlOk K C (upd G p u) H σ[j]? t := by
        intro j t nj q
        have z := r.sl j t q
        cases t with
        | un => exact z
        | va d' =>
          obtain ⟨v, e', z1⟩ := z
          exact ⟨v, e', z1.up (same_upd h1)⟩
        | ow d' =>
          obtain ⟨p', e', z1, z2, z3⟩ := z
          refine ⟨p', e', ?_, z2, z3.up (fun _ z => z) (same_upd h1)⟩
          rw [upd_ne (fun z => r.dis i j p (Ne.symm nj) ow ⟨_, q, rfl⟩ e (by rw [← z]; exact e'))]
          exact z1
        | lk p' d' =>
          obtain ⟨e', z1, z2, z3⟩ := z
          refine ⟨e', ?_, z2, z3.up (fun _ z => z) (same_upd h1)⟩
          rw [upd_ne (fun z => r.dis i j p (Ne.symm nj) ow ⟨_, q, rfl⟩ e (by rw [← z]; exact e'))]
          exact z1
        | hn a c =>
          obtain ⟨e', z1, z2, z3⟩ := z
          refine ⟨e', z1.up (fun _ z => z) (same_upd h1), ?_, z3⟩
          rw [upd_ne (fun z => r.hdis i p ow e (by rw [← z]; exact ⟨j, c, q⟩))]
          exact z2
        | sc a ns => exact z
      refine ⟨fun a o q => ?_, r.ge.trans (same_upd h1), fun a o q => ?_, r.frm, r.dom, by rw [List.length_set]; exact r.len, fun j t q => ?_, fun j k p' njk oj ok => r.dis j k p' njk (own' j oj).1 (own' k ok).1, fun j p' oj e' z => r.hdis j p' (own' j oj).1 e' (hs' _ z)⟩
      · by_cases ea : a = p
        · subst ea; rw [upd_same] at q; cases q; exact h3
        · rw [upd_ne ea] at q; exact r.sub a o q
      · by_cases ea : a = p
        · subst ea; exact .inr h2
        · rw [upd_ne ea] at q; exact r.new a o q
      · by_cases ej : i = j
        · subst ej
          rw [List.getElem?_set_self (List.getElem?_eq_some_iff.mp h).1] at q
          cases q
          exact ⟨_, e, h4⟩
        · rw [List.getElem?_set_ne ej] at q
          exact rg j t (fun z => ej z.symm) q
    · by_cases ea : a = p
      · subst ea; exact .inr ⟨ow, e⟩
      · rw [upd_ne ea] at q; exact .inl q
  cases h : S[i]? with
  | none => exact ⟨G, Same.refl _, r, fun a q => .inl q⟩
  | some s =>
    cases s with
    | ow d =>
      obtain ⟨p, e, h1, h2, h3⟩ := r.sl i _ h
      refine go _ d p h rfl e h1 h2 ?_
      cases d with
      | lst ds =>
        obtain ⟨us, q1, q2⟩ := h3
        exact ⟨_, q1, p, us, rfl, upd_same, q2.up (same_upd h1)⟩
      | dct ks xs =>
        obtain ⟨kvs, q1, q2, q3⟩ := h3
        exact ⟨_, q1, p, kvs, rfl, .inl upd_same, q2, q3.up (same_upd h1)⟩
      | _ => exact h3.elim
    | lk p d =>
      obtain ⟨e, h1, h2, h3⟩ := r.sl i _ h
      refine go _ d p h rfl e h1 h2 ?_
      cases d with
      | lst ds =>
        obtain ⟨us, q1, q2⟩ := h3
        exact ⟨_, q1, p, us, rfl, upd_same, q2.up (same_upd h1)⟩
      | dct ks xs =>
        obtain ⟨o, kvs, q1, q2, q3⟩ := h3
        exact ⟨_, q1, p, kvs, rfl, .inr ⟨o, upd_same⟩, q2, q3.up (same_upd h1)⟩
      | _ => exact h3.elim
    | un => exact ⟨G, Same.refl _, r, fun a q => .inl q⟩
    | va d => exact ⟨G, Same.refl _, r, fun a q => .inl q⟩
    | hn a c => exact ⟨G, Same.refl _, r, fun a q => .inl q⟩
    | sc a ns => exact ⟨G, Same.refl _, r, fun a q => .inl q⟩
theorem frz1_own {i j : Nat} (h : Own (frz1 S i) j) : Own S j ∧ j ≠ i := by
  obtain ⟨t, q, z⟩ := h
  unfold frz1 at q
  by_cases e : i = j
  · subst e
    cases h : S[i]? with
    | none => rw [h] at q; simp only [h] at q; cases q
    | some s =>
      have hi := (List.getElem?_eq_some_iff.mp h).1
      rw [h] at q
      cases s <;> simp only at q <;> first | (rw [List.getElem?_set_self hi] at q; cases q; cases z) | (rw [h] at q; cases q; cases z)
  · refine ⟨?_, fun z => e z.symm⟩
    cases h : S[i]? with
    | none => rw [h] at q; exact ⟨t, q, z⟩
    | some s =>
      rw [h] at q
      cases s <;> simp only at q <;> first | (rw [List.getElem?_set_ne e] at q; exact ⟨t, q, z⟩) | exact ⟨t, q, z⟩
theorem frz1_hs {i : Nat} {a : Addr} (h : hs (frz1 S i) a) : hs S a := by
  obtain ⟨j, c, q⟩ := h
  unfold frz1 at q
  by_cases e : i = j
  · subst e
    cases h : S[i]? with
    | none => rw [h] at q; simp only [h] at q; cases q
    | some s =>
      have hi := (List.getElem?_eq_some_iff.mp h).1
      rw [h] at q
      cases s <;> simp only at q <;> first | (rw [List.getElem?_set_self hi] at q; cases q) | (rw [h] at q; cases q; exact ⟨_, c, h⟩) | (rw [h] at q; cases q)
  · cases h : S[i]? with
    | none => rw [h] at q; exact ⟨j, c, q⟩
    | some s =>
      rw [h] at q
      cases s <;> simp only at q <;> first | (rw [List.getElem?_set_ne e] at q; exact ⟨j, c, q⟩) | exact ⟨j, c, q⟩
theorem Rel.frz : ∀ (vs : List Nat) {G : Hp} {S : List Sl}, Rel K C G H σ S → ∃ G2, Same G G2 ∧ Rel K C G2 H σ (frz vs S)
  | [], G, S, r => ⟨G, Same.refl _, r⟩
  | i :: vs, G, S, r => by
    obtain ⟨G1, u1, r1, _⟩ := r.frz1 i
    obtain ⟨G2, u2, r2⟩ := Rel.frz vs r1
    exact ⟨G2, u1.trans u2, r2⟩
theorem frz_own : ∀ (vs : List Nat) {S : List Sl} {j : Nat}, Own (frz vs S) j → Own S j ∧ j ∉ vs
  | [], S, j, h => ⟨h, by simp⟩
  | i :: vs, S, j, h => by
    obtain ⟨h1, h2⟩ := frz_own vs (S := frz1 S i) h
    obtain ⟨h3, h4⟩ := frz1_own h1
    exact ⟨h3, by simp [h4, h2]⟩
theorem frz_hs : ∀ (vs : List Nat) {S : List Sl} {a : Addr}, hs (frz vs S) a → hs S a
  | [], S, a, h => h
  | i :: vs, S, a, h => frz1_hs (frz_hs vs h)
/-- what the value leans on is ground from now on -/
theorem Post.frozen (p : Post K C G H H2 σ S S2 vs pp G2) : ∃ G3, Same G2 G3 ∧ Rel K C G3 H2 σ (frz vs S2) := by
  obtain ⟨G1, u1, r1⟩ := Rel.frz vs p.rel
  have hsub : Same (joinG G1 G2) H2 := joinG_sub r1.sub p.sub
  refine ⟨joinG G1 G2, joinG_right r1.sub p.sub, r1.ground joinG_left hsub (fun a o h => ?_) (fun i q ow e => ?_) fun a ha => ?_⟩
  · rcases joinG_cases h with h | h
    · exact r1.new a o h
    · exact p.new a o h
  · obtain ⟨o1, n1⟩ := frz_own vs ow
    exact joinG_none (r1.own_none ow e).1 (p.avd i q n1 o1 e)
  · exact joinG_none (r1.hs_none ha) (p.hav a (frz_hs vs ha))
theorem tups_none {a : Addr} {H : Hp} {G : Hp} (s : Same G H) (h : ∀ xs, H a ≠ some (HO.tup xs)) (h' : ∀ o xs, H a ≠ some (HO.frz o (HO.tup xs))) : tups G a = none := by
  cases q : tups G a with
  | none => rfl
  | some o =>
    have q2 := s _ _ (tups_sub a o q)
    unfold tups at q
    split at q
    · cases q; exact absurd q2 (h _)
    · cases q; exact absurd q2 (h' _ _)
    · cases q
theorem Cell.notup {p : Addr} {d : D} (h : Cell K G H p d) : (∀ xs, H p ≠ Option.some (HO.tup xs)) ∧ ∀ o xs, H p ≠ Option.some (HO.frz o (HO.tup xs)) := by
  cases d with
  | lst ds => obtain ⟨us, e, _⟩ := h; rw [e]; exact ⟨fun xs z => (by cases z), fun o xs z => (by cases z)⟩
  | dct ks xs => obtain ⟨us, e, _⟩ := h; rw [e]; exact ⟨fun xs z => (by cases z), fun o xs z => (by cases z)⟩
  | _ => exact h.elim
theorem CellL.notup {p : Addr} {d : D} (h : CellL K G H p d) : (∀ xs, H p ≠ Option.some (HO.tup xs)) ∧ ∀ o xs, H p ≠ Option.some (HO.frz o (HO.tup xs)) := by
  cases d with
  | lst ds => obtain ⟨us, e, _⟩ := h; rw [e]; exact ⟨fun xs z => (by cases z), fun o xs z => (by cases z)⟩
  | dct ks xs => obtain ⟨o, us, e, _⟩ := h; rw [e]; exact ⟨fun xs z => (by cases z), fun o xs z => (by cases z)⟩
  | _ => exact h.elim
/-- .. the tuples of it alone -/
theorem Post.thawed (p : Post K C G H H2 σ S S2 vs pp G2) : Rel K C (joinG G (tups G2)) H2 σ S2 := by
  have hsub : Same (joinG G (tups G2)) H2 := joinG_sub p.rel.sub (tups_sub.trans p.sub)
  refine p.rel.ground joinG_left hsub (fun a o h => ?_) (fun i q ow e => ?_) fun a ha => ?_
  · rcases joinG_cases h with h | h
    · exact p.rel.new a o h
    · exact p.new a o (tups_sub a o h)
  · refine joinG_none (p.rel.own_none ow e).1 ?_
    obtain ⟨s, h, o⟩ := ow
    have z := p.rel.sl i s h
    cases s <;> simp [isOwn] at o
    · obtain ⟨p', e', _, _, c⟩ := z
      rw [e] at e'; cases e'
      exact tups_none p.sub c.notup.1 c.notup.2
    · obtain ⟨e', _, _, c⟩ := z
      rw [e] at e'; cases e'
      exact tups_none p.sub c.notup.1 c.notup.2
  · refine joinG_none (p.rel.hs_none ha) ?_
    obtain ⟨i, c, h⟩ := ha
    obtain ⟨_, ⟨xs, i1, r1, m1, n1, e1, _⟩, _⟩ := p.rel.sl i _ h
    exact tups_none p.sub (fun xs z => by rw [e1] at z; cases z) (fun o xs z => by rw [e1] at z; cases z)
theorem Post.settle (p : Post K C G H H2 σ S S2 vs pp G2) {ds : List D} {us : List V} (r : Reps K G2 ds us) {k : Bool} (hk : k = true → hardAll ds = true) : ∃ G3, Same G G3 ∧ Rel K C G3 H2 σ (thaw k vs S2) ∧ Reps K G3 ds us := by
  unfold thaw
  cases k with
  | true =>
    rw [if_pos rfl]
    exact ⟨_, joinG_left, p.thawed, (r.hard (hk rfl)).up (joinG_right p.rel.sub (tups_sub.trans p.sub))⟩
  | false =>
    rw [if_neg Bool.false_ne_true]
    obtain ⟨G3, u, r3⟩ := p.frozen
    exact ⟨G3, p.up.trans u, r3, r.up u⟩
theorem Post.settle1 (p : Post K C G H H2 σ S S2 vs pp G2) {d : D} {v : V} (r : Rep K G2 d v) {k : Bool} (hk : k = true → d.hard = true) : ∃ G3, Same G G3 ∧ Rel K C G3 H2 σ (thaw k vs S2) ∧ Rep K G3 d v := by
  obtain ⟨G3, u, r3, q⟩ := p.settle (Reps.one r) (k := k) fun e => by simp [hardAll, hk e]
  obtain ⟨_, _, e, q1, _⟩ := q
  cases e
  exact ⟨G3, u, r3, q1⟩
theorem own_set {i j : Nat} {s : Sl} (n : isOwn s = false) (h : Own (S.set i s) j) : Own S j ∧ j ≠ i := by
  obtain ⟨t, q, z⟩ := h
  by_cases e : i = j
  · subst e
    by_cases hi : i < S.length
    · rw [List.getElem?_set_self hi] at q
      cases q
      rw [n] at z; cases z
    · rw [List.getElem?_eq_none (by rw [List.length_set]; omega)] at q; cases q
  · rw [List.getElem?_set_ne e] at q
    exact ⟨⟨t, q, z⟩, fun z => e z.symm⟩
theorem own_set' {i j : Nat} {s : Sl} (ne : j ≠ i) (h : Own (S.set i s) j) : Own S j := by
  obtain ⟨t, q, z⟩ := h
  rw [List.getElem?_set_ne (fun z => ne z.symm)] at q
  exact ⟨t, q, z⟩
theorem hs_set {i : Nat} {s : Sl} {a : Addr} (n : ∀ a c, s ≠ .hn a c) (h : hs (S.set i s) a) : hs S a := by
  obtain ⟨j, c, q⟩ := h
  by_cases e : i = j
  · subst e
    by_cases hi : i < S.length
    · rw [List.getElem?_set_self hi] at q
      cases q
      exact absurd rfl (n _ _)
    · rw [List.getElem?_eq_none (by rw [List.length_set]; omega)] at q; cases q
  · rw [List.getElem?_set_ne e] at q
    exact ⟨j, c, q⟩
/-- name = value -/
theorem Rel.set_va (r : Rel K C G H σ S) (i : Nat) {d : D} {v : V} (q : Rep K G d v) : Rel K C G H (σ.set i (some v)) (S.set i (.va d)) := by
  refine ⟨r.sub, r.ge, r.new, r.frm, r.dom, by rw [List.length_set, List.length_set]; exact r.len, fun j t h => ?_, fun j k p njk oj ok ej => ?_, fun j p oj ej z => ?_⟩
  · by_cases e : i = j
    · subst e
      by_cases hi : i < S.length
      · rw [List.getElem?_set_self hi] at h
        cases h
        rw [List.getElem?_set_self (by rw [← r.len]; exact hi)]
        exact ⟨v, rfl, q⟩
      · rw [List.getElem?_eq_none (by rw [List.length_set]; omega)] at h; cases h
    · rw [List.getElem?_set_ne e] at h ⊢
      exact r.sl j t h
  · obtain ⟨o1, n1⟩ := own_set rfl oj
    obtain ⟨o2, n2⟩ := own_set rfl ok
    rw [List.getElem?_set_ne (fun z => n1 z.symm)] at ej
    rw [List.getElem?_set_ne (fun z => n2 z.symm)]
    exact r.dis j k p njk o1 o2 ej
  · obtain ⟨o1, n1⟩ := own_set rfl oj
    rw [List.getElem?_set_ne (fun z => n1 z.symm)] at ej
    exact r.hdis j p o1 ej (hs_set (fun _ _ z => by cases z) z)
theorem Rel.set_un (r : Rel K C G H σ S) (i : Nat) (x : Option V) : Rel K C G H (σ.set i x) (S.set i .un) := by
  refine ⟨r.sub, r.ge, r.new, r.frm, r.dom, by rw [List.length_set, List.length_set]; exact r.len, fun j t h => ?_, fun j k p njk oj ok ej => ?_, fun j p oj ej z => ?_⟩
  · by_cases e : i = j
    · subst e
      by_cases hi : i < S.length
      · rw [List.getElem?_set_self hi] at h
        cases h
        exact True.intro
      · rw [List.getElem?_eq_none (by rw [List.length_set]; omega)] at h; cases h
    · rw [List.getElem?_set_ne e] at h ⊢
      exact r.sl j t h
  · obtain ⟨o1, n1⟩ := own_set rfl oj
    obtain ⟨o2, n2⟩ := own_set rfl ok
    rw [List.getElem?_set_ne (fun z => n1 z.symm)] at ej
    rw [List.getElem?_set_ne (fun z => n2 z.symm)]
    exact r.dis j k p njk o1 o2 ej
  · obtain ⟨o1, n1⟩ := own_set rfl oj
    rw [List.getElem?_set_ne (fun z => n1 z.symm)] at ej
    exact r.hdis j p o1 ej (hs_set (fun _ _ z => by cases z) z)
/-- name = a new thing of its own -/
theorem Rel.set_ow (r : Rel K C G H σ S) (i : Nat) {d : D} {p : Addr} (q : Cell K G H p d) (hg : G p = none) (he : C.He p = none) (hn : ∀ (j : Nat), Own S j → σ[j]? ≠ some (some (.ref p))) (hh : ¬ hs S p) :
    Rel K C G H (σ.set i (some (.ref p))) (S.set i (.ow d)) := by
  refine ⟨r.sub, r.ge, r.new, r.frm, r.dom, by rw [List.length_set, List.length_set]; exact r.len, fun j t h => ?_, fun j k b njk oj ok ej => ?_, fun j b oj ej z => ?_⟩
  · by_cases e : i = j
    · subst e
      by_cases hi : i < S.length
      · rw [List.getElem?_set_self hi] at h
        cases h
        rw [List.getElem?_set_self (by rw [← r.len]; exact hi)]
        exact ⟨p, rfl, hg, he, q⟩
      · rw [List.getElem?_eq_none (by rw [List.length_set]; omega)] at h; cases h
    · rw [List.getElem?_set_ne e] at h ⊢
      exact r.sl j t h
  · by_cases e1 : j = i
    · subst e1
      have hi : j < σ.length := by
        obtain ⟨t, z, _⟩ := oj
        have := (List.getElem?_eq_some_iff.mp z).1
        rw [List.length_set, r.len] at this
        exact this
      rw [List.getElem?_set_self hi] at ej
      cases ej
      rw [List.getElem?_set_ne njk]
      exact hn k (own_set' (fun z => njk z.symm) ok)
    · rw [List.getElem?_set_ne (fun z => e1 z.symm)] at ej
      by_cases e2 : k = i
      · subst e2
        have hi : k < σ.length := by
          obtain ⟨t, z, _⟩ := ok
          have := (List.getElem?_eq_some_iff.mp z).1
          rw [List.length_set, r.len] at this
          exact this
        rw [List.getElem?_set_self hi]
        intro z
        cases z
        exact hn j (own_set' e1 oj) ej
      · rw [List.getElem?_set_ne (fun z => e2 z.symm)]
        exact r.dis j k b njk (own_set' e1 oj) (own_set' e2 ok) ej
  · have z' := hs_set (fun _ _ z => by cases z) z
    by_cases e1 : j = i
    · subst e1
      have hi : j < σ.length := by
        obtain ⟨t, z, _⟩ := oj
        have := (List.getElem?_eq_some_iff.mp z).1
        rw [List.length_set, r.len] at this
        exact this
      rw [List.getElem?_set_self hi] at ej
      cases ej
      exact hh z'
    · rw [List.getElem?_set_ne (fun z => e1 z.symm)] at ej
      exact r.hdis j b (own_set' e1 oj) ej z'
/-- a thing of a slot's own is written -/
theorem Rel.write (r : Rel K C G H σ S) {i : Nat} {d d' : D} {p : Addr} {o : HO} (h : S[i]? = some (.ow d)) (e : σ[i]? = some (some (.ref p))) (q : Cell K G (upd H p o) p d') : Rel K C G (upd H p o) σ (S.set i (.ow d')) := by
  have ow : Own S i := ⟨_, h, rfl⟩
  have hi := (List.getElem?_eq_some_iff.mp h).1
  obtain ⟨p', e', g1, g2, g3⟩ := r.sl i _ h
  rw [e] at e'; cases e'
  have own' : ∀ j, Own (S.set i (.ow d')) j → Own S j := fun j oj => by
    by_cases ej : j = i
    · subst ej; exact ow
    · exact own_set' ej oj
  refine ⟨fun a u z => ?_, r.ge, r.new, fun a u z n => ?_, fun a z => ?_, by rw [List.length_set]; exact r.len, fun j t z => ?_, fun j k b njk oj ok => r.dis j k b njk (own' j oj) (own' k ok), fun j b oj ej z => r.hdis j b (own' j oj) ej (hs_set (fun _ _ z => by cases z) z)⟩
  · rw [upd_ne (fun ea => by rw [ea, g1] at z; cases z)]
    exact r.sub a u z
  · rw [upd_ne (fun ea => by rw [ea, g2] at z; cases z)]
    exact r.frm a u z n
  · by_cases ea : a = p
    · subst ea; rw [upd_same]; exact fun z => nomatch z
    · rw [upd_ne ea]; exact r.dom a z
  · by_cases ej : i = j
    · subst ej
      rw [List.getElem?_set_self hi] at z
      cases z
      exact ⟨p, e, g1, g2, q⟩
    · rw [List.getElem?_set_ne ej] at z
      have w := r.sl j t z
      cases t with
      | un => exact w
      | va d'' => exact w
      | ow d'' =>
        obtain ⟨b, eb, b1, b2, b3⟩ := w
        refine ⟨b, eb, b1, b2, b3.up (fun u hu => ?_) (Same.refl _)⟩
        rw [upd_ne (fun ea => r.dis i j p ej ow ⟨_, z, rfl⟩ e (by rw [← ea]; exact eb))]
        exact hu
      | lk b d'' =>
        obtain ⟨eb, b1, b2, b3⟩ := w
        refine ⟨eb, b1, b2, b3.up (fun u hu => ?_) (Same.refl _)⟩
        rw [upd_ne (fun ea => r.dis i j p ej ow ⟨_, z, rfl⟩ e (by rw [← ea]; exact eb))]
        exact hu
      | hn a c =>
        obtain ⟨ea, b1, b2⟩ := w
        refine ⟨ea, b1.up (fun u hu => ?_) (Same.refl _), b2⟩
        rw [upd_ne (fun eq => r.hdis i p ow e (by rw [← eq]; exact ⟨j, c, z⟩))]
        exact hu
      | sc a ns => exact w
end
end Mi
namespace EnT
open PySem PySem.Spec L2
open PyProof.Rows hiding St

abbrev eObj (it : Addr) : Obj := { cls := .type "enumerate", data := .fields #[.none, .bool false, .ref it, rawInt 0, .none, .none] }
abbrev tObj (t : Addr) : Obj := { cls := .type "tuple_iterator", data := .fields #[.ref t, .int 0 0] }
set_option maxHeartbeats 1000000 in
theorem new_tup (t : Addr) (items : Array Value) : Meets (Builtin.«enumerate.__new__» ⟨[.type "enumerate", .ref t], []⟩) (fun _ R s => s.heap.IsTuple t items ∧
      R (.ok (.ret (.ref (s.heap.push (tObj t)).objs.size))) { s with heap := (s.heap.push (tObj t)).push (eObj s.heap.objs.size) }) :=
  .of_wp fun prog w A R s h => by
    obtain ⟨hp, g, d, tk, os⟩ := s
    obtain ⟨h1, h⟩ := h
    have hsub := sub_enumerate
    have q1 : ∀ {A' : Around} {E Q : Value → Shared → Prop}, Q (.ref hp.objs.size) ⟨hp.push (tObj t), g, d, tk, os⟩ → wpAny (model prog w) A' (pyIter (.ref t)) Q E ⟨hp, g, d, tk, os⟩ := fun q => wpAny_pyIter_tuple h1 q
    obtain ⟨ot, ht, hc, n, hd⟩ := id h1
    wp_walk using AutoSeq1.wpAny_loadPart' ht, q1
    refine wpAny_stack_any fun st => ?_
    refine wpAny_pure ?_
    split
    · rename_i c _ _ _ _ _
      cases (c == Value.type "enumerate") <;> (wp_walk using AutoSeq1.wpAny_loadPart' ht, q1; exact ⟨_, rfl, h⟩)
    · (wp_walk using AutoSeq1.wpAny_loadPart' ht, q1; exact ⟨_, rfl, h⟩)
section
variable {prog : Program} {w : World} {A : Around} {E : Value → Shared → Prop} {s : Shared}
theorem call_tup {t : Addr} {items : Array Value} {Q : Value → Shared → Prop} (h1 : s.heap.IsTuple t items)
    (h : ∀ h', IsEnum h' (s.heap.objs.size + 1) s.heap.objs.size 0 .none → h'.IsTupleIter s.heap.objs.size t 0 → (∀ b o, s.heap.get? b = some o → h'.get? b = some o) → Q (.ref (s.heap.objs.size + 1)) { s with heap := h' }) :
    wpAny (model prog w) A (call (.type "enumerate") [.ref t]) Q E s := by
  refine callType_new F.called_enumerate (by decide) (F.typeCall_enumerate_1 _) (F.newCall_enumerate_1 _) (fun obj => F.args_object_init_2 obj _) F.entry_enumerate_new (new_tup t items) ⟨h1, ?_⟩
  have hz : (s.heap.push (tObj t)).objs.size = s.heap.objs.size + 1 := Heap.size_push ..
  show _ ∧ _
  rw [hz]
  have he : IsEnum ((s.heap.push (tObj t)).push (eObj s.heap.objs.size)) (s.heap.objs.size + 1) s.heap.objs.size 0 .none := by
    have z := Heap.get?_push_size (s.heap.push (tObj t)) (o := eObj s.heap.objs.size) rfl
    rw [hz] at z
    exact z
  exact ⟨⟨_, he, rfl⟩, h _ he ⟨_, Heap.get?_push_of_some _ (Heap.get?_push_size _ rfl), rfl, rfl⟩ fun b o x => Heap.get?_push_of_some _ (Heap.get?_push_of_some _ x)⟩
end
def It' (K : PySem.W.Frag) (a : Addr) : It :=
  ⟨fun i H => ∃ (xs : List V) (x : V), SqT K H a xs ∧ xs[i]? = some x, fun i H v H' => ∃ T x, v = .ref T ∧ H T = none ∧ H' = upd H T (.tup [.int (i : Nat), x]) ∧ (∀ xs, SqT K H a xs → xs[i]? = some x), fun i H => ∃ xs : List V, SqT K H a xs ∧ xs.length = i⟩
theorem turn {P : Program} {w : World} {K : PySem.W.Frag} {elts : List Expr} {kk : Nat} {tpos : Pos} (a e it : Addr) :
    Turn P w K (.Tuple elts kk tpos) (It' K a) [e, it] e (fun i h => (∃ old, IsEnum h e it ((i : Nat) : Int) old) ∧ h.IsTupleIter it a i ∧ e ≠ it ∧ a ≠ it ∧ a ≠ e) where
  mem := by simp
  obj := fun i h st b hb => by
    obtain ⟨⟨old, he⟩, ⟨o, ho, hc, hd⟩, _⟩ := st
    rcases (show b = e ∨ b = it by simpa using hb) with z | z
    · rw [z]
      exact ⟨_, he, fun v q => nomatch q⟩
    · rw [z]
      exact ⟨o, ho, fun v q => by rw [hd] at q; cases q⟩
  keep := fun i h h' st k => let ⟨⟨old, he⟩, hi, hne⟩ := st; ⟨⟨old, k e (by simp) _ he⟩, hi.at (fun o q => k it (by simp) o q), hne⟩
  item := by
    intro X hP hw hK hc i pins s σ H E I hf st hg
    subst hP hw hK
    obtain ⟨⟨old, he⟩, hit, hne, na, nae⟩ := st
    obtain ⟨xs, x, hq, hx⟩ := hg
    obtain ⟨its, rv, p, hz⟩ := I.tuple hq
    obtain ⟨u, hu, ru⟩ := rv.get hx
    have hel : e < s.heap.objs.size := Heap.lt_size he
    have hil : it < s.heap.objs.size := by
      obtain ⟨_, q, _⟩ := hit
      exact Heap.lt_size q
    have D := Draws.tuple (prog := X.prog) (w := X.w) (A := X.A.in1) (I.ok.hd hc) it a na its.toArray
    have hlt : i < its.toArray.size := by
      have := (List.getElem?_eq_some_iff.mp hu).1
      simpa using this
    refine wpAny_pyNext_enum_itemD D he ⟨hit, p⟩ hlt hne (by simp [hne, Ne.symm nae]) fun x' h' tk hP' ho hst hT hsz hk => ?_
    have ex : x' = u := by
      have z : its.toArray[i]? = some x' := hP'
      rw [List.getElem?_toArray, hu] at z
      exact (Option.some.inj z).symm
    subst ex
    refine ⟨_, rfl, wpAny_letOwnedTupleGo_enum (s := { s with heap := h', toks := tk + 1 }) ho fun h'' he' sb => ?_⟩
    have hT2 := (sb.2 _ (Nat.ne_of_gt hel)).trans hT
    have new : ObjOk X.prog X.w (upd H s.heap.objs.size (.tup [.int (i : Nat), x])) h'' s.heap.objs.size (.tup [.int (i : Nat), x]) :=
      ⟨by show 2 ≤ sizeLine; decide, [.int i tk, x'], .cons ⟨_, rfl⟩ (.cons ru .nil), ⟨_, hT2, rfl, _, rfl⟩⟩
    have I1 := I.turnedNew (t' := tk + 1) (ch := [e, it]) (fun b ob hb q => (sb.2 b (fun z => hb (by simp [z]))).trans (hk b ob (fun z => hb (by simp [z])) (fun z => hb (by simp [z])) q)) hf (Nat.le_refl _) new
    refine ⟨.ref s.heap.objs.size, _, I1, rfl, ⟨_, x, rfl, I.hok.fresh (Nat.le_refl _), rfl, fun ys hy => by rw [I.tuple_inj hy hq]; exact hx⟩, ⟨⟨x', ?_⟩, hst.1.at (fun o q => (sb.2 it (Ne.symm hne)).trans q), hne, na, nae⟩, fun b hb => ?_⟩
    · rw [show ((i + 1 : Nat) : Int) = (i : Int) + 1 by omega]
      exact he'
    · have hb' : b < s.heap.objs.size := by
        rcases (show b = e ∨ b = it by simpa using hb) with z | z
        · rw [z]; exact hel
        · rw [z]; exact hil
      rw [upd_ne (Nat.ne_of_lt hb')]
      exact (hf b hb).1
  done := by
    intro X hP hw hK hc i pins s σ H E I hf st hg
    subst hP hw hK
    obtain ⟨⟨old, he⟩, hit, hne, na, nae⟩ := st
    obtain ⟨xs, hq, hx⟩ := hg
    obtain ⟨its, rv, p, hz⟩ := I.tuple hq
    obtain ⟨f0, f1, f2, f3, f4, f5⟩ := hf it (by simp)
    have hl := rv.length
    have D := Draws.tuple (prog := X.prog) (w := X.w) (A := X.A.in1) (I.ok.hd hc) it a na its.toArray
    have en : i = its.toArray.size := by simp; omega
    subst en
    exact wpAny_pyNext_enum_endD D he ⟨hit, p⟩ fun h' eb => ⟨rfl, I.turned (t' := s.toks) (fun b o hb q => eb b o hb q) f0 f1 f3 f4 f5⟩
  self := fun A i s Q E st h => let ⟨⟨_, he⟩, _⟩ := st; wpAny_pyIter_enum he h
def iEn (K : PySem.W.Frag) (ta : TA) : TI := fun σ H R => ta σ H fun vs H1 => ∃ a xs, vs = [.ref a] ∧ ((SqL K H1 a xs ∧ R (Ite K a) H1) ∨ (SqT K H1 a xs ∧ R (It' K a) H1))
theorem pi_en {X : Cx} {e : Expr} {ta : TA} {p pos tpos : Pos} {elts : List Expr} {kk : Nat} (hg : Gl X "enumerate") (hm : X.mg "enumerate" = none) (ha : PA X [e] ta) (hs : starEach [e] X.env = [(false, eval e X.env)]) :
    PI X (.Tuple elts kk tpos) (.Call (.Name "enumerate" p) [e] [] pos) (iEn X.K ta) := by
  refine ⟨fun pins s σ H R I h => ?_⟩
  refine Call_ (ld_blt I hg hm boot_enumerate (PyProof.Rows.callWith_type1 (thn (ha.run pos pins s σ H _ I h) fun us s1 ⟨vs, H1, I1, r1, q1⟩ => ?_) hs rfl))
  obtain ⟨a, xs, ex, q⟩ := q1
  subst ex
  cases r1 with
  | cons r rr =>
    cases rr
    cases r
    have hfp : ∀ b ∈ [s1.heap.objs.size + 1, s1.heap.objs.size], FpOk X pins H1 b := fun b hb => by
      have hle : s1.heap.objs.size ≤ b := by
        rcases (show b = s1.heap.objs.size + 1 ∨ b = s1.heap.objs.size by simpa using hb) with z | z
        · rw [z]; exact Nat.le_add_right _ _
        · rw [z]; exact Nat.le_refl _
      exact I1.fpOk hle (I1.hok.fresh hle)
    rcases q with ⟨hq, q⟩ | ⟨hq, q⟩
    · obtain ⟨its, rv, p', hz⟩ := I1.list hq
      refine call_enumerate_list p'.isList fun h' he hit hsz hk => wpAny_pyIter_enum he ?_
      have I2 : Inv X pins σ H1 { s1 with heap := h' } := I1.kept (t' := s1.toks) hk
      exact ⟨_, [s1.heap.objs.size + 1, s1.heap.objs.size], _, _, H1, rfl, I2, turn_enum a (s1.heap.objs.size + 1) s1.heap.objs.size, ⟨⟨.none, he⟩, hit, Nat.succ_ne_self _⟩, hfp, q⟩
    · obtain ⟨its, rv, p', hz⟩ := I1.tuple hq
      refine call_tup p' fun h' he hit hk => wpAny_pyIter_enum he ?_
      have I2 : Inv X pins σ H1 { s1 with heap := h' } := I1.kept (t' := s1.toks) hk
      have la : a < s1.heap.objs.size := p'.lt
      exact ⟨_, [s1.heap.objs.size + 1, s1.heap.objs.size], _, _, H1, rfl, I2, turn a (s1.heap.objs.size + 1) s1.heap.objs.size, ⟨⟨.none, he⟩, hit, Nat.succ_ne_self _, Nat.ne_of_lt la, Nat.ne_of_lt (Nat.lt_succ_of_lt la)⟩, hfp, q⟩
end EnT
set_option maxHeartbeats 1000000
namespace Mi
open PySem PySem.Spec L2
open PyProof.Rows hiding St

theorem star_of {e : Expr} {es : List Expr} {env : Env} (h : noSt e = true) : starEach (e :: es) env = (false, eval e env) :: starEach es env := by
  cases e <;> first | rfl | cases h
theorem whole_of {o : Expr} {f : Str} {env : Env} {whole : Sem Value} (h : plainO o = true) : attributeBase o f env whole = whole := by
  unfold attributeBase
  split
  · cases h
  · rfl
theorem ix_of {b : Expr} (h : noSl b = true) : ∀ o i, subscripted b false o i = operate [o, i] (getItem o i) := fun o i => by
  cases b <;> first | rfl | cases h
theorem true_of {e : Expr} {env : Env} (h : plainT e = true) : ∀ whole, isTrue e env whole = (do let v ← whole; standAt e.pos; holding [v] (truthy v)) := fun whole => by
  cases e with
  | UnaryOp op x p => cases op <;> first | rfl | cases h
  | BoolOp op x p => cases h
  | IfExp a b c d => cases h
  | Compare a b c d => cases h
  | _ => rfl
inductive JL (X : Cx) (C : IC) : List Expr → ME → Prop
  | nil : JL X C [] .anil
  | cons {e : Expr} {es : List Expr} {a r : ME} : noSt e = true → JE X C e a → dsj a r = true → JL X C es r → JL X C (e :: es) (.acons a r)
theorem dsj_out {a b : ME} (h : dsj a b = true) : ∀ i ∈ pops b, i ∉ vars a := fun i hi hv => by
  have z := List.all_eq_true.mp h i hi
  simp at z
  exact z hv
theorem Post.flatm {K : PySem.W.Frag} {C : IC} {G H H1 G1 : Hp} {σ : L2.St} {S S1 : List Sl} {vs ws pp qq : List Nat} (p : Post K C G H H1 σ S S1 vs pp G1) (h : ∀ i ∈ pp, i ∈ qq) : Post K C G H H1 σ S S1 ws qq G :=
  (p.flat (ws := ws)).mono (fun _ z => z) h
section
variable {X : Cx} {C : IC} {pos pos' : Pos}
theorem JL.plain {es : List Expr} {m : ME} (h : JL X C es m) : ∀ env, (starEach es env).any (·.1) = false := fun env => by
  induction h with
  | nil => rfl
  | cons hs _ _ _ ih =>
    rw [star_of hs, List.any_cons, ih]
    rfl
theorem JL.back {es : List Expr} {m : ME} (h : JL X C es m) (pos : Pos) : ∀ env, (backTo pos (starEach es env)).any (·.1) = false := fun env => by
  unfold backTo
  rw [List.any_map]
  exact h.plain env
theorem JL.backall {es : List Expr} {m : ME} (h : JL X C es m) (pos : Pos) : ∀ env, (backTo pos (starEach es env)).all (fun x => !x.1) = true := fun env => by
  unfold backTo
  rw [List.all_map]
  have z := h.plain env
  rw [List.all_eq_not_any_not]
  simp only [Function.comp_def, Bool.not_not]
  exact congrArg (!·) z
theorem JL.tail {e : Expr} {es : List Expr} {m : ME} (h : JL X C (e :: es) m) : ∃ a r, m = .acons a r ∧ noSt e = true ∧ JE X C e a ∧ dsj a r = true ∧ JL X C es r := by
  cases h with
  | cons h1 h2 h3 h4 => exact ⟨_, _, rfl, h1, h2, h3, h4⟩
theorem JL.none {m : ME} (h : JL X C [] m) : m = .anil := by
  cases h
  rfl
theorem JL.ja {es : List Expr} {m : ME} (h : JL X C es m) : JA X C es m := by
  induction h with
  | nil =>
    intro E tk
    refine PA.imp pa_nil fun σ H Q q => ?_
    obtain ⟨G, S, Q', r, q1, k⟩ := q
    exact k [] S [] H G (Post.same r) rfl q1
  | cons hs he hd hr ih =>
    intro E tk
    refine PA.imp (pa_cons (he E tk) (ih E tk) (star_of hs)) fun σ H Q q => ?_
    obtain ⟨G, S, Q', r, q1, k⟩ := q
    refine ⟨G, S, _, r, q1, fun d1 S1 v1 H1 G1 p1 r1 q2 => ?_⟩
    refine ⟨G, S1, _, p1.rel, q2, fun ds S2 us H2 G2 p2 r2 q3 => ?_⟩
    have k1 := p1.keep1 p2 (dsj_out hd)
    exact k (d1 :: ds) S2 (v1 :: us) H2 (joinG G1 G2) (p1.trans p2 (dsj_out hd)) (Reps.cons_iff.mpr ⟨v1, us, rfl, r1.up joinG_left, r2.up (joinG_right k1 p2.sub)⟩) q3
/-- two operands -/
theorem JL.two {x y : Expr} {as : ME} (h : JL X C [x, y] as) : ∃ a b, as = .acons a (.acons b .anil) ∧ JE X C x a ∧ JE X C y b ∧ ∀ i ∈ pops b, i ∉ vars a := by
  obtain ⟨a, r, rfl, _, h1, h2, h3⟩ := h.tail
  obtain ⟨b, r', rfl, _, h4, _, h5⟩ := h3.tail
  obtain rfl := h5.none
  exact ⟨a, b, rfl, h1, h4, fun i hi => dsj_out h2 i (by simpa [pops] using hi)⟩
theorem JL.one {x : Expr} {as : ME} (h : JL X C [x] as) : ∃ a, as = .acons a .anil ∧ JE X C x a := by
  obtain ⟨a, r, rfl, _, h1, h2, h3⟩ := h.tail
  obtain rfl := h3.none
  exact ⟨a, rfl, h1⟩
/-- an operation of two -/
theorem rd_op2 {x y : Expr} {a b : ME} {o : Op} {E : XS} {σ : L2.St} {H : Hp} {Qv : VK} {R : R2} (hd : ∀ i ∈ pops b, i ∉ vars a)
    (ok : ∀ {G S Q S2 H2 G2 d e v u}, Kt X.K C G H σ S (vars a ++ vars b) (pops a ++ pops b) Q Qv → Post X.K C G H H2 σ S S2 (vars a ++ vars b) (pops a ++ pops b) G2 → Rep X.K G2 d v → Rep X.K G2 e u → o.sem [d, e] (fun r => Q r S2) → R v u H2 Qv)
    (h : rdE X.K C (W (.op o (.acons a (.acons b .anil)))).v (vars (.op o (.acons a (.acons b .anil)))) (pops (.op o (.acons a (.acons b .anil)))) E σ H Qv) :
    tOp R (rdE X.K C (W a).v (vars a) (pops a) E) (rdE X.K C (W b).v (vars b) (pops b) E) σ H Qv := by
  obtain ⟨G, S, Q, r, q, k⟩ := h
  have k' : Kt X.K C G H σ S (vars a ++ vars b) (pops a ++ pops b) Q Qv := fun d S2 v H2 G2 p => k d S2 v H2 G2 (p.mono (by simp [vars]) (by simp [pops]))
  exact rd_two hd r q fun d1 d2 S2 v1 v2 H2 G2 p r1 r2 q2 => ok k' p r1 r2 q2
theorem je_bin {x y : Expr} {as : ME} {o : Operator} (h : JL X C [x, y] as) : JE X C (.BinOp x o y pos) (.op (.bin o) as) := by
  obtain ⟨a, b, rfl, ha, hb, hd⟩ := h.two
  intro E tk
  exact PE.imp (pe_op (opBin X _) (ha E tk) (hb E tk)) fun σ H Qv q => rd_op2 (x := x) (y := y) (o := .bin o) hd (fun k p r1 r2 q => bin_ok k p r1 r2 q) q
theorem je_cmp {x y : Expr} {as : ME} {o : CmpOp} (hu : X.A.units + 65 < cLine) (hm : behindInMarks o y = false) (h : JL X C [x, y] as) : JE X C (.Compare x [o] [y] pos) (.op (.cmp o) as) := by
  obtain ⟨a, b, rfl, ha, hb, hd⟩ := h.two
  intro E tk
  exact PE.imp (pe_cmpR (opBin X _) (ha E tk) (hb E tk) hm) fun σ H Qv q => rd_op2 (x := x) (y := y) (o := .cmp o) hd (fun k p r1 r2 q => cmp_ok hu k p r1 r2 q) q
theorem cmpSem_bl {o : CmpOp} {d e : D} {Q : DK} (h : cmpSem o d e Q) : cmpSem o d e fun r => ∃ c, r = .bl c ∧ Q r := by
  unfold cmpSem at h ⊢
  split at h <;> first | exact ⟨_, rfl, h⟩ | exact ⟨h.1, h.2.1, _, rfl, h.2.2⟩ | exact ⟨h.1, _, rfl, h.2⟩ | exact h
theorem jt_cmp {x y : Expr} {as : ME} {o : CmpOp} (hu : X.A.units + 65 < cLine) (hm : behindInMarks o y = false) (h : JL X C [x, y] as) : JT X C (.Compare x [o] [y] pos) (.op (.cmp o) as) := by
  obtain ⟨a, b, rfl, ha, hb, hd⟩ := h.two
  intro E tk
  refine PT.imp (pt_cmpR (opBin X _) (ha E tk) (hb E tk) hm) fun σ H Qv q => ?_
  obtain ⟨G, S, Q, r, q, k⟩ := q
  refine rd_two hd r q fun d1 d2 S2 v1 v2 H2 G2 p r1 r2 q2 => ?_
  have kk : Kt X.K C G H σ S (vars a ++ vars b) (pops a ++ pops b) (fun r S2 => ∃ c, r = .bl c ∧ truW r fun k => Q k S2) (fun x H' => ∃ k, x = .bl k ∧ Qv k H') := by
    rintro d S2 v H2 G2 p rv ⟨c, rfl, qq⟩
    cases rv
    exact ⟨c, rfl, k c S2 H2 (p.flatm (by simp [pops])) qq⟩
  exact cmp_ok hu kk p r1 r2 (cmpSem_bl q2)
/-- a value's test -/
theorem truV {K : PySem.W.Frag} {G H : Hp} (sb : Same G H) {d : D} {v : V} {Q : Bool → Prop} (r : Rep K G d v) (q : truW d Q) : ∃ k, TruV K v H k ∧ Q k := by
  cases d with
  | non => cases r; exact ⟨false, rfl, q⟩
  | bl b => cases r; exact ⟨b, rfl, q⟩
  | int i => cases r; exact ⟨_, rfl, q⟩
  | str s => cases r; exact ⟨_, ⟨by rw [lim_eq]; exact q.1, rfl⟩, q.2⟩
  | tup ds =>
    obtain ⟨a, us, rfl, h1, h2⟩ := r
    refine ⟨_, .inr (.inl ⟨us, SqT.up sb h1, rfl⟩), ?_⟩
    have e : us.isEmpty = ds.isEmpty := by
      have := h2.len
      cases ds <;> cases us <;> simp_all
    rw [e]
    exact q
  | lst ds =>
    obtain ⟨a, us, rfl, h1, h2⟩ := r
    refine ⟨_, .inl ⟨us, SqL.of (sb _ _ h1), rfl⟩, ?_⟩
    have e : us.isEmpty = ds.isEmpty := by
      have := h2.len
      cases ds <;> cases us <;> simp_all
    rw [e]
    exact q
  | _ => exact q.elim
/-- a test of a value -/
theorem jt_val {e : Expr} {m : ME} (ht : plainT e = true) (hw : (W m).t = fun S Q E => (W m).v S (fun d S1 => truW d fun k => Q k S1) E) (h : JE X C e m) : JT X C e m := by
  intro E tk
  refine PT.imp (pt_truth (h E tk) (true_of ht)) fun σ H Qv q => ?_
  obtain ⟨G, S, Q, r, q, k⟩ := q
  rw [hw] at q
  refine ⟨G, S, _, r, q, fun d S2 v H2 G2 p rv qq => ?_⟩
  obtain ⟨c, h1, h2⟩ := truV p.sub rv qq
  exact ⟨c, h1, k c S2 H2 p.flat h2⟩
theorem je_neg {x : Expr} {as : ME} (h : JL X C [x] as) : JE X C (.UnaryOp .USub x pos) (.op .neg as) := by
  obtain ⟨a, rfl, ha⟩ := h.one
  intro E tk
  refine PE.imp (pe_un un_neg (ha E tk)) fun σ H Qv q => ?_
  obtain ⟨G, S, Q, r, q, k⟩ := q
  refine ⟨G, S, _, r, q, fun d S2 v H2 G2 p rv qq => ?_⟩
  cases d with
  | int i =>
    cases rv
    exact ⟨i, rfl, k (.int (-i)) S2 _ H2 G2 (p.mono (by simp [vars]) (by simp [pops])) rfl qq⟩
  | _ => exact (qq : False).elim
theorem je_tup {es : List Expr} {n : Nat} {as : ME} (h : JL X C es as) : JE X C (.Tuple es n pos) (.op .tup as) := by
  intro E tk
  refine PE.imp (pe_tup (h.ja E tk)) fun σ H Qv q => ?_
  obtain ⟨G, S, Q, r, q, k⟩ := q
  refine ⟨G, S, _, r, q, fun ds S2 us H2 G2 p rv qq => ⟨by rw [← rv.len, lim_eq]; exact Nat.le_trans qq.1 (by decide), fun b hb => ?_⟩⟩
  exact Kt.tup k p rv hb qq.2
theorem je_lst {es : List Expr} {as : ME} (h : JL X C es as) : JE X C (.List es pos) (.op .lst as) := by
  intro E tk
  refine PE.imp (pe_lst (h.ja E tk)) fun σ H Qv q => ?_
  obtain ⟨G, S, Q, r, q, k⟩ := q
  refine ⟨G, S, _, r, q, fun ds S2 us H2 G2 p rv qq => ⟨by rw [← rv.len, lim_eq]; exact Nat.le_trans qq.1 (by decide), fun b hb => ?_⟩⟩
  exact Kt.lst k p rv hb qq.2
theorem je_idx {x y : Expr} {as : ME} (hu : X.A.units + 65 < cLine) (hs : noSl y = true) (h : JL X C [x, y] as) : JE X C (.Subscript x y pos) (.op .idx as) := by
  obtain ⟨a, b, rfl, ha, hb, hd⟩ := h.two
  intro E tk
  exact PE.imp (pe_ix (opIx X) (ha E tk) (hb E tk) (ix_of hs)) fun σ H Qv q => rd_op2 (x := x) (y := y) (o := .idx) hd (fun k p r1 r2 q => idx_ok hu k p r1 r2 q) q
theorem fld_rep {K : PySem.W.Frag} {G : Hp} (f : Str) : ∀ {fs : List Str} {ds : List D} {flds : List (Str × V)} {d : D}, fldAt f fs ds = some d → flds.map (·.1) = fs → Reps K G ds (flds.map (·.2)) → f ∈ fs ∧ ∃ v, flds.lookup f = some v ∧ Rep K G d v
  | fs, ds, [], d, h, e, r => by
    subst e
    cases h
  | fs, ds, (x, y) :: rest, d, h, e, r => by
    subst e
    cases ds with
    | nil => cases r
    | cons z ds =>
      obtain ⟨v, us, e2, r1, r2⟩ := r
      simp only [List.map_cons, List.cons.injEq] at e2
      obtain ⟨e3, e4⟩ := e2
      subst e3 e4
      by_cases q : f = x
      · subst q
        have e5 : d = z := by
          have : fldAt f (f :: rest.map (·.1)) (z :: ds) = some z := if_pos rfl
          rw [show ((f, y) :: rest).map (·.1) = f :: rest.map (·.1) from rfl, this] at h
          exact (Option.some.inj h).symm
        subst e5
        exact ⟨List.mem_cons_self, y, by simp [List.lookup], r1⟩
      · have e5 : fldAt f (rest.map (·.1)) ds = some d := by
          have : fldAt f (x :: rest.map (·.1)) (z :: ds) = fldAt f (rest.map (·.1)) ds := if_neg q
          rw [← this]
          exact h
        obtain ⟨h1, v, h2, h3⟩ := fld_rep f e5 rfl r2
        refine ⟨List.mem_cons_of_mem _ h1, v, ?_, h3⟩
        have : (f == x) = false := beq_eq_false_iff_ne.mpr q
        simp only [List.lookup, this]
        exact h2
theorem je_fld {x : Expr} {f : Str} {as : ME} (ko : KOk X.K X.mg) (hp : plainO x = true) (h : JL X C [x] as) : JE X C (.Attribute x f pos) (.op (.fld f) as) := by
  obtain ⟨a, rfl, ha⟩ := h.one
  intro E tk
  refine PE.imp (pe_fld (ha E tk) (whole_of hp)) fun σ H Qv q => ?_
  obtain ⟨G, S, Q, r, q, k⟩ := q
  refine ⟨G, S, _, r, q, fun d S2 v H2 G2 p rv qq => ?_⟩
  cases d with
  | ins c fs ds =>
    obtain ⟨b, dx, flds, rfl, h1, h2, h3, h4, h5⟩ := rv
    obtain ⟨z, e1, e2⟩ := (qq : ∃ d, fldAt f fs ds = some d ∧ Q d S2)
    obtain ⟨m, v, e3, e4⟩ := fld_rep f e1 h3 h5
    exact ⟨b, _, dx, flds, v, rfl, p.sub _ _ h1, (ko.cls c h4.1).cls, h4.2 f m, e3, k z S2 v H2 G2 (p.mono (by simp [vars]) (by simp [pops])) e4 e2⟩
  | _ => exact (qq : False).elim
end
end Mi
set_option maxHeartbeats 1000000
namespace Mi
open PySem PySem.Spec L2
open PyProof.Rows hiding St
theorem and_of {a b : Bool} (h : (a && b) = true) : a = true ∧ b = true := by simpa using h
section
variable {K : PySem.W.Frag} {C : IC} {G H H1 H2 G1 G2 : Hp} {σ : L2.St} {S S1 S2 : List Sl} {vs ws pp qq : List Nat}
/-- a slot's thing is read -/
theorem Rel.read (r : Rel K C G H σ S) {i : Nat} {d : D} (h : getS S i = some d) (hi : i ∈ vs) : ∃ v G2, σ[i]? = some (some v) ∧ Post K C G H H σ S S vs pp G2 ∧ Rep K G2 d v := by
  have go : ∀ (s : Sl) (p : Addr), S[i]? = some s → isOwn s = true → σ[i]? = some (some (.ref p)) → G p = none → ∀ o, H p = some o → Post K C G H H σ S S vs pp (upd G p o) := fun s p h1 h2 e g o ho => by
    refine ⟨r, r, fun a u z => ?_, same_upd g, fun a u z => ?_, fun a u z _ _ => z, rfl⟩
    · by_cases ea : a = p
      · subst ea; rw [upd_same] at z; cases z; exact ho
      · rw [upd_ne ea] at z; exact r.sub a u z
    · by_cases ea : a = p
      · subst ea; exact .inr (.inr ⟨i, hi, ⟨s, h1, h2⟩, e⟩)
      · rw [upd_ne ea] at z; exact .inl z
  unfold getS at h
  cases q : S[i]? with
  | none => rw [q] at h; cases h
  | some s =>
    rw [q] at h
    have z := r.sl i s q
    cases s <;> simp only [Option.some.injEq, reduceCtorEq] at h
    · subst h
      obtain ⟨v, e, z⟩ := z
      exact ⟨v, G, e, Post.same r, z⟩
    · subst h
      rename_i d
      obtain ⟨p, e, g1, g2, z⟩ := z
      cases d with
      | lst ds =>
        obtain ⟨us, z1, z2⟩ := z
        exact ⟨_, _, e, go _ p q rfl e g1 _ z1, p, us, rfl, upd_same, z2.up (same_upd g1)⟩
      | dct ks ws =>
        obtain ⟨us, z1, z2, z3⟩ := z
        exact ⟨_, _, e, go _ p q rfl e g1 _ z1, p, us, rfl, .inl upd_same, z2, z3.up (same_upd g1)⟩
      | _ => exact z.elim
    · subst h
      rename_i p d
      obtain ⟨e, g1, g2, z⟩ := z
      cases d with
      | lst ds =>
        obtain ⟨us, z1, z2⟩ := z
        exact ⟨_, _, e, go _ p q rfl e g1 _ z1, p, us, rfl, upd_same, z2.up (same_upd g1)⟩
      | dct ks ws =>
        obtain ⟨o, us, z1, z2, z3⟩ := z
        exact ⟨_, _, e, go _ p q rfl e g1 _ z1, p, us, rfl, .inr ⟨o, upd_same⟩, z2, z3.up (same_upd g1)⟩
      | _ => exact z.elim
/-- behind a value that is dropped -/
theorem Post.then (p1 : Post K C G H H1 σ S S1 vs pp G1) (p2 : Post K C G H1 H2 σ S1 S2 ws qq G2) (h1 : ∀ i ∈ ws, i ∈ vs') (h2 : ∀ i ∈ pp ++ qq, i ∈ pp') : ∃ G3, Post K C G H H2 σ S S2 vs' pp' G3 ∧ Same G2 G3 := by
  have z := (p1.flat (ws := [])).trans p2 (by simp)
  exact ⟨_, z.mono (fun i hi => h1 i (by simpa using hi)) h2, joinG_right (p2.up.trans p2.sub) p2.sub⟩
/-- without pops the slots stay -/
theorem Post.stay (p : Post K C G H H2 σ S S2 vs [] G2) : Post K C G H H2 σ S S vs [] G2 := by
  refine ⟨p.r0, p.r0.heap (p.up.trans p.sub) (fun a o h n => p.rel.frm a o h n) (fun a h => p.rel.dom a h) (fun i b ow e o h => p.frm b o h (p.r0.hdis i b ow e) (fun j hj => by cases hj)) (fun i a c h => ?_), p.sub, p.up, p.src, p.frm, rfl⟩
  have e := knd_get p.knd i
  rw [h] at e
  cases q : S2[i]? with
  | none => rw [q] at e; cases e
  | some t =>
    rw [q] at e
    have e' : sk t = sk (.hn a c) := by simpa using e
    cases t <;> simp [sk] at e'
    obtain ⟨rfl, rfl⟩ := e'
    exact (p.rel.sl i _ q).2.1
end
section
variable {X : Cx} {C : IC} {s : SC} {fn : FSpec → Prop} {mk : CSpec → Prop} {gl : Str → D → Prop} {kc : Str → Prop} {pos pos' p apos : Pos}
theorem XG.glo (g : XG fn mk gl kc X s) {x : Str} (h : glB s x = true) : Gl X x ∧ (x == ("__debug__" : Str)) = false ∧ x ≠ "__name__" := by
  unfold glB at h
  have h1 := and_of h
  have h2 := and_of h1.2
  refine ⟨?_, by simpa using h2.1, fun z => ?_⟩
  · show X.env.scope.names.lookup x = _
    rw [g.sc]
    exact of_decide_eq_true h1.1
  · have := h2.2
    rw [z] at this
    exact absurd this (by decide)
theorem XG.vis (g : XG fn mk gl kc X s) {i : Nat} {x : Str} (h : visB s i x = true) : X.N[i]? = some x ∧ Vis X.env.scope x ∧ (x == ("__debug__" : Str)) = false ∧ (x == ("__classdict__" : Str)) = false := by
  unfold visB at h
  have h1 := and_of h
  have h2 := and_of h1.2
  have h3 := and_of h2.2
  refine ⟨by rw [g.N]; exact of_decide_eq_true h1.1, ?_, by simpa using h3.1, by simpa using h3.2⟩
  rw [g.sc]
  have z := h2.1
  cases q : s.sc.names.lookup x with
  | none => rw [q] at z; cases z
  | some k =>
    rw [q] at z
    unfold Vis
    cases k <;> first | exact .inl q | exact .inr (.inl q) | exact .inr (.inr q) | cases z
theorem je_var (g : XG fn mk gl kc X s) {i : Nat} {x : Str} (h : visB s i x = true) : JE X C (.Name x pos) (.var i) := by
  obtain ⟨h1, h2, h3, h4⟩ := g.vis h
  intro E tk
  refine PE.imp (pe_var h1 h2 h3 h4) fun σ H Qv q => ?_
  obtain ⟨G, S, Q, r, ⟨d, e, q⟩, k⟩ := q
  obtain ⟨v, G2, e1, p, rv⟩ := r.read (vs := [i]) (pp := []) e (by simp)
  exact ⟨v, e1, k d S v H G2 p rv q⟩
theorem je_c {e : Expr} {m : ME} {d : D} {v : V} (h : PE X e (tC v)) (hw : (W m).v = fun S Q _ => Q d S) (hr : ∀ G, Rep X.K G d v) : JE X C e m := by
  intro E tk
  refine PE.imp h fun σ H Qv q => ?_
  obtain ⟨G, S, Q, r, q, k⟩ := q
  rw [hw] at q
  exact k d S v H G (Post.same r) (hr G) q
theorem je_con {c : Const} {j : Nat} {d : D} (h : conB c d = true) : JE X C (.Constant c j pos) (.con d) := by
  cases c <;> cases d <;> simp [conB] at h
  · exact je_c pe_non rfl fun _ => rfl
  · subst h; exact je_c pe_bl rfl fun _ => rfl
  · subst h; exact je_c pe_int rfl fun _ => rfl
  · subst h; exact je_c pe_str rfl fun _ => rfl
theorem je_glo (g : XG fn mk gl kc X s) {x : Str} {d : D} (h : glB s x = true) (hu : gl x d) : JE X C (.Name x pos) (.glo x d) := by
  obtain ⟨h1, h2, h3⟩ := g.glo h
  obtain ⟨u, v, e1, e2, e3⟩ := g.gls x d hu
  exact je_c (pe_glob h1 e1 e2 h2) rfl e3
theorem bootB (b : Blt) : bootBuiltins (bltName b) = some (bltVal b) := by cases b <;> decide +kernel
theorem pe_callAny {r : List V → Hp → VK → Prop} {b : Blt} {x : Str} {e : Expr} {es : List Expr} {t : TA} (hc : CallR X (bltVal b) r) (hx : bltName b = x) (g : XG fn mk gl kc X s) (hg : glB s x = true) (ha : PA X (e :: es) t)
    (he : starEach (e :: es) X.env = (false, eval e X.env) :: starEach es X.env) (hpl : (backTo pos (starEach es X.env)).any (·.1) = false) : PE X (.Call (.Name x p) (e :: es) [] pos) (tCB r t) := by
  obtain ⟨h1, h2, h3⟩ := g.glo hg
  subst hx
  have hm : X.mg (bltName b) = none := g.ko.blt _ (by cases b <;> decide)
  have hv := bootB b
  cases b <;> first | exact pe_callB hc h1 hm hv ha h3 h2 he hpl | exact pe_callTy hc h1 hm hv ha h3 h2 he hpl
theorem je_blt (g : XG fn mk gl kc X s) {b : Blt} {x : Str} {es : List Expr} {as : ME} (hx : bltName b = x) (hg : glB s x = true) (hn : es ≠ []) (h : JL X C es as) : JE X C (.Call (.Name x p) es [] pos) (.op (.blt b) as) := by
  cases es with
  | nil => exact absurd rfl hn
  | cons e es =>
    obtain ⟨a, r, e1, hs, h1, h2, h3⟩ := h.tail
    intro E tk
    refine PE.imp (pe_callAny (opCall X _) hx g hg (h.ja E tk) (star_of hs) (h3.back pos X.env)) fun σ H Qv q => ?_
    obtain ⟨G, S, Q, r, q, k⟩ := q
    exact ⟨G, S, _, r, q, fun ds S2 us H2 G2 p rv qq => blt_ok g.calm k p rv qq⟩
theorem je_and1 {x y : Expr} {rest : List Expr} {a b : ME} (ha : JE X C x a) (hb : JE X C (.BoolOp .And (y :: rest) pos) b) : JE X C (.BoolOp .And (x :: y :: rest) pos) (.and a b) := by
  intro E tk
  refine PE.imp (pe_andT (ha E tk) (hb E tk)) fun σ H Qv q => ?_
  obtain ⟨G, S, Q, r, q, k⟩ := q
  refine ⟨G, S, _, r, q, fun d S2 v H2 G2 p rv qq => ?_⟩
  obtain ⟨c, h1, h2⟩ := truV p.sub rv qq
  refine ⟨c, h1, ?_⟩
  cases c with
  | true =>
    refine ⟨G, S2, Q, p.rel, h2, fun d' S3 v' H3 G3 p' rv' q' => ?_⟩
    obtain ⟨G4, p4, u4⟩ := p.then p' (vs' := vars (.and a b)) (pp' := pops (.and a b)) (fun i hi => List.mem_append_right _ hi) (fun i hi => hi)
    exact k d' S3 v' H3 G4 p4 (rv'.up u4) q'
  | false => exact k d S2 v H2 G2 (p.mono (fun i hi => List.mem_append_left _ hi) (fun i hi => List.mem_append_left _ hi)) rv h2
theorem je_or1 {x y : Expr} {rest : List Expr} {a b : ME} (ha : JE X C x a) (hb : JE X C (.BoolOp .Or (y :: rest) pos) b) : JE X C (.BoolOp .Or (x :: y :: rest) pos) (.or a b) := by
  intro E tk
  refine PE.imp (pe_orT (ha E tk) (hb E tk)) fun σ H Qv q => ?_
  obtain ⟨G, S, Q, r, q, k⟩ := q
  refine ⟨G, S, _, r, q, fun d S2 v H2 G2 p rv qq => ?_⟩
  obtain ⟨c, h1, h2⟩ := truV p.sub rv qq
  refine ⟨c, h1, ?_⟩
  cases c with
  | false =>
    refine ⟨G, S2, Q, p.rel, h2, fun d' S3 v' H3 G3 p' rv' q' => ?_⟩
    obtain ⟨G4, p4, u4⟩ := p.then p' (vs' := vars (.or a b)) (pp' := pops (.or a b)) (fun i hi => List.mem_append_right _ hi) (fun i hi => hi)
    exact k d' S3 v' H3 G4 p4 (rv'.up u4) q'
  | true => exact k d S2 v H2 G2 (p.mono (fun i hi => List.mem_append_left _ hi) (fun i hi => List.mem_append_left _ hi)) rv h2
theorem je_single {op : BoolOp} {x : Expr} {a : ME} (ha : JE X C x a) : JE X C (.BoolOp op [x] pos) a := fun E tk => pe_one (ha E tk)
theorem pw_of_pt {op : BoolOp} {es : List Expr} {t : TT} (h : PT X (.BoolOp op es pos) t) : PW X (.BoolOp op es pos) t := ⟨fun wh pins s σ H Q I hw => by
  have z := h.run pins s σ H Q I hw
  cases op <;> (unfold PySem.isTrue at z ⊢; exact z)⟩
theorem jt_and1 {x y : Expr} {rest : List Expr} {a b : ME} (ha : JT X C x a) (hb : JT X C (.BoolOp .And (y :: rest) pos) b) : JT X C (.BoolOp .And (x :: y :: rest) pos) (.and a b) := by
  intro E tk
  refine PT.imp (pw_and (ha E tk) (pw_of_pt (hb E tk))).pt fun σ H Qv q => ?_
  obtain ⟨G, S, Q, r, q, k⟩ := q
  refine ⟨G, S, _, r, q, fun c S2 H2 p qq => ?_⟩
  cases c with
  | true =>
    refine ⟨G, S2, Q, p.rel, qq, fun c' S3 H3 p' q' => ?_⟩
    obtain ⟨G4, p4, u4⟩ := p.then p' (vs' := vars (.and a b)) (pp' := pops (.and a b)) (fun i hi => List.mem_append_right _ hi) (fun i hi => hi)
    exact k c' S3 H3 p4.flat q'
  | false => exact k false S2 H2 ((p.flat (ws := vars (.and a b))).mono (fun i hi => hi) (fun i hi => List.mem_append_left _ hi)) qq
theorem jt_or1 {x y : Expr} {rest : List Expr} {a b : ME} (ha : JT X C x a) (hb : JT X C (.BoolOp .Or (y :: rest) pos) b) : JT X C (.BoolOp .Or (x :: y :: rest) pos) (.or a b) := by
  intro E tk
  refine PT.imp (pw_or (ha E tk) (pw_of_pt (hb E tk))).pt fun σ H Qv q => ?_
  obtain ⟨G, S, Q, r, q, k⟩ := q
  refine ⟨G, S, _, r, q, fun c S2 H2 p qq => ?_⟩
  cases c with
  | false =>
    refine ⟨G, S2, Q, p.rel, qq, fun c' S3 H3 p' q' => ?_⟩
    obtain ⟨G4, p4, u4⟩ := p.then p' (vs' := vars (.or a b)) (pp' := pops (.or a b)) (fun i hi => List.mem_append_right _ hi) (fun i hi => hi)
    exact k c' S3 H3 p4.flat q'
  | true => exact k true S2 H2 ((p.flat (ws := vars (.or a b))).mono (fun i hi => hi) (fun i hi => List.mem_append_left _ hi)) qq
theorem jt_single_and {x : Expr} {a : ME} (ha : JT X C x a) : JT X C (.BoolOp .And [x] pos) a := fun E tk => (pw_and1 (ha E tk)).pt
theorem jt_single_or {x : Expr} {a : ME} (ha : JT X C x a) : JT X C (.BoolOp .Or [x] pos) a := fun E tk => (pw_or1 (ha E tk)).pt
theorem je_not {x : Expr} {a : ME} (ha : JE X C x a) : JE X C (.UnaryOp .Not x pos) (.not a) := by
  intro E tk
  refine PE.imp (pe_notT (ha E tk)) fun σ H Qv q => ?_
  obtain ⟨G, S, Q, r, q, k⟩ := q
  refine ⟨G, S, _, r, q, fun d S2 v H2 G2 p rv qq => ?_⟩
  obtain ⟨c, h1, h2⟩ := truV p.sub rv qq
  exact ⟨c, h1, k (.bl (!c)) S2 _ H2 G p.flat rfl h2⟩
theorem jt_not {x : Expr} {a : ME} (ha : JT X C x a) : JT X C (.UnaryOp .Not x pos) (.not a) := by
  intro E tk
  refine PT.imp (pt_not (ha E tk)) fun σ H Qv q => ?_
  obtain ⟨G, S, Q, r, q, k⟩ := q
  exact ⟨G, S, _, r, q, fun c S2 H2 p qq => k (!c) S2 H2 p qq⟩
theorem je_ife {x y z : Expr} {c a b : ME} (hc : JT X C x c) (ha : JE X C y a) (hb : JE X C z b) : JE X C (.IfExp x y z pos) (.ife c a b) := by
  intro E tk
  refine PE.imp (pe_ifExp (hc E tk) (ha E tk) (hb E tk)) fun σ H Qv q => ?_
  obtain ⟨G, S, Q, r, q, k⟩ := q
  refine ⟨G, S, _, r, q, fun t S2 H2 p qq => ?_⟩
  cases t with
  | true =>
    refine ⟨G, S2, Q, p.rel, qq, fun d' S3 v' H3 G3 p' rv' q' => ?_⟩
    obtain ⟨G4, p4, u4⟩ := p.then p' (vs' := vars (.ife c a b)) (pp' := pops (.ife c a b)) (fun i hi => List.mem_append_right _ (List.mem_append_left _ hi)) (fun i hi => by simp [pops] at hi ⊢; exact hi.elim .inl (fun z => .inr (.inl z)))
    exact k d' S3 v' H3 G4 p4 (rv'.up u4) q'
  | false =>
    refine ⟨G, S2, Q, p.rel, qq, fun d' S3 v' H3 G3 p' rv' q' => ?_⟩
    obtain ⟨G4, p4, u4⟩ := p.then p' (vs' := vars (.ife c a b)) (pp' := pops (.ife c a b)) (fun i hi => List.mem_append_right _ (List.mem_append_right _ hi)) (fun i hi => by simp [pops] at hi ⊢; exact hi.elim .inl (fun z => .inr (.inr z)))
    exact k d' S3 v' H3 G4 p4 (rv'.up u4) q'
theorem je_chn_core {x y z : Expr} {o1 o2 : CmpOp} {a b c' : ME} (h1 : ∀ i ∈ pops b, i ∉ vars a) (h2 : ∀ i ∈ pops c', i ∉ vars b) (hu : X.A.units + 65 < cLine) {E : XS} {σ : L2.St} {H : Hp} {Qv : VK}
    (q : rdE X.K C (W (.chn o1 o2 a b c')).v (vars (.chn o1 o2 a b c')) (pops (.chn o1 o2 a b c')) E σ H Qv) :
    tChain (rBin X (compareOp o1)) (rBin X (compareOp o2)) (rdE X.K C (W a).v (vars a) (pops a) E) (rdE X.K C (W b).v (vars b) (pops b) E) (rdE X.K C (W c').v (vars c') (pops c') E) σ H Qv := by
  obtain ⟨G, S, Q, r, q, k⟩ := q
  refine ⟨G, S, _, r, q, fun d1 S1 v1 H1 G1 p1 r1 q1 => ?_⟩
  refine ⟨G, S1, _, p1.rel, q1, fun d2 S2 v2 H2 G2 p2 r2 q2 => ?_⟩
  have k1 := p1.keep1 p2 h1
  have p12 := p1.trans p2 h1
  refine cmp_okH hu p12.sub (fun t qq => ?_) (r1.up joinG_left) (r2.up (joinG_right k1 p2.sub)) q2
  obtain ⟨t', e, qq⟩ := qq
  cases e
  refine ⟨t, rfl, ?_⟩
  cases t with
  | false => exact k (.bl false) S2 _ H2 G (p12.flatm (fun i hi => by simp [pops] at hi ⊢; exact hi.elim .inl (fun z => .inr (.inl z)))) rfl qq
  | true =>
    refine ⟨G, S2, _, p2.rel, qq, fun d3 S3 v3 H3 G3 p3 r3 q3 => ?_⟩
    have p23 := p2.trans p3 h2
    have k2 := p2.keep1 p3 h2
    refine cmp_okH hu p23.sub (fun c qc => ?_) (r2.up joinG_left) (r3.up (joinG_right k2 p3.sub)) q3
    have pa := ((p1.flat (ws := [])).trans p23 (by simp)).flatm (ws := vars (.chn o1 o2 a b c')) (qq := pops (.chn o1 o2 a b c')) (fun i hi => by simpa [pops] using hi)
    exact k (.bl c) S3 _ H3 G pa rfl qc
theorem je_chn {x y z : Expr} {o1 o2 : CmpOp} {a b c : ME} (hu : X.A.units + 65 < cLine) (hm : lastMarks [o1, o2] [y, z] = false) (h1 : ∀ i ∈ pops b, i ∉ vars a) (h2 : ∀ i ∈ pops c, i ∉ vars b) (ha : JE X C x a) (hb : JE X C y b) (hc : JE X C z c) : JE X C (.Compare x [o1, o2] [y, z] pos) (.chn o1 o2 a b c) := fun E tk =>
  PE.imp (pe_chain (opBin X _) (opBin X _) (ha E tk) (hb E tk) (hc E tk) hm) fun σ H Qv q => je_chn_core (x := x) (y := y) (z := z) h1 h2 hu q
theorem chn_bl {o1 o2 : CmpOp} {a b c : ME} : (W (.chn o1 o2 a b c)).t = fun S Q E => (W (.chn o1 o2 a b c)).v S (fun d S1 => truW d fun k => Q k S1) E := rfl
theorem jt_chn {x y z : Expr} {o1 o2 : CmpOp} {a b c' : ME} (hu : X.A.units + 65 < cLine) (hm : lastMarks [o1, o2] [y, z] = false) (h1 : ∀ i ∈ pops b, i ∉ vars a) (h2 : ∀ i ∈ pops c', i ∉ vars b) (ha : JE X C x a) (hb : JE X C y b) (hc : JE X C z c') : JT X C (.Compare x [o1, o2] [y, z] pos) (.chn o1 o2 a b c') := by
  intro E tk
  refine PT.imp (pt_chain (opBin X _) (opBin X _) (ha E tk) (hb E tk) (hc E tk) hm) fun σ H Qv q => ?_
  obtain ⟨G, S, Q, r, q, k⟩ := q
  refine ⟨G, S, _, r, q, fun d1 S1 v1 H1 G1 p1 r1 q1 => ?_⟩
  refine ⟨G, S1, _, p1.rel, q1, fun d2 S2 v2 H2 G2 p2 r2 q2 => ?_⟩
  have k1 := p1.keep1 p2 h1
  have p12 := p1.trans p2 h1
  refine cmp_okH hu p12.sub (fun t qq => ?_) (r1.up joinG_left) (r2.up (joinG_right k1 p2.sub)) q2
  obtain ⟨t', e, qq⟩ := qq
  cases e
  refine ⟨t, rfl, ?_⟩
  cases t with
  | false => exact ⟨false, rfl, k false S2 H2 (p12.flatm (fun i hi => by simp [pops] at hi ⊢; exact hi.elim .inl (fun z => .inr (.inl z)))) qq⟩
  | true =>
    refine ⟨G, S2, _, p2.rel, qq, fun d3 S3 v3 H3 G3 p3 r3 q3 => ?_⟩
    have p23 := p2.trans p3 h2
    have k2 := p2.keep1 p3 h2
    refine cmp_okH hu p23.sub (fun c qc => ?_) (r2.up joinG_left) (r3.up (joinG_right k2 p3.sub)) q3
    have pa := ((p1.flat (ws := [])).trans p23 (by simp)).flatm (ws := vars (.chn o1 o2 a b c')) (qq := pops (.chn o1 o2 a b c')) (fun i hi => by simpa [pops] using hi)
    exact ⟨c, rfl, k c S3 H3 pa qc⟩
def tyV1 (K : PySem.W.Frag) : Ty → V
  | .bt n => .ty n
  | .own c => .ref (He.ga K c)
def tyU1 (K : PySem.W.Frag) : Ty → Value
  | .bt n => .type n
  | .own c => .ref (He.ga K c)
theorem tyVU {K : PySem.W.Frag} (t : Ty) : ClsV (tyV1 K t) (tyU1 K t) := by
  cases t
  · exact .ty _
  · exact .own _
theorem tyRel {K : PySem.W.Frag} (t : Ty) : RelV (tyV1 K t) (tyU1 K t) := by cases t <;> exact rfl
theorem tyName_boot {x : Str} {n : String} (h : tyName x = some n) : bootBuiltins x = some (.type n) ∧ x ∈ bltNames ∧ n ∈ tyAsk := by
  unfold tyName at h
  split at h
  · cases h; rename_i e; subst e; exact ⟨by decide +kernel, by decide, by decide⟩
  split at h
  · cases h; rename_i e; subst e; exact ⟨by decide +kernel, by decide, by decide⟩
  split at h
  · cases h; rename_i e; subst e; exact ⟨by decide +kernel, by decide, by decide⟩
  split at h
  · cases h; rename_i e; subst e; exact ⟨by decide +kernel, by decide, by decide⟩
  split at h
  · cases h; rename_i e; subst e; exact ⟨by decide +kernel, by decide, by decide⟩
  split at h
  · cases h; rename_i e; subst e; exact ⟨by decide +kernel, by decide, by decide⟩
  · cases h
/-- what may be asked -/
def tyOk (K : PySem.W.Frag) : Ty → Prop
  | .bt n => n ∈ tyAsk
  | .own c => KC K c
theorem pe_ty (g : XG fn mk gl kc X s) {t : Ty} {e : Expr} (h : tyB s t e = true) (hk : ∀ c, t = .own c → KC X.K c) : PE X e (tC (tyV1 X.K t)) ∧ noSt e = true ∧ tyOk X.K t := by
  cases t with
  | bt n =>
    cases e <;> simp only [tyB, Bool.false_eq_true] at h
    rename_i x p
    obtain ⟨h1, h2⟩ := and_of h
    obtain ⟨g1, g2, g3⟩ := g.glo h1
    obtain ⟨b1, b2, b3⟩ := tyName_boot (of_decide_eq_true h2)
    exact ⟨pe_bltn g1 (g.ko.blt _ b2) b1 rfl g3 g2, rfl, b3⟩
  | own c =>
    cases e <;> simp only [tyB, Bool.false_eq_true] at h
    rename_i x p
    obtain ⟨h1, h2⟩ := and_of h
    obtain ⟨g1, g2, g3⟩ := g.glo h1
    have e : x = c := of_decide_eq_true h2
    subst e
    exact ⟨pe_glob g1 (g.ko.cls _ (hk _ rfl)).mgc rfl g2, rfl, hk _ rfl⟩
theorem TyX_of {K : PySem.W.Frag} {mg : Str → Option Value} (ko : KOk K mg) {G H : Hp} (sb : Same G H) {d : D} {v : V} (r : Rep K G d v) (h : d.tyd = true) : ∃ t, TyX K H v t ∧ ∀ ty, tyOk K ty → PySem.W.kitOne K t (tyU1 K ty) = some (d.isTy ty) := by
  have bt : ∀ {a : String}, a ∈ tyNames → (∀ n, n ∈ tyAsk → kitB a n = some (d.isTy (.bt n))) → (∀ c, d.isTy (.own c) = false) → ∀ ty, tyOk K ty → PySem.W.kitOne K (.type a) (tyU1 K ty) = some (d.isTy ty) := fun {a} h1 h2 h3 ty hty => by
    cases ty with
    | bt n => exact kit_ty (h2 n hty)
    | own c =>
      rw [h3]
      exact ko.kitT a h1 c hty
  cases d with
  | non => cases r; exact ⟨_, .base .non, bt (by decide) (by decide +kernel) fun _ => rfl⟩
  | bl b => cases r; exact ⟨_, .base (.bl _), bt (by decide) (fun n hn => by rw [show (D.bl b).isTy (.bt n) = (D.bl true).isTy (.bt n) from rfl]; revert n; decide +kernel) fun _ => rfl⟩
  | int i => cases r; exact ⟨_, .base (.int _), bt (by decide) (fun n hn => by rw [show (D.int i).isTy (.bt n) = (D.int 0).isTy (.bt n) from rfl]; revert n; decide +kernel) fun _ => rfl⟩
  | str x => cases r; exact ⟨_, .base (.str _), bt (by decide) (fun n hn => by rw [show (D.str x).isTy (.bt n) = (D.str ("" : Str)).isTy (.bt n) from rfl]; revert n; decide +kernel) fun _ => rfl⟩
  | tup ds =>
    obtain ⟨a, us, rfl, h1, h2⟩ := r
    have kk : ∀ ty, tyOk K ty → PySem.W.kitOne K (.type "tuple") (tyU1 K ty) = some ((D.tup ds).isTy ty) := bt (by decide) (fun n hn => by rw [show (D.tup ds).isTy (.bt n) = (D.tup []).isTy (.bt n) from rfl]; revert n; decide +kernel) fun _ => rfl
    rcases SqT.up sb h1 with (z | ⟨o, z⟩) | ⟨o, its, n, z, c, _⟩
    · exact ⟨_, .base (.tup z), kk⟩
    · exact ⟨_, .fTuple z, kk⟩
    · exact ⟨_, .kTuple z c, kk⟩
  | lst ds =>
    obtain ⟨a, us, rfl, h1, h2⟩ := r
    exact ⟨_, .base (.lst (sb _ _ h1)), bt (by decide) (fun n hn => by rw [show (D.lst ds).isTy (.bt n) = (D.lst []).isTy (.bt n) from rfl]; revert n; decide +kernel) fun _ => rfl⟩
  | dct ks ws =>
    obtain ⟨a, us, rfl, h1, h2, h3⟩ := r
    have kk : ∀ ty, tyOk K ty → PySem.W.kitOne K (.type "dict") (tyU1 K ty) = some ((D.dct ks ws).isTy ty) := bt (by decide) (fun n hn => by rw [show (D.dct ks ws).isTy (.bt n) = (D.dct [] []).isTy (.bt n) from rfl]; revert n; decide +kernel) fun _ => rfl
    rcases h1 with z | ⟨o, z⟩
    · exact ⟨_, .base (.dK (sb _ _ z)), kk⟩
    · exact ⟨_, .fDict (sb _ _ z), kk⟩
  | ins c fs ds =>
    obtain ⟨a, dx, fl, rfl, h1, h2, h3, h4, h5⟩ := r
    have cf := ko.cls c h4.1
    refine ⟨_, .base (.ins (sb _ _ h1) cf.cls cf.att cf.gd cf.tk cf.mro), fun ty hty => ?_⟩
    cases ty with
    | bt n => exact ko.kitC c h4.1 n hty
    | own x => exact ko.kitO c x h4.1 hty
  | set ds => cases h
  | rng lo hi => cases h
  | fn x => cases h
  | scr ns => cases h
theorem je_isi1 (g : XG fn mk gl kc X s) {f : Str} {x y : Expr} {t : Ty} {a : ME} (hf : f = ("isinstance" : Str)) (hg : glB s f = true) (hx : noSt x = true) (ha : JE X C x a) (hy : tyB s t y = true) (hk : ∀ c, t = .own c → KC X.K c) : JE X C (.Call (.Name f p) [x, y] [] pos) (.isi [t] a) := by
  subst hf
  obtain ⟨g1, g2, g3⟩ := g.glo hg
  obtain ⟨py, sy, oky⟩ := pe_ty g hy hk
  intro E tk
  have hs1 : ∀ env, starEach [y] env = [(false, eval y env)] := fun env => star_of (es := []) sy
  refine PE.imp (pe_callB call_isi g1 (g.ko.blt _ (by decide)) (by decide +kernel) (pa_cons (ha E tk) (pa_cons py pa_nil (hs1 _)) (star_of hx)) g3 g2 (star_of hx) (by rw [hs1]; rfl)) fun σ H Qv q => ?_
  obtain ⟨G, S, Q, r, q, k⟩ := q
  refine ⟨G, S, _, r, q, fun d S2 v H2 G2 p rv qq => ?_⟩
  obtain ⟨t', h1, h2⟩ := TyX_of g.ko p.sub rv qq.1
  refine ⟨v, _, t', _, _, rfl, tyVU t, h1, h2 t oky, ?_⟩
  refine k (.bl _) S2 _ H2 G (p.flatm fun i hi => hi) rfl ?_
  simpa using qq.2
theorem pa_tys (g : XG fn mk gl kc X s) : ∀ {ts : List Ty} {es : List Expr}, tysB s ts es = true → (∀ c, Ty.own c ∈ ts → KC X.K c) → PA X es (fun _ H Q => Q (ts.map (tyV1 X.K)) H) ∧ (∀ t ∈ ts, tyOk X.K t) ∧ es.length = ts.length
  | [], [], _, _ => ⟨pa_nil, fun t h => (by cases h), rfl⟩
  | t :: ts, e :: es, h, hk => by
    obtain ⟨h1, h2⟩ := and_of h
    obtain ⟨p1, s1, o1⟩ := pe_ty g h1 fun c e => hk c (by rw [← e]; exact List.mem_cons_self)
    obtain ⟨p2, o2, l2⟩ := pa_tys g h2 fun c hc => hk c (List.mem_cons_of_mem _ hc)
    refine ⟨PA.imp (pa_cons p1 p2 (star_of s1)) fun σ H Q q => q, fun t ht => ?_, by simp [l2]⟩
    rcases List.mem_cons.mp ht with z | z
    · rw [z]; exact o1
    · exact o2 t z
  | [], _ :: _, h, _ => by cases h
  | _ :: _, [], h, _ => by cases h
theorem kitAny_of {K : PySem.W.Frag} {d : D} {t : Value} : ∀ {ts : List Ty}, (∀ ty ∈ ts, PySem.W.kitOne K t (tyU1 K ty) = some (d.isTy ty)) → PySem.W.kitAny K t (ts.map (tyU1 K)) = some (ts.any fun ty => d.isTy ty)
  | [], _ => kitAny_nil
  | ty :: ts, h => by
    refine kitAny_cons (h ty List.mem_cons_self) (fun e => ?_) (fun e => ?_)
    · rw [List.any_cons, e]
      exact kitAny_of fun z hz => h z (List.mem_cons_of_mem _ hz)
    · rw [List.any_cons, e]
      rfl
theorem paired_tys {K : PySem.W.Frag} : ∀ (ts : List Ty), Paired ClsV (ts.map (tyV1 K)) (ts.map (tyU1 K))
  | [] => .nil
  | t :: ts => .cons (tyVU t) (paired_tys ts)
theorem je_isiT (g : XG fn mk gl kc X s) {f : Str} {x : Expr} {es : List Expr} {n : Nat} {ts : List Ty} {a : ME} (hf : f = ("isinstance" : Str)) (hg : glB s f = true) (hx : noSt x = true) (ha : JE X C x a) (hy : tysB s ts es = true) (hl : es.length ≤ 9) (hk : ∀ c, Ty.own c ∈ ts → KC X.K c) : JE X C (.Call (.Name f p) [x, .Tuple es n pos'] [] pos) (.isi ts a) := by
  subst hf
  obtain ⟨g1, g2, g3⟩ := g.glo hg
  obtain ⟨py, oky, ly⟩ := pa_tys g hy hk
  intro E tk
  refine PE.imp (pe_callB call_isiT g1 (g.ko.blt _ (by decide)) (by decide +kernel) (pa_cons (ha E tk) (pa_cons (pe_tup (x1 := n) (pos := pos') py) pa_nil) (star_of hx)) g3 g2 (star_of hx)) fun σ H Qv q => ?_
  obtain ⟨G, S, Q, r, q, k⟩ := q
  refine ⟨G, S, _, r, q, fun d S2 v H2 G2 p rv qq => ?_⟩
  refine ⟨by rw [List.length_map, ← ly, lim_eq]; exact Nat.le_trans hl (by decide), fun b hb => ?_⟩
  have p' := p.apart (o := .tup (ts.map (tyV1 X.K))) hb
  obtain ⟨t', h1, h2⟩ := TyX_of g.ko p'.sub rv qq.1
  refine ⟨v, b, _, t', _, _, rfl, upd_same, paired_tys ts, h1, kitAny_of fun ty hty => h2 ty (oky ty hty), ?_⟩
  exact k (.bl _) S2 _ _ G (p'.flatm fun i hi => hi) rfl qq.2
end
end Mi
set_option maxHeartbeats 1000000
namespace Mi
open PySem PySem.Spec L2
open PyProof.Rows hiding St
section
variable {K : PySem.W.Frag} {C : IC} {G H H1 H2 H3 H4 G1 G2 G4 : Hp} {σ : L2.St} {S S1 S2 : List Sl} {vs ws pp qq : List Nat}
/-- behind an exception -/
theorem Post.exc (p : Post K C G H H2 σ S S2 vs pp G2) {cls : Value} {dd : Option Addr} {x : Xc} (rx : XRep K G2 H2 cls dd x) : ∃ G3, Rel K C G3 H2 σ S2 ∧ XRep K G3 H2 cls dd x := by
  obtain ⟨e1, hx, alt⟩ := rx
  rcases alt with ⟨z1, z2, z3⟩ | ⟨d, flds, z1, z2, z3, z4⟩
  · exact ⟨G, p.rel, e1, hx, .inl ⟨z1, z2, z3⟩⟩
  · obtain ⟨G3, u, r3, rr⟩ := p.settle (k := true) z4 fun _ => hx
    exact ⟨G3, r3, e1, hx, .inr ⟨d, flds, z1, z2, z3, rr⟩⟩
theorem Post.liftX (p : Post K C G H H2 σ S S2 vs pp G2) {cls : Value} {dd : Option Addr} {x : Xc} {E : XS} (rx : XRep K G2 H2 cls dd x) (e : E x S2) : Mi.liftX K C E cls dd σ H2 := by
  obtain ⟨G3, r, rx'⟩ := p.exc rx
  exact ⟨G3, S2, x, r, rx', e⟩
/-- an object of a fresh place, of this heap, on which the value leans -/
theorem Post.add (p : Post K C G H H2 σ S S2 vs pp G2) {b : Addr} {o : HO} (h : H2 b = some o) (hn : H b = none) (g : G2 b = none) : Post K C G H H2 σ S S2 vs pp (upd G2 b o) := by
  refine ⟨p.r0, p.rel, fun a u z => ?_, p.up.trans (same_upd g), fun a u z => ?_, p.frm, p.knd⟩
  · by_cases e : a = b
    · subst e; rw [upd_same] at z; cases z; exact h
    · rw [upd_ne e] at z; exact p.sub a u z
  · by_cases e : a = b
    · subst e; exact .inr (.inl hn)
    · rw [upd_ne e] at z; exact p.src a u z
/-- behind an __init__ -/
theorem Post.init (p : Post K C G H H3 σ S S2 vs pp G2) {x : Addr} (hx : H x = none) (gx : G2 x = none) (cx : C.He x = none) (ox : ∀ (i : Nat), Own S2 i → σ[i]? ≠ some (some (.ref x))) (hhx : ¬ hs S2 x) (r : RetI K G2 H3 x G4 H4) : Post K C G H H4 σ S S2 vs pp G4 := by
  refine ⟨p.r0, p.rel.heap (p.up.trans (r.up.trans r.sub)) (fun a o h n => ?_) (fun a h => ?_) (fun i b ow e o h => r.frm b o h fun z => ox i ow (by rw [← z]; exact e)) fun i a c h => ?_, r.sub, p.up.trans r.up, fun a o h => ?_, fun a o h nh np => ?_, p.knd⟩
  · exact r.frm a o (p.rel.frm a o h n) fun z => by rw [z, cx] at h; cases h
  · by_cases z : a = x
    · rw [z] at h; exact absurd cx h
    · obtain ⟨u, hu⟩ := Option.ne_none_iff_exists'.mp (p.rel.dom a h)
      rw [r.frm a u hu z]; exact fun z => nomatch z
  · exact (p.rel.sl i _ h).2.1.up (fun o q => r.frm a o q fun z => hhx (by rw [← z]; exact ⟨i, c, h⟩)) (Same.refl _)
  · rcases r.new a o h with h | h
    · exact p.src a o h
    · exact .inr (.inl (p.free h))
  · exact r.frm a o (p.frm a o h nh np) fun z => by rw [z, hx] at h; cases h
end
section
variable {X : Cx} {C : IC} {s : SC} {fn : FSpec → Prop} {mk : CSpec → Prop} {gl : Str → D → Prop} {kc : Str → Prop} {pos pos' p apos p2 : Pos}
theorem je_call (g : XG fn mk gl kc X s) {sp : FSpec} {x : Str} {es : List Expr} {as : ME} (hs : fn sp) (hn : sp.name = x) (hc : sp.cls = ("" : Str)) (hh : sp.hd = false) (hg : glB s x = true) (hne : es ≠ []) (h : JL X C es as) : JE X C (.Call (.Name x p) es [] pos) (.call sp as) := by
  cases es with
  | nil => exact absurd rfl hne
  | cons e es =>
    subst hn
    obtain ⟨a, r, e1, hst, h1, h2, h3⟩ := h.tail
    obtain ⟨⟨⟨fd, ps, hb, F⟩, kp, glo, _⟩, rm⟩ := g.fns sp hs
    obtain ⟨g1, g2, g3⟩ := g.glo hg
    intro E tk
    refine PE.imp (pe_callS F rm g1 (glo hc) kp hb (fun σ => passAt tk σ) (h.ja E tk) g2 (star_of hst) (h3.back pos X.env)) fun σ H Qv q => ?_
    obtain ⟨G, S, Q, r, q, k⟩ := q
    refine ⟨G, S, _, r, q, fun ds S2 us H2 G2 p rv qq => ⟨G2, ds, us, none, fun d => Q d S2, fun x => E x S2, rfl, hh.symm, qq.1, p.sub, rv, fun a c z => (by cases z), qq.2, fun d v H3 G3 rt rd qd => k d S2 v H3 G3 (p.call (fun a c z => (by cases z)) rt) rd qd, fun x cls dd H3 G3 rt rx ex => (p.call (fun a c z => (by cases z)) rt).liftX rx ex⟩⟩
theorem je_callh (g : XG fn mk gl kc X s) {sp : FSpec} {i : Nat} {x y : Str} {es : List Expr} {as : ME} (hs : fn sp) (hn : sp.name = x) (hc : sp.cls = ("" : Str)) (hh : sp.hd = true) (hg : glB s x = true) (hv : visB s i y = true) (h : JL X C es as) : JE X C (.Call (.Name x p) (.Name y p2 :: es) [] pos) (.callh sp i as) := by
  subst hn
  obtain ⟨⟨⟨fd, ps, hb, F⟩, kp, glo, _⟩, rm⟩ := g.fns sp hs
  obtain ⟨g1, g2, g3⟩ := g.glo hg
  obtain ⟨v1, v2, v3, v4⟩ := g.vis hv
  intro E tk
  refine PE.imp (pe_callS F rm g1 (glo hc) kp hb (fun σ => passAt tk σ) (pa_cons (pe_var v1 v2 v3 v4) (h.ja E tk) rfl) g2 rfl (h.back pos X.env)) fun σ H Qv q => ?_
  obtain ⟨G, S, Q, r, q, k⟩ := q
  obtain ⟨⟨a, c, hS⟩, q⟩ := (q : (∃ a c, S[i]? = some (.hn a c)) ∧ _)
  obtain ⟨e1, e2, e3, e4⟩ := r.sl i _ hS
  refine ⟨_, e1, G, S, _, r, q, fun ds S2 us H2 G2 p rv qq => ?_⟩
  have e := knd_get p.knd i
  rw [hS] at e
  have hS2 : S2[i]? = some (.hn a c) := by
    cases q : S2[i]? with
    | none => rw [q] at e; cases e
    | some t =>
      rw [q] at e
      have e' : sk t = sk (.hn a c) := by simpa using e
      cases t <;> simp [sk] at e'
      obtain ⟨rfl, rfl⟩ := e'
      rfl
  have hh2 : ∀ a' c', some (a, c) = some (a', c') → ∃ (i : Nat), S2[i]? = some (Sl.hn a' c') := fun a' c' z => by cases z; exact ⟨i, hS2⟩
  refine ⟨G2, ds, us, some (a, c), fun d => Q d S2, fun x => E x S2, rfl, hh.symm, qq.1, p.sub, rv, fun a' c' z => ?_, qq.2, fun d v H3 G3 rt rd qd => k d S2 v H3 G3 (p.call hh2 rt) rd qd, fun x cls dd H3 G3 rt rx ex => (p.call hh2 rt).liftX rx ex⟩
  cases z
  obtain ⟨_, f2, _, _⟩ := p.rel.sl i _ hS2
  exact ⟨f2.up (fun o z => z) p.up, p.hav a ⟨i, c, hS2⟩⟩
def tMethS (CC : Addr) (m : Str) (sp : Sp) (E : L2.St → XK) (ta : TE) (t : TA) : TE := fun σ H Q => ta σ H fun x H1 => ∃ a dx fs, x = .ref a ∧ H1 a = some (.ins CC dx fs) ∧ fs.lookup m = none ∧
  t σ H1 fun vs H2 => sp (x :: vs) H2 Q (E σ)
theorem ev_meth {o : Expr} {m : Str} {es : List Expr} {env : Env} (hp : plainO o = true) (hl : (apos.endLine == pos.line) = true) (hf : methodCallForm (es.length + ([] : List Keyword).length) (backTo pos (starEach es env)) (backToKw pos (keywordEach [] env)) = true) : eval (.Call (.Attribute o m apos) es [] pos) env = (do
      let ov ← eval o env
      standAt apos.atName
      let (f, first) ← holding [ov] (getMethod ov m (plainOf o env))
      callWith pos f first (backTo pos (starEach es env)) (backToKw pos (keywordEach [] env))) := by
  rw [arm_eval_Call, whole_of hp]
  congr 1
  funext ov
  congr 1
  funext _
  exact mcall_line hf hl
theorem form_of {es : List Expr} {env : Env} (h : (starEach es env).any (·.1) = false) (hl : es.length < 20) : methodCallForm (es.length + ([] : List Keyword).length) (backTo pos (starEach es env)) (backToKw pos (keywordEach [] env)) = true := by
  have e : (backTo pos (starEach es env)).all (fun x => !x.1) = true := by
    unfold backTo
    rw [List.all_map, List.all_eq_not_any_not]
    simp only [Function.comp_def, Bool.not_not]
    exact congrArg (!·) h
  unfold methodCallForm
  rw [e]
  show (true && true && decide (_ < 30)) = true
  have : es.length + ([] : List Keyword).length + (if (backToKw pos (keywordEach [] env)).isEmpty then 0 else 1) < 30 := by
    show es.length + 0 + 0 < 30
    omega
  exact decide_eq_true this
theorem pe_methS {CX : CXT} {k : Nat} {f CC : Addr} {fd : FuncData} {ps : List Str} {sp : Sp} {E : L2.St → XK} {m : Str} {o e : Expr} {es : List Expr} {ta : TE} {t : TA} (he : PE X o ta) (c : Cls X.K CC) (hm : Meth X.K CC m f) (F : FnOk X.prog X.w X.K X.mg X.base CX k f fd ps sp) (hr : Room k X.A) (hb : Binds X.K fd ps []) (hx : ∀ σ, PassesAt CX X σ (E σ)) (ha : PA X (e :: es) t)
    (hp : plainO o = true) (hl : (apos.endLine == pos.line) = true) (h1 : starEach (e :: es) X.env = (false, eval e X.env) :: starEach es X.env) (h2 : (backTo pos (starEach es X.env)).any (·.1) = false) (hpl : (starEach (e :: es) X.env).any (·.1) = false) (hle : (e :: es).length < 20) :
    PE X (.Call (.Attribute o m apos) (e :: es) [] pos) (tMethS CC m sp E ta t) := by
  refine ⟨fun pins s σ H Q I h => ?_⟩
  refine PySem.W.methodCall_KW (pl := plainOf o X.env) (thn (he.run pins s σ H _ I h) fun u s1 ⟨x, H1, I1, rx, a, dx, fs, ex, ea, l, q⟩ => ?_) (ev_meth hp hl (form_of hpl hle))
  subst ex
  obtain rfl : u = Value.ref a := rx
  refine getmeth_ok I1 ea c hm l ?_
  refine PySem.W.callWith_K (first := [.ref a]) (h₀ := X.base) I.ok.mod.kin hm.kp (thn (ha.run pos pins s1 σ H1 _ I1 q) fun us s2 ⟨vs, H2, I2, r, q2⟩ => ⟨I2.kIn, ?_⟩) h1 h2
  exact run_fnS (us := .ref a :: us) (vs := .ref a :: vs) F hr hb (hx σ) I2 (.cons rfl r) q2
theorem pe_methS0 {CX : CXT} {k : Nat} {f CC : Addr} {fd : FuncData} {ps : List Str} {sp : Sp} {E : L2.St → XK} {m : Str} {o : Expr} {ta : TE} (he : PE X o ta) (c : Cls X.K CC) (hm : Meth X.K CC m f) (F : FnOk X.prog X.w X.K X.mg X.base CX k f fd ps sp) (hr : Room k X.A) (hb : Binds X.K fd ps []) (hx : ∀ σ, PassesAt CX X σ (E σ))
    (hp : plainO o = true) (hl : (apos.endLine == pos.line) = true) : PE X (.Call (.Attribute o m apos) [] [] pos) (tMethS CC m sp E ta tNil) := by
  refine ⟨fun pins s σ H Q I h => ?_⟩
  refine PySem.W.methodCall_KW (pl := plainOf o X.env) (thn (he.run pins s σ H _ I h) fun u s1 ⟨x, H1, I1, rx, a, dx, fs, ex, ea, l, q⟩ => ?_) (ev_meth (es := []) hp hl (form_of (es := []) rfl (by decide)))
  subst ex
  obtain rfl : u = Value.ref a := rx
  refine getmeth_ok I1 ea c hm l ?_
  exact PySem.W.callWith_K0 (first := [.ref a]) I1.kIn hm.kp (run_fnS (us := [.ref a]) (vs := [.ref a]) F hr hb (hx σ) I1 (.cons rfl .nil) q)
theorem lookup_not {m : Str} : ∀ {fl : List (Str × V)}, m ∉ fl.map (·.1) → fl.lookup m = none
  | [], _ => rfl
  | (x, y) :: r, h => by
    have h1 : m ≠ x := fun z => h (by simp [z])
    have h2 : m ∉ r.map (·.1) := fun z => h (by simp only [List.map_cons]; exact List.mem_cons_of_mem _ z)
    have e : (m == x) = false := beq_eq_false_iff_ne.mpr h1
    simp only [List.lookup, e]
    exact lookup_not h2
theorem je_meth (g : XG fn mk gl kc X s) {sp : FSpec} {o : Expr} {m : Str} {es : List Expr} {a as : ME} (hs : fn sp) (hn : sp.name = m) (hc : sp.cls ≠ ("" : Str)) (hh : sp.hd = false) (hp : plainO o = true) (hl : (apos.endLine == pos.line) = true) (hle : es.length < 20) (ho : JE X C o a) (hd : ∀ i ∈ pops as, i ∉ vars a) (h : JL X C es as) : JE X C (.Call (.Attribute o m apos) es [] pos) (.meth sp a as) := by
  subst hn
  obtain ⟨⟨⟨fd, ps, hb, F⟩, kp, _, met⟩, rm⟩ := g.fns sp hs
  obtain ⟨kcl, hm⟩ := met hc
  have hf : fAt X.K sp = fAt X.K sp := rfl
  intro E tk
  -- the end, from the object's value and the arguments'
  have fin : ∀ {σ : L2.St} {H : Hp} {Qv : VK} {G : Hp} {S : List Sl} {Q : D → List Sl → Prop} (k : ∀ d S2 v H2 G2, Post X.K C G H H2 σ S S2 (vars (.meth sp a as)) (pops (.meth sp a as)) G2 → Rep X.K G2 d v → Q d S2 → Qv v H2)
      {d : D} {v : V} {S1 : List Sl} {H1 G1 : Hp} (p1 : Post X.K C G H H1 σ S S1 (vars a) (pops a) G1) (rv : Rep X.K G1 d v) {ds : List D} {us : List V} {S2 : List Sl} {H2 G2 : Hp} (p2 : Post X.K C G H1 H2 σ S1 S2 (vars as) (pops as) G2) (ru : Reps X.K G2 ds us)
      (qq : (d :: ds).length = sp.ar ∧ sp.spec (d :: ds) (fun d => Q d S2) fun x => E x S2), spOf X.K sp (v :: us) H2 Qv (WE (liftX X.K C E) σ) := by
    intro σ H Qv G S Q k d v S1 H1 G1 p1 rv ds us S2 H2 G2 p2 ru qq
    have p := p1.trans p2 hd
    have k1 := p1.keep1 p2 hd
    exact ⟨joinG G1 G2, d :: ds, v :: us, none, fun d => Q d S2, fun x => E x S2, rfl, hh.symm, qq.1, p.sub, ⟨v, us, rfl, rv.up joinG_left, ru.up (joinG_right k1 p2.sub)⟩, fun a c z => (by cases z), qq.2, fun d v H3 G3 rt rd qd => k d S2 v H3 G3 (p.call (fun a c z => (by cases z)) rt) rd qd, fun x cls dd H3 G3 rt rx ex => (p.call (fun a c z => (by cases z)) rt).liftX rx ex⟩
  cases es with
  | nil =>
    obtain rfl := h.none
    refine PE.imp (pe_methS0 (ho E tk) (g.ko.cls _ kcl).cls hm F rm hb (fun σ => passAt tk σ) hp hl) fun σ H Qv q => ?_
    obtain ⟨G, S, Q, r, q, k⟩ := q
    refine ⟨G, S, _, r, q, fun d S1 v H1 G1 p1 rv qq => ?_⟩
    obtain ⟨⟨fs, dss, rfl, nf⟩, qq⟩ := qq
    obtain ⟨b, dx, fl, rfl, h1, h2, h3, h4, h5⟩ := id rv
    exact ⟨b, dx, fl, rfl, p1.sub _ _ h1, lookup_not (by rw [h3]; exact nf), fin k p1 rv (Post.same p1.rel) (ds := []) (us := []) rfl qq⟩
  | cons e es =>
    obtain ⟨x, r, e1, hst, h1, h2, h3⟩ := h.tail
    refine PE.imp (pe_methS (ho E tk) (g.ko.cls _ kcl).cls hm F rm hb (fun σ => passAt tk σ) (h.ja E tk) hp hl (star_of hst) (h3.back pos X.env) (h.plain X.env) hle) fun σ H Qv q => ?_
    obtain ⟨G, S, Q, r, q, k⟩ := q
    refine ⟨G, S, _, r, q, fun d S1 v H1 G1 p1 rv qq => ?_⟩
    obtain ⟨⟨fs, dss, rfl, nf⟩, qq⟩ := qq
    obtain ⟨b, dx, fl, rfl, h1, h2, h3, h4, h5⟩ := id rv
    exact ⟨b, dx, fl, rfl, p1.sub _ _ h1, lookup_not (by rw [h3]; exact nf), G, S1, _, p1.rel, qq, fun ds S2 us H2 G2 p2 ru q2 => fin k p1 rv p2 ru q2⟩
theorem run_makeS {CX : CXT} {k : Nat} {f CC : Addr} {fd : FuncData} {ps : List Str} {sp : Sp} {E : L2.St → XK} {pins : List (Addr × Obj)} {σ : L2.St} {H : Hp} {s : Shared} {Q : VK} {us : List Value} {vs : List V} (M : Mk X.K CC f) (F : FnOk X.prog X.w X.K X.mg X.base CX k f fd ps sp) (hr : Room (k + 1) X.A) (hb : Binds X.K fd ps [])
    (hx : PassesAt CX X σ (E σ)) (I : L2.Inv X pins σ H s) (r : Vals vs us)
    (h : ∀ x dx, H x = none → H dx = none → dx ≠ x → sp (.ref x :: vs) (upd (upd H dx (.own x)) x (.ins CC dx [])) (fun v H2 => v = .non ∧ Q (.ref x) H2) (E σ)) :
    wpAny (model X.prog X.w) X.A (call (.ref CC) us) (EP X pins σ Q) X.xe s := by
  have hq := h (s.heap.objs.size + 1) s.heap.objs.size (I.hok.fresh (Nat.le_succ _)) (I.hok.fresh (Nat.le_refl _)) (Nat.ne_of_lt (Nat.lt_succ_self _))
  have I2 := Inv.made (C := CC) I
  have r2 : Vals (V.ref (s.heap.objs.size + 1) :: vs) (Value.ref (s.heap.objs.size + 1) :: us) := .cons rfl r
  have hl : (Value.ref (s.heap.objs.size + 1) :: us ++ []).length = ps.length := by
    have e := r2.length
    rw [F.len _ _ _ _ hq] at e
    rw [List.append_nil]
    exact e.symm
  have b := hb _ (Value.ref (s.heap.objs.size + 1) :: us) I2.kIn hl
  rw [List.append_nil] at b
  refine wpAny_call (make_map (f := f) I.kIn M.makes M.init (beq_iff_eq.mp M.fn) (codeAny_mono (F.run _ X.stack _ _ ⟨Value.ref (s.heap.objs.size + 1) :: us, []⟩ (Value.ref (s.heap.objs.size + 1) :: us) _ _ (E σ) (hr.make CC us [])
    (I2.env0.make CC us []) b r2 hq) fun r s' hq' => ?_))
  cases r with
  | error e => exact hx pins _ _ e s' I2 hq'
  | ok fl =>
    cases fl with
    | ret u =>
      obtain ⟨v, H', I3, rv, ev, q3⟩ := I2.after hq'
      subst ev
      exact ⟨rv, ⟨V.ref (s.heap.objs.size + 1), H', I3, rfl, q3⟩⟩
    | next => exact False.elim hq'
    | brk => exact False.elim hq'
    | cont => exact False.elim hq'
def tMakeS (CC : Addr) (sp : Sp) (E : L2.St → XK) (t : TA) : TE := fun σ H Q => t σ H fun vs H1 => ∀ x dx, H1 x = none → H1 dx = none → dx ≠ x →
  sp (.ref x :: vs) (upd (upd H1 dx (.own x)) x (.ins CC dx [])) (fun v H2 => v = .non ∧ Q (.ref x) H2) (E σ)
theorem pe_makeS {CX : CXT} {k : Nat} {f CC : Addr} {fd : FuncData} {ps : List Str} {sp : Sp} {E : L2.St → XK} {x : Str} {e : Expr} {es : List Expr} {t : TA} (M : Mk X.K CC f) (F : FnOk X.prog X.w X.K X.mg X.base CX k f fd ps sp) (hr : Room (k + 1) X.A) (hg : Gl X x) (hm : X.mg x = some (.ref CC)) (hb : Binds X.K fd ps []) (hx : ∀ σ, PassesAt CX X σ (E σ))
    (ha : PA X (e :: es) t) (hdb : (x == ("__debug__" : Str)) = false) (he : starEach (e :: es) X.env = (false, eval e X.env) :: starEach es X.env) (hpl : (backTo pos (starEach es X.env)).any (·.1) = false) :
    PE X (.Call (.Name x p) (e :: es) [] pos) (tMakeS CC sp E t) := by
  refine ⟨fun pins s σ H Q I h => ?_⟩
  refine wpAny_Call_Name_kw (ld_glob I hg hm ?_ hdb)
  refine PySem.W.callWith_K (h₀ := X.base) I.ok.mod.kin M.kp (thn (ha.run pos pins s σ H _ I h) fun us s1 ⟨vs, H1, I1, r, q⟩ => ⟨I1.kIn, ?_⟩) he hpl
  exact run_makeS M F hr hb (hx σ) I1 r q
theorem je_make (g : XG fn mk gl kc X s) {sp : CSpec} {x : Str} {es : List Expr} {as : ME} (hs : mk sp) (hn : sp.name = x) (hg : glB s x = true) (hne : es ≠ []) (h : JL X C es as) : JE X C (.Call (.Name x p) es [] pos) (.make sp as) := by
  cases es with
  | nil => exact absurd rfl hne
  | cons e es =>
    subst hn
    obtain ⟨a, r, e1, hst, h1, h2, h3⟩ := h.tail
    obtain ⟨⟨⟨f, fd, ps, M, hb, F⟩, iok⟩, rm⟩ := g.mks sp hs
    obtain ⟨g1, g2, g3⟩ := g.glo hg
    intro E tk
    refine PE.imp (pe_makeS M F rm g1 (g.ko.cls _ iok.1).mgc hb (fun σ => passAt tk σ) (h.ja E tk) g2 (star_of hst) (h3.back pos X.env)) fun σ H Qv q => ?_
    obtain ⟨G, S, Q, r, q, k⟩ := q
    refine ⟨G, S, _, r, q, fun ds S2 us H2 G2 p rv qq x dx hx hdx ne => ?_⟩
    have hdx' : (upd H2 dx (.own x)) x = none := by rw [upd_ne (Ne.symm ne)]; exact hx
    have p3 : Post X.K C G H (upd (upd H2 dx (.own x)) x (.ins (He.ga X.K sp.name) dx [])) σ S S2 _ _ G2 := (p.apart (o := .own x) hdx).apart hdx'
    have gx : G2 x = none := p.sub.free hx
    have gdx : G2 dx = none := p.sub.free hdx
    have cx := (p.rel.none_of hx).1
    have ox : ∀ (i : Nat), Own S2 i → σ[i]? ≠ some (some (.ref x)) := fun i ow e => absurd hx (p.rel.own_some ow e)
    have hhx : ¬ Mi.hs S2 x := fun z => absurd hx (p.rel.hs_some z)
    have e3 : (upd (upd H2 dx (.own x)) x (.ins (He.ga X.K sp.name) dx [])) x ≠ none := by rw [upd_same]; exact fun z => nomatch z
    refine ⟨x, dx, G2, ds, us, fun ws => ws.length = sp.fs.length ∧ Q (.ins sp.name sp.fs ws) S2, fun x => E x S2, rfl, qq.1, upd_same, by rw [upd_ne ne, upd_same], p3.sub, gx, gdx, rv, qq.2, fun ws flds H4 G4 rt ef rw4 hx4 qw => ⟨rfl, ?_⟩, fun y cls dd H4 G4 rt rx ex => ?_⟩
    · have p4 := p3.init (p.free hx) gx cx ox hhx rt
      have hdx4 : H4 dx = some (.own x) := rt.frm dx _ (by rw [upd_ne ne, upd_same]) ne
      have g4x : G4 x = none := by
        cases z : G4 x with
        | none => rfl
        | some o =>
          rcases rt.new x o z with y | y
          · rw [gx] at y; cases y
          · exact absurd y e3
      have g4dx : G4 dx = none := by
        cases z : G4 dx with
        | none => rfl
        | some o =>
          rcases rt.new dx o z with y | y
          · rw [gdx] at y; cases y
          · rw [upd_ne ne, upd_same] at y; cases y
      have p5 := p4.add hx4 (p.free hx) g4x
      have p6 := p5.add hdx4 (p.free hdx) (by rw [upd_ne ne]; exact g4dx)
      refine k (.ins sp.name sp.fs ws) S2 _ H4 _ p6 ⟨x, dx, flds, rfl, ?_, upd_same, ef, iok, rw4.up ((same_upd g4x).trans (same_upd (by rw [upd_ne ne]; exact g4dx)))⟩ qw.2
      rw [upd_ne (Ne.symm ne), upd_same]
    · exact (p3.init (p.free hx) gx cx ox hhx rt).liftX rx ex
end
end Mi
set_option maxHeartbeats 1000000
namespace Mi
open PySem PySem.Spec L2 PySem.W
open PyProof.Rows hiding St
section
variable {prog : Program} {w : World} {A : Around} {E : Value → Shared → Prop} {s : Shared} {K : PySem.W.Frag} {x C f : Addr} {ox : Obj} {od : Option Obj} {h₀ : Heap} {L : Nat} {m : Nat} {b tb : Value}
theorem ifBound_B {M : Model} {name : Str} {id : String} {args : List Value} {Q : Option Value → Shared → Prop} (X : K.In s.heap) (I : PySem.W.InstAt s.heap x ox C od) (hs : PySem.W.findIn K (.ref C) name = some (some (.builtin id)))
    (hb : ∀ self, bindSpecial (.builtin id) self = pure (.builtin id, [self])) (h : wpAny M A (call (.builtin id) (.ref x :: args)) (fun v => Q (some v)) E s) : wpAny M A (callSpecialIfBound? (.ref x) name args) Q E s := by
  simp only [callSpecialIfBound?, bindSpecialIfBound?]
  refine wpAny_holding (wpAny_bind (wpAny_bind (wpAny_bind (I.type.here ((PySem.W.looks_findIn X hs).here ?_)))))
  have done : wpAny M A (call (.builtin id) ([.ref x] ++ args) >>= fun v => pure (some v)) Q E s := wpAny_bind (wpAny_mono h (fun v s' z => wpAny_pure z) fun _ _ z => z)
  refine wpAny_bind (wpAny_askSetting (wpAny_ite ?_))
  have one := hb (Value.ref x)
  split
  · exact wpAny_bind ((PySem.W.Looks.of_pure one).here (wpAny_pure (by exact done)))
  · exact wpAny_tryCatch (wpAny_bind ((PySem.W.Looks.of_pure one).here (wpAny_pure (by exact done))))
open Builtin in
theorem cmpN_K {Q : Value → Shared → Prop} (hu : A.units < cLine) (hu1 : A.in1.units < cLine) (X : K.In s.heap) (I : PySem.W.InstAt s.heap x ox C od) (hb : PySem.W.Looks (model prog w) s.heap (typeOf b) tb) (hn : PySem.W.notFirst K C tb = true)
    (hne : PySem.W.findIn K (.ref C) "__ne__" = some (some (.builtin "object.__ne__"))) (hm : PySem.W.mroIn K C (.type "object") = some true) (hs : PySem.W.findIn K (.ref C) "__eq__" = some (some (.ref f))) (hf : PySem.W.isFn K (.ref f) = true)
    (h : wpAny (model prog w) A.in1 (call (.ref f) [.ref x, b]) (fun v s' => ∃ r, v = .bool r ∧ Q (.bool (!r)) s') E s) : wpAny (model prog w) A (richCompare .NotEq (.ref x) b) Q E s := by
  have one : wpAny (model prog w) A (tryCompare (.ref x) (cmpInfo .NotEq).2.1 b) (fun r s' => ∃ v, r = some v ∧ Q v s') E s := by
    unfold tryCompare
    refine wpAny_bind (ifBound_B X I hne PySem.F.cmp_object.ne.bind ?_)
    refine wpAny_call (codeAny_call_builtin PySem.F.cmp_object.ne.plain PySem.F.cmpEntry_ne (PySem.W.check_slot (i := "object.__ne__") (owner := "object") (n := "__ne__") PySem.F.cmpKind_ne PySem.F.cmpSplit_ne (I.type.andThen (PySem.W.looks_mroIn X hm)) (PySem.F.cmpArgs_ne _ _) ?_))
    unfold Builtin.«object.__ne__»
    refine wpAny_bind (m := slotArgs "__ne__" 1 _) (wpAny_pure ?_)
    refine wpAny_bind (m := cRoomFor _ _) (wpAny_cRoomFor hu1 ?_)
    refine wpAny_bind (m := callSpecialIfBound? (.ref x) (Str.ofString "__eq__") _) (PySem.W.ifBound_K X I hs hf (wpAny_mono h (fun r s' z => ?_) fun _ _ y => y))
    obtain ⟨r', rfl, q⟩ := z
    refine wpAny_bind (wpAny_truthy_bool ?_)
    refine wpAny_pure ?_
    exact wpAny_pure ⟨_, rfl, q⟩
  unfold richCompare
  simp only [oneThing_ref]
  refine wpAny_holding (wpAny_bind (wpAny_cRoomFor hu ?_))
  refine wpAny_bind (I.type.here (wpAny_bind (hb.here ?_)))
  split
  · rename_i q
    have e1 : PySem.W.subIn K tb (.ref C) = some false := by
      rcases Bool.or_eq_true_iff.mp hn with z | z
      · rw [beq_iff_eq.mp z] at q; simp at q
      · exact beq_iff_eq.mp z
    refine wpAny_bind ((PySem.W.looks_subIn X e1).here ?_)
    simp only [Bool.false_eq_true, if_false]
    refine wpAny_bind (wpAny_mono one (fun r s' z => ?_) fun _ _ z => z)
    obtain ⟨v, rfl, z⟩ := z
    exact wpAny_pure z
  · refine wpAny_bind (wpAny_pure ?_)
    simp only [Bool.false_eq_true, if_false]
    refine wpAny_bind (wpAny_mono one (fun r s' z => ?_) fun _ _ z => z)
    obtain ⟨v, rfl, z⟩ := z
    exact wpAny_pure z
end
section
variable {X : Cx} {C : IC} {s : SC} {fn : FSpec → Prop} {mk : CSpec → Prop} {gl : Str → D → Prop} {kc : Str → Prop} {pos : Pos}
def rOwn (K : PySem.W.Frag) (sp : FSpec) (neg : Bool) : R2 := fun x y H Q => ∃ a b dx dy fs gs, x = .ref a ∧ y = .ref b ∧ H a = some (.ins (He.ga K sp.cls) dx fs) ∧ H b = some (.ins (He.ga K sp.cls) dy gs) ∧
  spOf K sp [x, y] H (fun v H' => ∃ r, v = .bl r ∧ Q (.bl (r != neg)) H') fun _ _ _ => False
abbrev cmpOf (neg : Bool) : CmpOp := if neg = true then .NotEq else .Eq
theorem op_own (g : XG fn mk gl kc X s) {sp : FSpec} {neg : Bool} {W : WX} (tk : L2.Takes X W) (hs : fn sp) (hs1 : fn { sp with lvl := sp.lvl + 1 }) (hn : sp.name = ("__eq__" : Str)) (hc : sp.cls ≠ ("" : Str)) : OpR X (compareOp (cmpOf neg)) (rOwn X.K sp neg) := by
  obtain ⟨⟨⟨fd, ps, hb, F⟩, kp, _, met⟩, rm⟩ := g.fns sp hs
  obtain ⟨kcl, hm⟩ := met hc
  have rm1 : Room (sp.lvl + 1) X.A := (g.fns _ hs1).2
  have cf := g.ko.cls _ kcl
  rw [hn] at hm
  intro pins s σ H x y v u Q I rx ry h
  obtain ⟨a, b, dx, dy, fs, gs, rfl, rfl, ha, hb', q⟩ := h
  cases rx
  cases ry
  have tkF : L2.Takes X (fun _ _ _ _ => False) := tk.imp fun _ _ _ _ z => z.elim
  obtain ⟨mA, J, _⟩ := ins_get I.hok ha
  obtain ⟨mB, J', _⟩ := ins_get I.hok hb'
  obtain ⟨od, J, _⟩ := J.look
  obtain ⟨od', J', _⟩ := J'.look
  have r2 : Vals [V.ref a, V.ref b] [Value.ref a, Value.ref b] := .cons rfl (.cons rfl .nil)
  cases neg with
  | false =>
    obtain ⟨m, hF⟩ := I.fr
    show wpAny (model X.prog X.w) X.A (richCompare .Eq (.ref a) (.ref b)) (EP X pins σ Q) X.xe s
    refine PySem.W.cmp_K (op := .Eq) (tb := .ref (He.ga X.K sp.cls)) rm.units0 hF I.ok.mod.kin J J'.type (by simp [PySem.W.notFirst]) hm.at_ hm.fn ?_
    refine wpAny_mono (run_fnS (us := [.ref a, .ref b]) (vs := [.ref a, .ref b]) F rm hb (passAt tkF σ) I r2 q) (fun r s' z => ?_) fun _ _ z => z
    obtain ⟨w, H', I', rw', r, ew, q'⟩ := z
    subst ew
    cases rw'
    refine ⟨_, H', I', ?_, q'⟩
    cases r <;> rfl
  | true =>
    show wpAny (model X.prog X.w) X.A (richCompare .NotEq (.ref a) (.ref b)) (EP X pins σ Q) X.xe s
    refine cmpN_K (tb := .ref (He.ga X.K sp.cls)) rm.units0 rm1.in1.units0 I.kIn J J'.type (by simp [PySem.W.notFirst]) cf.ne cf.mro hm.at_ hm.fn ?_
    have e0 : Env0 X.prog X.w X.K X.mg X.base X.A.in1 X.stack s H := by
      have e := I.env0
      exact ⟨e.frames, e.mod, e.bs, e.bsz, e.funs, e.frf, e.hok, e.bare⟩
    have hl := F.len _ _ _ _ q
    refine wpAny_call (codeAny_mono (F.run X.A.in1 X.stack s H ⟨[.ref a, .ref b], []⟩ [.ref a, .ref b] [.ref a, .ref b] _ _ rm1.in1 e0 (by
      have := hb s [.ref a, .ref b] I.kIn (by simpa using hl)
      simpa using this) r2 q) fun r s' hq => ?_)
    cases r with
    | error e => exact passAt tkF σ pins H s e s' I hq
    | ok fl =>
      cases fl with
      | ret w =>
        obtain ⟨z, H', I', rz, r, ez, q'⟩ := I.after hq
        subst ez
        cases rz
        refine ⟨r, rfl, _, H', I', ?_, q'⟩
        cases r <;> rfl
      | next => exact False.elim hq
      | brk => exact False.elim hq
      | cont => exact False.elim hq
theorem own_ok {sp : FSpec} {neg : Bool} (hh : sp.hd = false) {vs pp : List Nat} {G H H2 G2 : Hp} {σ : L2.St} {S S2 : List Sl} {d1 d2 : D} {v1 v2 : V} {Q : DK} {Qv : VK} (p : Post X.K C G H H2 σ S S2 vs pp G2) (r1 : Rep X.K G2 d1 v1) (r2 : Rep X.K G2 d2 v2)
    (q : (∃ fs e1 gs e2, [d1, d2] = [.ins sp.cls fs e1, .ins sp.cls gs e2]) ∧ [d1, d2].length = sp.ar ∧ sp.spec [d1, d2] (fun d => ∃ r, d = .bl r ∧ Q (.bl (r != neg))) fun _ => False)
    (k : ∀ r H3 G3, Post X.K C G H H3 σ S S2 vs pp G3 → Q (.bl r) → Qv (.bl r) H3) : rOwn X.K sp neg v1 v2 H2 Qv := by
  obtain ⟨⟨fs, e1, gs, e2, ee⟩, len, sq⟩ := q
  injection ee with ee1 ee2
  injection ee2 with ee2 _
  subst ee1 ee2
  obtain ⟨a, dx, fl, rfl, h1, h2, h3, h4, h5⟩ := id r1
  obtain ⟨b, dy, gl', rfl, i1, i2, i3, i4, i5⟩ := id r2
  refine ⟨a, b, dx, dy, fl, gl', rfl, rfl, p.sub _ _ h1, p.sub _ _ i1, G2, _, [.ref a, .ref b], none, _, fun _ => False, rfl, hh.symm, len, p.sub, ⟨_, _, rfl, r1, _, _, rfl, r2, rfl⟩, fun a c z => (by cases z), sq, fun d v H3 G3 rt rd z => ?_, fun _ _ _ _ _ _ _ z => z.elim⟩
  obtain ⟨r, e, z⟩ := z
  subst e
  cases rd
  exact ⟨r, rfl, k _ H3 G3 (p.call (fun a c z => (by cases z)) rt) z⟩
theorem je_eqo (g : XG fn mk gl kc X s) {sp : FSpec} {neg : Bool} {x y : Expr} {as : ME} (hs : fn sp) (hs1 : fn { sp with lvl := sp.lvl + 1 }) (hn : sp.name = ("__eq__" : Str)) (hc : sp.cls ≠ ("" : Str)) (hh : sp.hd = false) (hm : behindInMarks (cmpOf neg) y = false) (h : JL X C [x, y] as) : JE X C (.Compare x [cmpOf neg] [y] pos) (.eqo neg sp as) := by
  obtain ⟨a, b, rfl, ha, hb, hd⟩ := h.two
  intro E tk
  refine PE.imp (pe_cmpR (op_own g tk hs hs1 hn hc) (ha E tk) (hb E tk) hm) fun σ H Qv q => ?_
  obtain ⟨G, S, Q, r, q, k⟩ := q
  refine rd_two hd r q fun d1 d2 S2 v1 v2 H2 G2 p r1 r2 q2 => ?_
  exact own_ok (Q := fun d => Q d S2) hh p r1 r2 q2 fun r H3 G3 p3 z => k (.bl r) S2 (.bl r) H3 G3 (p3.mono (by simp [vars]) (by simp [pops])) rfl z
theorem jt_eqo (g : XG fn mk gl kc X s) {sp : FSpec} {neg : Bool} {x y : Expr} {as : ME} (hs : fn sp) (hs1 : fn { sp with lvl := sp.lvl + 1 }) (hn : sp.name = ("__eq__" : Str)) (hc : sp.cls ≠ ("" : Str)) (hh : sp.hd = false) (hm : behindInMarks (cmpOf neg) y = false) (h : JL X C [x, y] as) : JT X C (.Compare x [cmpOf neg] [y] pos) (.eqo neg sp as) := by
  obtain ⟨a, b, rfl, ha, hb, hd⟩ := h.two
  intro E tk
  refine PT.imp (pt_cmpR (op_own g tk hs hs1 hn hc) (ha E tk) (hb E tk) hm) fun σ H Qv q => ?_
  obtain ⟨G, S, Q, r, q, k⟩ := q
  refine rd_two hd r q fun d1 d2 S2 v1 v2 H2 G2 p r1 r2 q2 => ?_
  have q3 : (∃ fs e1 gs e2, [d1, d2] = [.ins sp.cls fs e1, .ins sp.cls gs e2]) ∧ [d1, d2].length = sp.ar ∧ sp.spec [d1, d2] (fun d => ∃ r, d = .bl r ∧ truW (.bl (r != neg)) fun k => Q k S2) fun _ => False := q2
  exact own_ok (Q := fun d => truW d fun k => Q k S2) hh p r1 r2 q3 fun r H3 G3 p3 z => ⟨r, rfl, k r S2 H3 (p3.flatm (by simp [pops])) z⟩
end
end Mi
set_option maxHeartbeats 1000000
namespace Mi
open PySem PySem.Spec
section
variable {prog : Program} {w : World} {A : Around} {E : Value → Shared → Prop} {s : Shared}
/-- a zip whose last pair is still held -/
abbrev ZB (h : Heap) (z TI TO T : Addr) (f : Bool) : Prop := h.get? z = some { cls := .type "zip", dict := none, data := .fields #[rawInt T, .bool f, .bool false, .ref TI, .ref TO], slots := #[] }
theorem zb_busy {z TI TO T : Addr} {f : Bool} {oT : Obj} (hz : ZB s.heap z TI TO T f) (hT : s.heap.get? T = some oT) : wpAny (model prog w) A (Builtin.SmallTypes.ownedTupleIsFree (.ref z)) (fun b s' => b = false ∧ ∃ h₁, s' = { s with heap := h₁ } ∧ ZB h₁ z TI TO T true ∧ Heap.SameBut z s.heap h₁) E s := by
  unfold Builtin.SmallTypes.ownedTupleIsFree
  refine wpAny_bind (wpAny_field hz rfl (x := rawInt T) rfl ?_)
  show wpAny _ _ (loadIfAlive ((T : Int).toNat) >>= _) _ _ _
  rw [Int.toNat_natCast]
  refine wpAny_bind (PySem.W.kdx_alive hT ?_)
  simp only [Option.isNone_some, Bool.false_eq_true, if_false]
  refine wpAny_bind (wpAny_field hz rfl (x := .bool f) rfl ?_)
  cases f with
  | true =>
    rw [if_neg (show ¬ ((Value.bool true != Value.bool true) = true) from Bool.false_ne_true)]
    exact wpAny_pure ⟨rfl, s.heap, rfl, hz, Heap.SameBut.refl _ _⟩
  | false =>
    rw [if_pos (show (Value.bool false != Value.bool true) = true from rfl)]
    refine wpAny_bind (wpAny_setField_rec hz (by simp) fun h₃ he₃ hs₃ => ?_)
    exact wpAny_pure ⟨rfl, h₃, rfl, he₃, hs₃⟩
theorem zb_item {z TI TO i1 i2 l1 l2 T : Addr} {k1 k2 : Nat} {f : Bool} {oT : Obj} {xs ys : Array Value} {x y : Value} {Q : Value → Shared → Prop} (D : ZipApart z TI TO i1 i2 l1 l2)
    (hz : ZB s.heap z TI TO T f) (hT : s.heap.get? T = some oT) (hTI : IsPair s.heap TI (.ref i1) (.ref i2))
    (h1 : s.heap.IsTupleIter i1 l1 k1) (h2 : s.heap.IsTupleIter i2 l2 k2) (hl1 : s.heap.IsTuple l1 xs) (hl2 : s.heap.IsTuple l2 ys) (hx : xs[k1]? = some x) (hy : ys[k2]? = some y)
    (hQ : ∀ h', ZB h' z TI TO T true → h'.IsTupleIter i1 l1 (k1 + 1) → h'.IsTupleIter i2 l2 (k2 + 1) → IsPair h' s.heap.objs.size x y →
      (∀ c o, c ≠ z → c ≠ i1 → c ≠ i2 → s.heap.get? c = some o → h'.get? c = some o) → Q (.ref s.heap.objs.size) { s with heap := h' }) :
    wpAny (model prog w) A (Builtin.«zip.__next__» ⟨[.ref z], []⟩) (fun fin s' => ∃ v, fin = .done (.ret v) ∧ Q v s') E s := by
  show wpAny _ _ (field (.ref z) 2 >>= _) _ _ _
  refine wpAny_bind (wpAny_field hz rfl (x := .bool false) rfl ?_)
  show wpAny _ _ (field (.ref z) 3 >>= _) _ _ _
  refine wpAny_bind (wpAny_field hz rfl (x := .ref TI) rfl ?_)
  refine wpAny_bind (wpAny_seqItems hTI rfl ?_)
  show wpAny _ _ (Builtin.SmallTypes.ownedTupleIsFree (.ref z) >>= _) _ _ _
  refine wpAny_bind (wpAny_mono (zb_busy hz hT) (fun b s' q => ?_) fun _ _ e => e)
  obtain ⟨rfl, h₁, rfl, hz₁, hs₁⟩ := q
  simp only [Bool.false_eq_true, if_false]
  have b1 := h1.extBut hs₁.extBut D.i1z
  have c1 := hl1.extBut hs₁.extBut D.l1z
  have b2 := h2.extBut hs₁.extBut D.i2z
  have c2 := hl2.extBut hs₁.extBut D.l2z
  simp only [List.forIn_toArray, List.forIn_cons, List.forIn_nil]
  refine wpAny_bind (wpAny_bind (wpAny_bind (wpAny_holding ?_)))
  show wpAny _ _ (Builtin.SmallTypes.nextOf (.ref i1) >>= _) _ _ _
  refine wpAny_bind (RZ.nextOf_tuple_item b1 c1 hx fun h₂ h1₂ hs₂ => wpAny_pure ?_)
  refine wpAny_pure ?_
  refine wpAny_bind (wpAny_bind (wpAny_holding ?_))
  show wpAny _ _ (Builtin.SmallTypes.nextOf (.ref i2) >>= _) _ _ _
  refine wpAny_bind (RZ.nextOf_tuple_item (b2.extBut hs₂.extBut D.i12.symm) (c2.extBut hs₂.extBut D.l2i1) hy fun h₃ h2₃ hs₃ => wpAny_pure ?_)
  refine wpAny_pure (wpAny_pure ?_)
  refine wpAny_bind (wpAny_newTuple (hsz := by show (2 : Nat) ≤ sizeLine; decide) ?_)
  have hsz : h₃.objs.size = s.heap.objs.size := by rw [hs₃.1]; exact hs₂.1.trans hs₁.1
  have up : ∀ c o, c ≠ z → c ≠ i1 → c ≠ i2 → s.heap.get? c = some o → h₃.get? c = some o := fun c o n1 n2 n3 e => hs₃.extBut _ _ n3 (hs₂.extBut _ _ n2 (hs₁.extBut _ _ n1 e))
  refine wpAny_pure ⟨_, rfl, ?_⟩
  show Q (.ref h₃.objs.size) { s with heap := h₃.push { cls := .type "tuple", data := .seq #[x, y] } }
  rw [hsz]
  refine hQ (h₃.push { cls := .type "tuple", data := .seq #[x, y] }) (Heap.get?_push_of_some _ (hs₃.extBut _ _ D.i2z.symm (hs₂.extBut _ _ D.i1z.symm hz₁))) ?_ ?_ ?_ fun c o n1 n2 n3 e => Heap.get?_push_of_some _ (up c o n1 n2 n3 e)
  · exact (h1₂.extBut hs₃.extBut D.i12).at fun o e => Heap.get?_push_of_some _ e
  · exact h2₃.at fun o e => Heap.get?_push_of_some _ e
  · rw [← hsz]; exact Heap.get?_push_size _ rfl
theorem zb_end {z TI TO i1 i2 l1 l2 T : Addr} {k1 k2 : Nat} {f : Bool} {oT : Obj} {xs ys : Array Value} {Q : Fin → Shared → Prop} (hh : A.handled = none) (D : ZipApart z TI TO i1 i2 l1 l2)
    (hz : ZB s.heap z TI TO T f) (hT : s.heap.get? T = some oT) (hTI : IsPair s.heap TI (.ref i1) (.ref i2))
    (h1 : s.heap.IsTupleIter i1 l1 k1) (h2 : s.heap.IsTupleIter i2 l2 k2) (hl1 : s.heap.IsTuple l1 xs) (hl2 : s.heap.IsTuple l2 ys) (hend : xs[k1]? = none ∨ ys[k2]? = none)
    (hE : ∀ h' e, (∀ c o, c ≠ z → c ≠ i1 → c ≠ i2 → s.heap.get? c = some o → h'.get? c = some o) → (∃ o, h'.get? e = some o ∧ o.cls = .type "StopIteration") → E (.ref e) { s with heap := h' }) :
    wpAny (model prog w) A (Builtin.«zip.__next__» ⟨[.ref z], []⟩) Q E s := by
  show wpAny _ _ (field (.ref z) 2 >>= _) _ _ _
  refine wpAny_bind (wpAny_field hz rfl (x := .bool false) rfl ?_)
  show wpAny _ _ (field (.ref z) 3 >>= _) _ _ _
  refine wpAny_bind (wpAny_field hz rfl (x := .ref TI) rfl ?_)
  refine wpAny_bind (wpAny_seqItems hTI rfl ?_)
  show wpAny _ _ (Builtin.SmallTypes.ownedTupleIsFree (.ref z) >>= _) _ _ _
  refine wpAny_bind (wpAny_mono (zb_busy hz hT) (fun b s' q => ?_) fun _ _ e => e)
  obtain ⟨rfl, h₁, rfl, hz₁, hs₁⟩ := q
  simp only [Bool.false_eq_true, if_false]
  have b1 := h1.extBut hs₁.extBut D.i1z
  have c1 := hl1.extBut hs₁.extBut D.l1z
  have b2 := h2.extBut hs₁.extBut D.i2z
  have c2 := hl2.extBut hs₁.extBut D.l2z
  simp only [List.forIn_toArray, List.forIn_cons, List.forIn_nil]
  refine wpAny_bind (wpAny_bind (wpAny_bind (wpAny_holding ?_)))
  show wpAny _ _ (Builtin.SmallTypes.nextOf (.ref i1) >>= _) _ _ _
  cases hx : xs[k1]? with
  | none =>
    refine wpAny_bind (RZ.nextOf_tuple_end hh b1 c1 hx fun h₂ e hs₂ he => ?_)
    exact hE h₂ e (fun c o n1 n2 _ q => hs₂ _ _ n2 (hs₁.extBut _ _ n1 q)) he
  | some x =>
    have hy : ys[k2]? = none := by rcases hend with q | q; rw [hx] at q; cases q; exact q
    refine wpAny_bind (RZ.nextOf_tuple_item b1 c1 hx fun h₂ h1₂ hs₂ => wpAny_pure ?_)
    refine wpAny_pure ?_
    refine wpAny_bind (wpAny_bind (wpAny_holding ?_))
    show wpAny _ _ (Builtin.SmallTypes.nextOf (.ref i2) >>= _) _ _ _
    refine wpAny_bind (RZ.nextOf_tuple_end hh (b2.extBut hs₂.extBut D.i12.symm) (c2.extBut hs₂.extBut D.l2i1) hy fun h₃ e hs₃ he => ?_)
    exact hE h₃ e (fun c o n1 n2 n3 q => hs₃ _ _ n3 (hs₂.extBut _ _ n2 (hs₁.extBut _ _ n1 q))) he
theorem pyNext_zb_item {z TI TO i1 i2 l1 l2 T : Addr} {k1 k2 : Nat} {f : Bool} {oT : Obj} {xs ys : Array Value} {x y : Value} {Q : Option Value → Shared → Prop} (D : ZipApart z TI TO i1 i2 l1 l2)
    (hz : ZB s.heap z TI TO T f) (hT : s.heap.get? T = some oT) (hTI : IsPair s.heap TI (.ref i1) (.ref i2))
    (h1 : s.heap.IsTupleIter i1 l1 k1) (h2 : s.heap.IsTupleIter i2 l2 k2) (hl1 : s.heap.IsTuple l1 xs) (hl2 : s.heap.IsTuple l2 ys) (hx : xs[k1]? = some x) (hy : ys[k2]? = some y)
    (hQ : ∀ h', ZB h' z TI TO T true → h'.IsTupleIter i1 l1 (k1 + 1) → h'.IsTupleIter i2 l2 (k2 + 1) → IsPair h' s.heap.objs.size x y →
      (∀ c o, c ≠ z → c ≠ i1 → c ≠ i2 → s.heap.get? c = some o → h'.get? c = some o) → Q (some (.ref s.heap.objs.size)) { s with heap := h' }) : wpAny (model prog w) A (pyNext (.ref z)) Q E s := by
  have hT' : s.TypeIs (.ref z) "zip" := ⟨_, hz, rfl⟩
  unfold pyNext
  exact wpAny_bind (wpAny_attempt (wpAny_callSpecial?_slot (name := Str.ofString "__next__") hT' F.slot_zip_next
    (wpAny_call_entry F.slot_zip_next hT' F.entry_zip_next (zb_item D hz hT hTI h1 h2 hl1 hl2 hx hy fun h' a1 a2 a3 a4 a5 => wpAny_pure (hQ h' a1 a2 a3 a4 a5)) (F.args_zip_next_1 _))))
theorem pyNext_zb_end {z TI TO i1 i2 l1 l2 T : Addr} {k1 k2 : Nat} {f : Bool} {oT : Obj} {xs ys : Array Value} {Q : Option Value → Shared → Prop} (hh : A.handled = none) (D : ZipApart z TI TO i1 i2 l1 l2)
    (hz : ZB s.heap z TI TO T f) (hT : s.heap.get? T = some oT) (hTI : IsPair s.heap TI (.ref i1) (.ref i2))
    (h1 : s.heap.IsTupleIter i1 l1 k1) (h2 : s.heap.IsTupleIter i2 l2 k2) (hl1 : s.heap.IsTuple l1 xs) (hl2 : s.heap.IsTuple l2 ys) (hend : xs[k1]? = none ∨ ys[k2]? = none)
    (hQ : ∀ h', (∀ c o, c ≠ z → c ≠ i1 → c ≠ i2 → s.heap.get? c = some o → h'.get? c = some o) → Q none { s with heap := h' }) : wpAny (model prog w) A (pyNext (.ref z)) Q E s := by
  have hT' : s.TypeIs (.ref z) "zip" := ⟨_, hz, rfl⟩
  unfold pyNext
  refine wpAny_bind (wpAny_attempt (wpAny_callSpecial?_slot (name := Str.ofString "__next__") hT' F.slot_zip_next
    (wpAny_call_entry F.slot_zip_next hT' F.entry_zip_next (zb_end hh D hz hT hTI h1 h2 hl1 hl2 hend fun h' e hk he => ?_) (F.args_zip_next_1 _))))
  obtain ⟨o, ho, hc⟩ := he
  refine wpAny_bind (wpAny_isInstance (T := "StopIteration") (b := true) ⟨o, ho, hc⟩ isSubtype_stop ?_)
  exact wpAny_pure (hQ _ hk)
structure ZMade (xs ys : Array Value) (lo : Addr) (h : Heap) (as : List Addr) : Prop where
  rise : as.Pairwise (· < ·)
  above : ∀ a ∈ as, lo < a
  pairs : ∀ (j : Nat) (a : Addr), as[j]? = some a → ∃ x y, xs[j]? = some x ∧ ys[j]? = some y ∧ IsPair h a x y
theorem ZMade.at {xs ys : Array Value} {lo : Addr} {h : Heap} {as : List Addr} (g : ZMade xs ys lo h as) {a : Addr} (ha : a ∈ as) : ∃ o, h.get? a = some o := by
  obtain ⟨j, hj⟩ := List.mem_iff_getElem?.mp ha
  obtain ⟨_, _, _, _, e⟩ := g.pairs j a hj
  exact ⟨_, e⟩
theorem ZMade.there {xs ys : Array Value} {lo : Addr} {h : Heap} {as : List Addr} (g : ZMade xs ys lo h as) {a : Addr} (ha : a ∈ as) : a < h.objs.size := by
  obtain ⟨_, e⟩ := g.at ha
  exact Heap.lt_size e
/-- the zip at turn i -/
def ZSt (z TI TO i1 i2 l1 l2 : Addr) (xs ys : Array Value) (i : Nat) (as : List Addr) (h : Heap) : Prop :=
  ((IsZip h z TI TO .none ∧ ∃ p q, IsPair h TO p q) ∨ ∃ T f, T ∈ as ∧ ZB h z TI TO T f) ∧ IsPair h TI (.ref i1) (.ref i2) ∧ h.IsTupleIter i1 l1 i ∧ h.IsTupleIter i2 l2 i ∧ h.IsTuple l1 xs ∧ h.IsTuple l2 ys
theorem ZSt.keep {z TI TO i1 i2 l1 l2 S : Addr} {xs ys : Array Value} {i : Nat} {as : List Addr} {h h' : Heap} (t : ZSt z TI TO i1 i2 l1 l2 xs ys i as h) (k : ∀ b o, b ≠ S → h.get? b = some o → h'.get? b = some o) (n : z ≠ S ∧ TI ≠ S ∧ TO ≠ S ∧ i1 ≠ S ∧ i2 ≠ S ∧ l1 ≠ S ∧ l2 ≠ S) : ZSt z TI TO i1 i2 l1 l2 xs ys i as h' := by
  obtain ⟨t1, t2, t3, t4, t5, t6⟩ := t
  obtain ⟨n1, n2, n3, n4, n5, n6, n7⟩ := n
  refine ⟨?_, k _ _ n2 t2, t3.at fun o e => k _ o n4 e, t4.at fun o e => k _ o n5 e, t5.at fun o e => k _ o n6 e, t6.at fun o e => k _ o n7 e⟩
  rcases t1 with ⟨a, p, q, b⟩ | ⟨T, f, a, b⟩
  · exact .inl ⟨k _ _ n1 a, p, q, k _ _ n3 b⟩
  · exact .inr ⟨T, f, a, k _ _ n1 b⟩
theorem zs_item {z TI TO i1 i2 l1 l2 lo : Addr} {xs ys : Array Value} {i : Nat} {as : List Addr} {x y : Value} {Q : Option Value → Shared → Prop} (D : ZipApart z TI TO i1 i2 l1 l2) (t : ZSt z TI TO i1 i2 l1 l2 xs ys i as s.heap) (g : ZMade xs ys lo s.heap as) (hx : xs[i]? = some x) (hy : ys[i]? = some y)
    (hQ : ∀ h', ZSt z TI TO i1 i2 l1 l2 xs ys (i + 1) (as ++ [s.heap.objs.size]) h' → IsPair h' s.heap.objs.size x y → (∀ c o, c ≠ z → c ≠ TO → c ≠ i1 → c ≠ i2 → s.heap.get? c = some o → h'.get? c = some o) → Q (some (.ref s.heap.objs.size)) { s with heap := h' }) :
    wpAny (model prog w) A (pyNext (.ref z)) Q E s := by
  obtain ⟨t1, t2, t3, t4, t5, t6⟩ := t
  have tup : ∀ {h' : Heap} {l : Addr} {zs : Array Value}, s.heap.IsTuple l zs → (∀ c o, c ≠ z → c ≠ TO → c ≠ i1 → c ≠ i2 → s.heap.get? c = some o → h'.get? c = some o) → l ≠ z → l ≠ TO → l ≠ i1 → l ≠ i2 → h'.IsTuple l zs := fun q k n1 n2 n3 n4 => q.at fun o e => k _ o n1 n2 n3 n4 e
  rcases t1 with ⟨a, p, q, b⟩ | ⟨T, f, a, b⟩
  · refine RZ.pyNext_zipT_item D a t2 b t3 t4 t5 t6 hx hy fun h' a1 a2 a3 a4 a5 _ k => ?_
    exact hQ h' ⟨.inr ⟨s.heap.objs.size, false, by simp, a1⟩, k _ _ D.TIz D.TITO D.TIi1 D.TIi2 t2, a3, a4, tup t5 k D.l1z D.l1TO D.l1i1 D.l1i2, tup t6 k D.l2z D.l2TO D.l2i1 D.l2i2⟩ a5 k
  · obtain ⟨oT, hT⟩ := g.at a
    refine pyNext_zb_item D b hT t2 t3 t4 t5 t6 hx hy fun h' a1 a2 a3 a4 k => ?_
    have k' : ∀ c o, c ≠ z → c ≠ TO → c ≠ i1 → c ≠ i2 → s.heap.get? c = some o → h'.get? c = some o := fun c o n1 _ n3 n4 e => k c o n1 n3 n4 e
    exact hQ h' ⟨.inr ⟨T, true, List.mem_append_left _ a, a1⟩, k _ _ D.TIz D.TIi1 D.TIi2 t2, a2, a3, tup t5 k' D.l1z D.l1TO D.l1i1 D.l1i2, tup t6 k' D.l2z D.l2TO D.l2i1 D.l2i2⟩ a4 k'
theorem zs_end {z TI TO i1 i2 l1 l2 lo : Addr} {xs ys : Array Value} {i : Nat} {as : List Addr} {Q : Option Value → Shared → Prop} (hh : A.handled = none) (D : ZipApart z TI TO i1 i2 l1 l2) (t : ZSt z TI TO i1 i2 l1 l2 xs ys i as s.heap) (g : ZMade xs ys lo s.heap as) (hend : xs[i]? = none ∨ ys[i]? = none)
    (hQ : ∀ h', (∀ c o, c ≠ z → c ≠ TO → c ≠ i1 → c ≠ i2 → s.heap.get? c = some o → h'.get? c = some o) → Q none { s with heap := h' }) : wpAny (model prog w) A (pyNext (.ref z)) Q E s := by
  obtain ⟨t1, t2, t3, t4, t5, t6⟩ := t
  rcases t1 with ⟨a, p, q, b⟩ | ⟨T, f, a, b⟩
  · exact RZ.pyNext_zipT_end hh D a t2 b t3 t4 t5 t6 hend hQ
  · obtain ⟨oT, hT⟩ := g.at a
    exact pyNext_zb_end hh D b hT t2 t3 t4 t5 t6 hend fun h' k => hQ h' fun c o n1 _ n3 n4 e => k c o n1 n3 n4 e
theorem zl_loop {R : Result → Shared → Prop} {S z TI TO i1 i2 l1 l2 : Addr} {xs ys : Array Value} {n : Nat} (hh : A.handled = none) (D : ZipApart z TI TO i1 i2 l1 l2) (ne : z ≠ S ∧ TI ≠ S ∧ TO ≠ S ∧ i1 ≠ S ∧ i2 ≠ S ∧ l1 ≠ S ∧ l2 ≠ S) (lt : z < S ∧ TO < S ∧ i1 < S ∧ i2 < S) (hnx : n ≤ xs.size) (hny : n ≤ ys.size) (hnm : n = xs.size ∨ n = ys.size) (hn : n ≤ sizeLine) (res : Value) {h₁ : Heap}
    (hR : ∀ h' tk acc c as, (∀ b o, b ≠ S → b ≠ z → b ≠ TO → b ≠ i1 → b ≠ i2 → h₁.get? b = some o → h'.get? b = some o) → h'.get? S = some { cls := .type "list", dict := none, data := .seq acc c, slots := #[] } → as.length = n → ZMade xs ys S h' as →
      acc.toList = as.map Value.ref → R (.ok (.ret res)) { s with heap := h', toks := tk }) :
    ∀ (k i : Nat) (h : Heap) (tk c : Nat) (acc : Array Value) (as : List Addr), n - i = k → i ≤ n → ZSt z TI TO i1 i2 l1 l2 xs ys i as h → (∀ b o, b ≠ S → b ≠ z → b ≠ TO → b ≠ i1 → b ≠ i2 → h₁.get? b = some o → h.get? b = some o) →
      h.get? S = some { cls := .type "list", dict := none, data := .seq acc c, slots := #[] } → acc.toList = as.map Value.ref → as.length = i → ZMade xs ys S h as →
      codeAny (model prog w) A (.builtin "list.extend.loop" ⟨[.ref S, .ref z, res], []⟩) R { s with heap := h, toks := tk } := by
  obtain ⟨n1, n2, n3, n4, n5, n6, n7⟩ := id ne
  obtain ⟨m1, m2, m3, m4⟩ := lt
  intro k
  induction k with
  | zero =>
    intro i h tk c acc as hk hi hst hkeep hS hacc hal hG
    refine codeAny_builtin PySem.F.entry_extend_loop ?_
    rw [Around.under_plainId PySem.F.plain_extend_loop _]
    show wpAny _ A.in1 (pyNext (.ref z) >>= _) _ _ _
    refine wpAny_bind (zs_end (s := { s with heap := h, toks := tk }) (A := A.in1) (lo := S) hh D hst hG ?_ fun h' he => ?_)
    · rcases hnm with e | e
      · exact .inl (by simp; omega)
      · exact .inr (by simp; omega)
    · refine wpAny_pure (hR h' tk acc c as (fun b o h1 h2 h3 h4 h5 e => he b o h2 h3 h4 h5 (hkeep b o h1 h2 h3 h4 h5 e)) (he S _ n1.symm n3.symm n4.symm n5.symm hS) (by omega) ⟨hG.rise, hG.above, fun j a hj => ?_⟩ hacc)
      obtain ⟨x, y, e1, e2, e3⟩ := hG.pairs j a hj
      have ha := hG.above a (List.mem_of_getElem? hj)
      exact ⟨x, y, e1, e2, he a _ (Nat.ne_of_gt (Nat.lt_trans m1 ha)) (Nat.ne_of_gt (Nat.lt_trans m2 ha)) (Nat.ne_of_gt (Nat.lt_trans m3 ha)) (Nat.ne_of_gt (Nat.lt_trans m4 ha)) e3⟩
  | succ k ih =>
    intro i h tk c acc as hk hi hst hkeep hS hacc hal hG
    have hlt : i < n := by omega
    have hsz : acc.size = i := by rw [← Array.length_toList, hacc, List.length_map, hal]
    have hx : xs[i]? = some (xs[i]'(by omega)) := Array.getElem?_eq_getElem _
    have hy : ys[i]? = some (ys[i]'(by omega)) := Array.getElem?_eq_getElem _
    refine codeAny_builtin PySem.F.entry_extend_loop ?_
    rw [Around.under_plainId PySem.F.plain_extend_loop _]
    show wpAny _ A.in1 (pyNext (.ref z) >>= _) _ _ _
    refine wpAny_bind (zs_item (s := { s with heap := h, toks := tk }) (lo := S) D hst hG hx hy fun h' hst' ht hkp => ?_)
    dsimp only at ht hkp hst' ⊢
    have hS' := hkp S _ n1.symm n3.symm n4.symm n5.symm hS
    have up : ∀ b o, b ≠ S → h'.get? b = some o → (h'.update S (Obj.mapSeq (·.push (Value.ref h.objs.size)))).get? b = some o := fun b o hb e => (Heap.get?_update_other _ _ (Ne.symm hb)).trans e
    have hSl : S < h.objs.size := Heap.lt_size hS
    show wpAny _ A.in1 (updateSeq S (·.push (Value.ref h.objs.size)) >>= _) _ _ _
    refine wpAny_bind ?_
    refine wpAny_updateSeq hS' rfl (wpAny_pure ⟨plainId_quiet PySem.F.plain_extend_loop _, ih (i + 1) _ tk _ (acc.push (Value.ref h.objs.size)) (as ++ [h.objs.size]) (by omega) hlt (hst'.keep up ne)
      (fun b o h1 h2 h3 h4 h5 e => up b o h1 (hkp b o h2 h3 h4 h5 (hkeep b o h1 h2 h3 h4 h5 e))) (Heap.get?_update_self _ hS' rfl) (by rw [Array.toList_push, hacc, List.map_append]; rfl) (by rw [List.length_append, hal]; rfl) ⟨?_, ?_, ?_⟩⟩) (by rw [hsz]; omega) (by show (acc.push (Value.ref h.objs.size)).size ≤ sizeLine + 1; rw [Array.size_push, hsz]; omega)
    · refine List.pairwise_append.mpr ⟨hG.rise, List.pairwise_singleton _ _, fun a ha b hb => ?_⟩
      rw [List.mem_singleton.mp hb]
      exact hG.there ha
    · intro a ha
      rcases List.mem_append.mp ha with ha | ha
      · exact hG.above a ha
      · rw [List.mem_singleton.mp ha]; exact hSl
    · intro j b hj
      rcases Nat.lt_trichotomy j as.length with h1 | h1 | h1
      · rw [List.getElem?_append_left h1] at hj
        obtain ⟨x', y', e1, e2, e3⟩ := hG.pairs j b hj
        have hb := hG.above b (List.mem_of_getElem? hj)
        exact ⟨x', y', e1, e2, up b _ (Nat.ne_of_gt hb) (hkp b _ (Nat.ne_of_gt (Nat.lt_trans m1 hb)) (Nat.ne_of_gt (Nat.lt_trans m2 hb)) (Nat.ne_of_gt (Nat.lt_trans m3 hb)) (Nat.ne_of_gt (Nat.lt_trans m4 hb)) e3)⟩
      · subst h1
        have hb : h.objs.size = b := by simpa using hj
        subst hb
        subst hal
        exact ⟨_, _, hx, hy, up _ _ (Nat.ne_of_gt hSl) ht⟩
      · have hnone : (as ++ [h.objs.size])[j]? = none := List.getElem?_eq_none (by rw [List.length_append, List.length_singleton]; omega)
        rw [hnone] at hj; cases hj
theorem nolen_zip : typeLookup (.type "zip") "__len__" = pure none := by rw [typeLookup_type, builtinLookup_eq_fast]; kernel_rfl
theorem nohint_zip : typeLookup (.type "zip") "__length_hint__" = pure none := by rw [typeLookup_type, builtinLookup_eq_fast]; kernel_rfl
theorem zl_extend {R : Result → Shared → Prop} {S z TI TO i1 i2 l1 l2 : Addr} {xs ys : Array Value} {n : Nat} (hh : A.handled = none) (D : ZipApart z TI TO i1 i2 l1 l2) (ne : z ≠ S ∧ TI ≠ S ∧ TO ≠ S ∧ i1 ≠ S ∧ i2 ≠ S ∧ l1 ≠ S ∧ l2 ≠ S) (lt : z < S ∧ TO < S ∧ i1 < S ∧ i2 < S) (hnx : n ≤ xs.size) (hny : n ≤ ys.size) (hnm : n = xs.size ∨ n = ys.size) (hn : n ≤ sizeLine) (res : Value) (c₀ : Nat)
    (hz : IsZip s.heap z TI TO .none) (hTO : ∃ p q, IsPair s.heap TO p q) (hTI : IsPair s.heap TI (.ref i1) (.ref i2)) (h1 : s.heap.IsTupleIter i1 l1 0) (h2 : s.heap.IsTupleIter i2 l2 0) (hl1 : s.heap.IsTuple l1 xs) (hl2 : s.heap.IsTuple l2 ys) (hS : s.heap.get? S = some { cls := .type "list", data := .seq #[] c₀ })
    (hR : ∀ h' tk acc c as, (∀ b o, b ≠ S → b ≠ z → b ≠ TO → b ≠ i1 → b ≠ i2 → s.heap.get? b = some o → h'.get? b = some o) → h'.get? S = some { cls := .type "list", dict := none, data := .seq acc c, slots := #[] } → as.length = n → ZMade xs ys S h' as →
      acc.toList = as.map Value.ref → R (.ok (.ret res)) { s with heap := h', toks := tk }) :
    wpAny (model prog w) A.in1 (Builtin.List.listExtendWith (.ref S) (.ref z) res)
      (fun fin s' => match fin with | .done f => R (.ok f) s' | .again c' => c'.quiet = true ∧ codeAny (model prog w) A c' R s') (fun e s' => R (.error e) s') s := by
  have hT : s.TypeIs (.ref z) "zip" := ⟨_, hz, rfl⟩
  have st : ZSt z TI TO i1 i2 l1 l2 xs ys 0 [] s.heap := ⟨.inl ⟨hz, hTO⟩, hTI, h1, h2, hl1, hl2⟩
  have key : ∀ (h : Heap) (c₁ tk : Nat), (∀ b o, b ≠ S → s.heap.get? b = some o → h.get? b = some o) → h.get? S = some { cls := .type "list", data := .seq #[] c₁ } → codeAny (model prog w) A (.builtin "list.extend.loop" ⟨[.ref S, .ref z, res], []⟩) R { s with heap := h, toks := tk } := fun h c₁ tk hk hS₁ =>
    zl_loop (s := s) (h₁ := s.heap) hh D ne lt hnx hny hnm hn res hR n 0 h tk c₁ #[] [] (Nat.sub_zero _) (Nat.zero_le _) (st.keep hk ne) (fun b o hb _ _ _ _ e => hk b o hb e) hS₁ rfl rfl ⟨List.Pairwise.nil, (fun _ ha => nomatch ha), fun j a hj => by simp at hj⟩
  unfold Builtin.List.listExtendWith
  refine wpAny_bind (wpAny_typeOf (T := "zip") hT ?_)
  have g1 : Builtin.List.listSameRef (.ref S) (.ref z) = false := by simp [Builtin.List.listSameRef, ne.1.symm]
  have g2 : (Value.type "zip" == Value.type "list") = false := by decide
  have g3 : (Value.type "zip" == Value.type "tuple") = false := by decide
  simp only [g1, g2, g3, Bool.or_false, Bool.false_eq_true, if_false]
  refine wpAny_bind (wpAny_pyIter_zip hz ?_)
  refine wpAny_bind (wpAny_holding ?_)
  unfold Builtin.List.listLengthHint
  refine wpAny_bind (wpAny_specialOf hT nolen_zip ?_)
  show wpAny _ A.in1 (specialOf (Value.ref z) (Str.ofString "__length_hint__") >>= _) _ _ _
  refine wpAny_bind (wpAny_specialOf hT nohint_zip ?_)
  refine wpAny_pure ?_
  show wpAny _ A.in1 (rule "list.extend.makes-room" >>= fun _ => Builtin.List.listTouch (.ref S) >>= fun _ => again (.builtin "list.extend.loop" ⟨[.ref S, .ref z, res], []⟩)) _ _ _
  refine wpAny_bind (wpAny_rule ?_)
  refine wpAny_bind ?_
  show wpAny _ _ (updateSeq S (·.push .none) >>= fun _ => updateSeq S (·.pop)) _ _ _
  refine wpAny_bind (wpAny_updateSeq hS rfl ?_)
  have hS₂ := Heap.get?_update_self (Obj.mapSeq (·.push Value.none)) hS rfl
  refine wpAny_updateSeq (hz := by seq_fits) hS₂ rfl ?_
  have hS₃ := Heap.get?_update_self (Obj.mapSeq (·.pop)) hS₂ rfl
  refine wpAny_pure ⟨plainId_quiet F.plain_extend_loop _, key _ _ _ (fun b o hb e => ?_) hS₃⟩
  exact (Heap.get?_update_other _ _ (Ne.symm hb)).trans ((Heap.get?_update_other _ _ (Ne.symm hb)).trans e)
theorem zl_call {Q : Value → Shared → Prop} {z TI TO i1 i2 l1 l2 : Addr} {xs ys : Array Value} {n : Nat} (hh : A.handled = none) (D : ZipApart z TI TO i1 i2 l1 l2) (hnx : n ≤ xs.size) (hny : n ≤ ys.size) (hnm : n = xs.size ∨ n = ys.size) (hn : n ≤ sizeLine)
    (hz : IsZip s.heap z TI TO .none) (hTO : ∃ p q, IsPair s.heap TO p q) (hTI : IsPair s.heap TI (.ref i1) (.ref i2)) (h1 : s.heap.IsTupleIter i1 l1 0) (h2 : s.heap.IsTupleIter i2 l2 0) (hl1 : s.heap.IsTuple l1 xs) (hl2 : s.heap.IsTuple l2 ys)
    (hQ : ∀ h' tk acc c as, (∀ b o, b ≠ z → b ≠ TO → b ≠ i1 → b ≠ i2 → s.heap.get? b = some o → h'.get? b = some o) → h'.get? s.heap.objs.size = some { cls := .type "list", dict := none, data := .seq acc c, slots := #[] } → as.length = n → ZMade xs ys s.heap.objs.size h' as →
      acc.toList = as.map Value.ref → Q (.ref s.heap.objs.size) { s with heap := h', toks := tk }) :
    wpAny (model prog w) A (call (.type "list") [.ref z]) Q E s := by
  have lt : ∀ {b : Addr} {o : Obj}, s.heap.get? b = some o → b < s.heap.objs.size := fun e => Heap.lt_size e
  have q1 : z < s.heap.objs.size := lt hz
  have q2 : TI < s.heap.objs.size := lt hTI
  have q3 : TO < s.heap.objs.size := let ⟨_, _, e⟩ := hTO; lt e
  have q4 : i1 < s.heap.objs.size := let ⟨_, e, _⟩ := h1; lt e
  have q5 : i2 < s.heap.objs.size := let ⟨_, e, _⟩ := h2; lt e
  have q6 : l1 < s.heap.objs.size := let ⟨_, e, _⟩ := hl1; lt e
  have q7 : l2 < s.heap.objs.size := let ⟨_, e, _⟩ := hl2; lt e
  refine callType_codes (Q₁ := fun obj s₁ => obj = .ref s.heap.objs.size ∧ s₁ = { s with heap := s.heap.push { cls := .type "list", data := .seq #[] } }) F.called_list (F.typeCall_list_1 _) F.entry_list_init
    (code_list_new _ ⟨rfl, rfl⟩) fun obj s₁ h₁ => ?_
  obtain ⟨rfl, rfl⟩ := h₁
  have hS : (s.heap.push { cls := .type "list", data := .seq #[] }).get? s.heap.objs.size = some { cls := .type "list", data := .seq #[] } := Heap.get?_push_size _ rfl
  refine ⟨⟨_, hS, rfl⟩, F.args_list_init_2 _ _, ?_⟩
  show wpAny _ _ (do let old ← Builtin.List.listItems (.ref s.heap.objs.size); Builtin.List.listUpdate (.ref s.heap.objs.size) (fun _ => #[]); letGo old.toList.reverse; Builtin.List.listExtendWith (.ref s.heap.objs.size) (.ref z) .none) _ _ _
  refine wpAny_bind ?_
  unfold Builtin.List.listItems
  refine wpAny_bind (wpAny_seqItems hS rfl (wpAny_pure ?_))
  show wpAny _ _ (updateSeq s.heap.objs.size (fun _ => #[]) >>= fun _ => letGo (#[] : Array Value).toList.reverse >>= fun _ => Builtin.List.listExtendWith (.ref s.heap.objs.size) (.ref z) .none) _ _ _
  refine wpAny_bind (wpAny_updateSeq hS rfl ?_)
  have hS₂ := Heap.get?_update_self (Obj.mapSeq (fun _ => (#[] : Array Value))) hS rfl
  have oth : ∀ b o, s.heap.get? b = some o → ((s.heap.push { cls := .type "list", data := .seq #[] }).update s.heap.objs.size (Obj.mapSeq (fun _ => (#[] : Array Value)))).get? b = some o :=
    fun b o e => (Heap.get?_update_other _ _ (Nat.ne_of_gt (Heap.lt_size e))).trans (Heap.get?_push_of_some _ e)
  refine wpAny_bind (wpAny_letGo ?_)
  refine zl_extend (A := A.in1) (n := n) (c₀ := _) hh D ⟨Nat.ne_of_lt q1, Nat.ne_of_lt q2, Nat.ne_of_lt q3, Nat.ne_of_lt q4, Nat.ne_of_lt q5, Nat.ne_of_lt q6, Nat.ne_of_lt q7⟩ ⟨q1, q3, q4, q5⟩ hnx hny hnm hn .none (oth _ _ hz) (let ⟨p, q, e⟩ := hTO; ⟨p, q, oth _ _ e⟩) (oth _ _ hTI) (h1.at fun o e => oth _ o e) (h2.at fun o e => oth _ o e) (hl1.at fun o e => oth _ o e) (hl2.at fun o e => oth _ o e) hS₂ fun h' tk acc c as hk hS' hl hG hacc => ?_
  exact ⟨rfl, hQ h' tk acc c as (fun b o n1 n2 n3 n4 e => hk b o (Nat.ne_of_lt (Heap.lt_size e)) n1 n2 n3 n4 (oth b o e)) hS' hl hG hacc⟩
end
end Mi
set_option maxHeartbeats 1000000
namespace Mi
open PySem PySem.Spec L2
open PyProof.Rows hiding St
section
variable {X : Cx} {pins : List (Addr × Obj)} {σ : L2.St} {H : Hp} {s : Shared}
def updP (H : Hp) : List (Addr × V × V) → Hp
  | [] => H
  | p :: r => upd (updP H r) p.1 (.tup [p.2.1, p.2.2])
theorem updP_ne {a : Addr} : ∀ {ps : List (Addr × V × V)}, a ∉ ps.map (·.1) → updP H ps a = H a
  | [], _ => rfl
  | p :: r, h => by
    have h1 : a ≠ p.1 := fun e => h (by simp [e])
    have h2 : a ∉ r.map (·.1) := fun e => h (by simp only [List.map_cons]; exact List.mem_cons_of_mem _ e)
    show upd _ _ _ a = _
    rw [upd_ne h1]
    exact updP_ne h2
theorem lay_pairs (I : Inv X pins σ H s) {h' : Heap} (k : ∀ b o, s.heap.get? b = some o → h'.get? b = some o) : ∀ (ps : List (Addr × V × V)), (ps.map (·.1)).Nodup →
    (∀ p ∈ ps, s.heap.get? p.1 = none ∧ H p.1 = none ∧ ∃ u v, RelV p.2.1 u ∧ RelV p.2.2 v ∧ IsPair h' p.1 u v) →
    ∃ G : Heap, (∀ b o, G.get? b = some o → h'.get? b = some o) ∧ (∀ b o, G.get? b = some o → s.heap.get? b = some o ∨ b ∈ ps.map (·.1)) ∧ ∃ t, Inv X pins σ (updP H ps) { s with heap := G, toks := t }
  | [], _, _ => ⟨s.heap, k, fun b o e => .inl e, s.toks, I⟩
  | p :: r, hn, hp => by
    obtain ⟨n1, n2⟩ := List.nodup_cons.mp (by simpa using hn : (p.1 :: r.map (·.1)).Nodup)
    obtain ⟨G, g1, g2, t, J⟩ := lay_pairs I k r n2 fun q hq => hp q (List.mem_cons_of_mem _ hq)
    obtain ⟨a1, a2, u, v, ru, rv, a3⟩ := hp p List.mem_cons_self
    classical
    obtain ⟨G2, r1, r2⟩ := restrict h' fun b => decide (b = p.1 ∨ ∃ o, G.get? b = some o)
    have hG : G.get? p.1 = none := by
      cases q : G.get? p.1 with
      | none => rfl
      | some o =>
        rcases g2 _ _ q with z | z
        · rw [a1] at z; cases z
        · exact absurd z n1
    have inG : ∀ b o, G2.get? b = some o → b = p.1 ∨ ∃ o, G.get? b = some o := fun b o e => by
      by_cases c : b = p.1 ∨ ∃ o, G.get? b = some o
      · exact c
      · have z := r2 b (decide_eq_false c)
        rw [e] at z; cases z
    have J2 := J.laidN (h' := G2) (a := p.1) (o := .tup [p.2.1, p.2.2]) (t' := t) (fun b o e => (r1 b (decide_eq_true (.inr ⟨o, e⟩))).trans (g1 b o e)) hG ((updP_ne n1).trans a2)
      ⟨by show 2 ≤ sizeLine; decide, [u, v], .cons ru (.cons rv .nil), ⟨_, (r1 p.1 (decide_eq_true (.inl rfl))).trans a3, rfl, _, rfl⟩⟩
    refine ⟨G2, fun b o e => ?_, fun b o e => ?_, t, J2⟩
    · rw [← r1 b (decide_eq_true (inG b o e))]; exact e
    · rcases inG b o e with z | ⟨o', z⟩
      · exact .inr (by rw [z]; simp)
      · rcases g2 b o' z with y | y
        · have e2 := k _ _ y
          have e3 := (r1 b (decide_eq_true (.inr ⟨o', z⟩))).symm.trans e
          rw [e2] at e3
          exact .inl (y.trans e3)
        · exact .inr (by simp only [List.map_cons]; exact List.mem_cons_of_mem _ y)
def tLz (K : PySem.W.Frag) (t : TA) : TE := fun σ H Q => t σ H fun vs H1 => ∃ a b xs ys, vs = [.ref a, .ref b] ∧ SqT K H1 a xs ∧ SqT K H1 b ys ∧ min xs.length ys.length ≤ sizeLine ∧
  ∀ (as : List Addr) (S : Addr), as.length = min xs.length ys.length → as.Nodup → (∀ p ∈ as, H1 p = none ∧ p ≠ S) → H1 S = none → Q (.ref S) (upd (updP H1 (as.zip (xs.zip ys))) S (.lst (as.map V.ref)))
theorem vals_refs : ∀ (as : List Addr), Vals (as.map V.ref) (as.map Value.ref)
  | [] => .nil
  | a :: r => .cons rfl (vals_refs r)
theorem pe_lz {e e2 : Expr} {t : TA} {p q pz pos : Pos} (hc : X.calm = true) (hgL : Gl X "list") (hmL : X.mg "list" = none) (hgZ : Gl X "zip") (hmZ : X.mg "zip" = none) (ha : PA X [e, e2] t)
    (hs : starEach [e, e2] X.env = (false, eval e X.env) :: starEach [e2] X.env) (hpl : (backTo pz (starEach [e2] X.env)).any (·.1) = false) :
    PE X (.Call (.Name "list" p) [.Call (.Name "zip" q) [e, e2] [] pz] [] pos) (tLz X.K t) := by
  refine ⟨fun pins s σ H Q I h => ?_⟩
  refine Call_ (ld_blt I hgL hmL PyProof.Rows.boot_list ?_)
  refine PyProof.Rows.callWith_type1 (PyProof.Rows.args_cons ?_ rfl) rfl rfl
  refine Call_ (ld_blt I hgZ hmZ PyProof.Rows.boot_zip (PyProof.Rows.callWith_type1 (thn (ha.run pz pins s σ H _ I h) fun us s1 ⟨vs, H1, I1, r1, q1⟩ => ?_) hs hpl))
  obtain ⟨a, b, xs, ys, ex, hqx, hqy, hn, qq⟩ := q1
  subst ex
  cases r1 with
  | cons r rr =>
    cases rr with
    | cons r' rr =>
      cases rr
      cases r
      cases r'
      obtain ⟨its, rv, p1, _⟩ := I1.tuple hqx
      obtain ⟨its2, rv2, p2, _⟩ := I1.tuple hqy
      obtain ⟨o1, ho1, _⟩ := id p1
      obtain ⟨o2, ho2, _⟩ := id p2
      refine RZ.call_zipT (show s1.heap.IsTuple a its.toArray from p1) (show s1.heap.IsTuple b its2.toArray from p2) fun h' hz hTI hTO h1 h2 hsz hk => ?_
      refine PyProof.Rows.args_nil ?_
      have lx : its.toArray.size = xs.length := by rw [List.size_toArray, ← rv.length]
      have ly : its2.toArray.size = ys.length := by rw [List.size_toArray, ← rv2.length]
      refine zl_call (s := { s1 with heap := h' }) (n := min xs.length ys.length) (I1.ok.hd hc) (PySem.W.ktu_apart s1.heap.objs.size a b (Heap.lt_size ho1) (Heap.lt_size ho2)) (by rw [lx]; exact Nat.min_le_left _ _) (by rw [ly]; exact Nat.min_le_right _ _) (by rw [lx, ly]; omega) hn hz ⟨_, _, hTO⟩ hTI h1 h2
        (let ⟨o, z, y⟩ := p1; ⟨o, hk _ o z, y⟩) (let ⟨o, z, y⟩ := p2; ⟨o, hk _ o z, y⟩) fun hf tk acc c as k2 hS hl hG hacc => ?_
      have kp : ∀ b o, s1.heap.get? b = some o → hf.get? b = some o := fun b o z => by
        have zl := Heap.lt_size z
        exact k2 b o (Nat.ne_of_lt (Nat.lt_of_lt_of_le zl (Nat.le_add_right _ _))) (Nat.ne_of_lt (Nat.lt_of_lt_of_le zl (Nat.le_add_right _ _))) (Nat.ne_of_lt zl) (Nat.ne_of_lt (Nat.lt_of_lt_of_le zl (Nat.le_add_right _ _))) (hk b o z)
      have hle : s1.heap.objs.size ≤ h'.objs.size := by rw [hsz]; exact Nat.le_add_right _ _
      have hlz : as.length ≤ (xs.zip ys).length := by rw [List.length_zip, hl]; exact Nat.le_refl _
      have hmap : (as.zip (xs.zip ys)).map (·.1) = as := List.map_fst_zip hlz
      have hab : ∀ p ∈ as, s1.heap.objs.size ≤ p := fun p hp => Nat.le_trans hle (Nat.le_of_lt (hG.above p hp))
      have hnd : as.Nodup := hG.rise.imp fun z => Nat.ne_of_lt z
      obtain ⟨G, g1, g2, t1, J⟩ := lay_pairs I1 kp (as.zip (xs.zip ys)) (by rw [hmap]; exact hnd) fun p hp => by
        obtain ⟨j, hj⟩ := List.mem_iff_getElem?.mp hp
        obtain ⟨ha', hb'⟩ := List.getElem?_zip_eq_some.mp hj
        obtain ⟨hb1, hb2⟩ := List.getElem?_zip_eq_some.mp hb'
        have hm := List.mem_of_getElem? ha'
        obtain ⟨x, y, e1, e2', e3⟩ := hG.pairs j p.1 ha'
        obtain ⟨u, hu, ru⟩ := rv.get hb1
        obtain ⟨v, hv, rv'⟩ := rv2.get hb2
        have e1' : its[j]? = some x := by simpa using e1
        have e2'' : its2[j]? = some y := by simpa using e2'
        rw [hu] at e1'
        rw [hv] at e2''
        cases e1'
        cases e2''
        exact ⟨Heap.get?_none_of_le (hab _ hm), I1.hok.fresh (hab _ hm), _, _, ru, rv', e3⟩
      have hSn : h'.objs.size ∉ as := fun z => Nat.lt_irrefl _ (hG.above _ z)
      have hGS : G.get? h'.objs.size = none := by
        cases z : G.get? h'.objs.size with
        | none => rfl
        | some o =>
          rcases g2 _ _ z with y | y
          · rw [Heap.get?_none_of_le hle] at y; cases y
          · rw [hmap] at y; exact absurd y hSn
      have J2 := J.laidN (h' := hf) (a := h'.objs.size) (o := .lst (as.map V.ref)) (t' := tk) g1 hGS ((updP_ne (by rw [hmap]; exact hSn)).trans (I1.hok.fresh hle))
        (show ObjOk X.prog X.w _ _ _ (.lst (as.map V.ref)) from ⟨by rw [List.length_map, hl]; exact hn, acc.toList, c, by rw [hacc]; exact vals_refs as, by rw [Array.toArray_toList]; exact hS⟩)
      exact ⟨.ref h'.objs.size, _, J2, rfl, qq as h'.objs.size hl hnd (fun p hp => ⟨I1.hok.fresh (hab p hp), Nat.ne_of_gt (hG.above p hp)⟩) (I1.hok.fresh hle)⟩
end
end Mi
set_option maxHeartbeats 1000000
namespace Mi
open PySem PySem.Spec L2
open PyProof.Rows hiding St
section
variable {K : PySem.W.Frag} {C : IC} {G H H2 G2 : Hp} {σ : L2.St} {S S2 : List Sl} {vs pp : List Nat}
theorem laid_pairs (p : Post K C G H H2 σ S S2 vs pp G2) : ∀ (as : List Addr) {ds es : List D} {us ws : List V}, Reps K G2 ds us → Reps K G2 es ws → as.length = min us.length ws.length → as.Nodup → (∀ a ∈ as, H2 a = none) →
    ∃ G3, Post K C G H (updP H2 (as.zip (us.zip ws))) σ S S2 vs pp G3 ∧ Same G2 G3 ∧ Reps K G3 (zipT ds es) (as.map V.ref)
  | [], ds, es, us, ws, r1, r2, hl, _, _ => by
    refine ⟨G2, p, Same.refl _, ?_⟩
    cases ds with
    | nil => exact rfl
    | cons d ds =>
      cases es with
      | nil => exact rfl
      | cons e es =>
        obtain ⟨u, us', rfl, _, _⟩ := r1
        obtain ⟨w, ws', rfl, _, _⟩ := r2
        simp at hl
  | a :: r, ds, es, us, ws, r1, r2, hl, hn, hh => by
    cases ds with
    | nil =>
      obtain rfl : us = [] := r1
      simp at hl
    | cons d ds =>
      cases es with
      | nil =>
        obtain rfl : ws = [] := r2
        simp at hl
      | cons e es =>
        obtain ⟨u, us', rfl, q1, q2⟩ := r1
        obtain ⟨w, ws', rfl, q3, q4⟩ := r2
        obtain ⟨n1, n2⟩ := List.nodup_cons.mp hn
        have hl' : r.length = min us'.length ws'.length := by simp only [List.length_cons] at hl; omega
        obtain ⟨G3, p3, s3, r3⟩ := laid_pairs p r q2 q4 hl' n2 fun b hb => hh b (List.mem_cons_of_mem _ hb)
        have hmap : (r.zip (us'.zip ws')).map (·.1) = r := List.map_fst_zip (by rw [List.length_zip, hl']; exact Nat.le_refl _)
        have hp : updP H2 (r.zip (us'.zip ws')) a = none := (updP_ne (by rw [hmap]; exact n1)).trans (hh a List.mem_cons_self)
        have sm := same_upd (o := HO.tup [u, w]) (p3.sub.free hp)
        exact ⟨_, p3.laid hp (o := .tup [u, w]), s3.trans sm, ⟨_, _, rfl, ⟨a, [u, w], rfl, SqT.of upd_same, ⟨u, _, rfl, q1.up (s3.trans sm), w, _, rfl, q3.up (s3.trans sm), rfl⟩⟩, r3.up sm⟩⟩
end
section
variable {X : Cx} {C : IC} {s : SC} {fn : FSpec → Prop} {mk : CSpec → Prop} {gl : Str → D → Prop} {kc : Str → Prop} {pos : Pos}
theorem je_lz (g : XG fn mk gl kc X s) {x z : Str} {e e2 : Expr} {p q pz : Pos} {a b : ME} (hx : x = ("list" : Str)) (hz : z = ("zip" : Str)) (gx : glB s x = true) (gz : glB s z = true) (n1 : noSt e = true) (n2 : noSt e2 = true) (ha : JE X C e a) (hb : JE X C e2 b) (hd : ∀ i ∈ pops b, i ∉ vars a) :
    JE X C (.Call (.Name x p) [.Call (.Name z q) [e, e2] [] pz] [] pos) (.lz a b) := by
  subst hx hz
  intro E tk
  have m1 : X.mg "list" = none := g.ko.blt _ (by decide)
  have m2 : X.mg "zip" = none := g.ko.blt _ (by decide)
  refine PE.imp (pe_lz (t := tCons _ (tCons _ tNil)) g.calm (g.glo gx).1 m1 (g.glo gz).1 m2 (pa_cons (ha E tk) (pa_cons (hb E tk) pa_nil (star_of n2)) (star_of n1)) (star_of n1) (by rw [star_of n2]; rfl)) fun σ H Qv h => ?_
  obtain ⟨G, S, Q, r, h, k⟩ := h
  refine rd_two (R := fun v1 v2 H2 => ∃ a b xs ys, [v1, v2] = [V.ref a, V.ref b] ∧ SqT X.K H2 a xs ∧ SqT X.K H2 b ys ∧ min xs.length ys.length ≤ sizeLine ∧
    ∀ (as : List Addr) (S : Addr), as.length = min xs.length ys.length → as.Nodup → (∀ p ∈ as, H2 p = none ∧ p ≠ S) → H2 S = none → Qv (.ref S) (upd (updP H2 (as.zip (xs.zip ys))) S (.lst (as.map V.ref)))) hd r h fun d1 d2 S2 v1 v2 H2 G2 p r1 r2 q2 => ?_
  obtain ⟨ds, es, rfl, rfl, hl, qq⟩ := q2
  obtain ⟨a1, us, rfl, t1, t2⟩ := id r1
  obtain ⟨a2, ws, rfl, t3, t4⟩ := id r2
  refine ⟨a1, a2, us, ws, rfl, SqT.up p.sub t1, SqT.up p.sub t3, ?_, fun as Sa hla hna hfa hS => ?_⟩
  · rw [← t2.len, ← t4.len]; exact hl
  · obtain ⟨G3, p3, s3, r3⟩ := laid_pairs p as t2 t4 hla hna fun b hb => (hfa b hb).1
    have hmap : (as.zip (us.zip ws)).map (·.1) = as := List.map_fst_zip (by rw [List.length_zip, hla]; exact Nat.le_refl _)
    have hSn : Sa ∉ as := fun z => (hfa Sa z).2 rfl
    exact Kt.lst (Q := Q) (fun d S2 v H3 G3 p => k d S2 v H3 G3 (p.mono (by simp [vars]) (by simp [pops]))) p3 r3 ((updP_ne (by rw [hmap]; exact hSn)).trans hS) qq
end
end Mi
set_option maxHeartbeats 1000000
namespace Mi
open PySem PySem.Spec L2
open PyProof.Rows hiding St
def rdO (K : PySem.W.Frag) (C : IC) (m : ME) (E : XS) : TO := fun σ H Qv => ∃ G S Q, Rel K C G H σ S ∧ (W m).v S Q E ∧
  ∀ d S2 H2, Post K C G H H2 σ S S2 (vars m) (pops m) G → Q d S2 → ∃ l, partOf m d = some l ∧ Qv l H2
theorem PO.imp {X : Cx} {e : Option Expr} {t t' : TO} (h : PO X e t) (i : ∀ σ H Q, t' σ H Q → t σ H Q) : PO X e t' := ⟨fun pins s σ H Q I hw => h.run pins s σ H Q I (i σ H Q hw)⟩
section
variable {X : Cx} {C : IC} {s : SC} {fn : FSpec → Prop} {mk : CSpec → Prop} {gl : Str → D → Prop} {kc : Str → Prop} {pos pos' p apos p2 : Pos}
def JO (X : Cx) (C : IC) (e : Option Expr) (m : ME) : Prop := ∀ E : XS, Takes X (liftX X.K C E) → PO X e (rdO X.K C m E)
theorem jo_none : JO X C none .nop := fun E tk => PO.imp po_none fun σ H Qv q => by
  obtain ⟨G, S, Q, r, q, k⟩ := q
  obtain ⟨l, e, z⟩ := k .non S H (Post.same r) q
  cases e
  exact z
theorem jo_some {e : Expr} {m : ME} (hm : isNop m = false) (h : JE X C e m) : JO X C (some e) m := fun E tk => PO.imp (po_some (h E tk)) fun σ H Qv q => by
  obtain ⟨G, S, Q, r, q, k⟩ := q
  refine ⟨G, S, Q, r, q, fun d S2 v H2 G2 p rv qq => ?_⟩
  obtain ⟨l, e, z⟩ := k d S2 H2 p.flat qq
  unfold partOf at e
  split at e
  · cases hm
  · cases e
    exact ⟨_, rv, z⟩
  · cases e
theorem je_slc {x : Expr} {l h : Option Expr} {a lo hi : ME} (d2 : ∀ i ∈ pops lo, i ∉ vars a) (d3 : ∀ i ∈ pops hi, i ∉ vars a) (ha : JE X C x a) (hl : JO X C l lo) (hh : JO X C h hi) : JE X C (.Subscript x (.Slice l h none p2) pos) (.slc a lo hi) := by
  intro E tk
  refine PE.imp (pe_slice (SlR.or sl_tupA sl_list) (ha E tk) (hl E tk) (hh E tk)) fun σ H Qv q => ?_
  obtain ⟨G, S, Q, r, q, k⟩ := q
  refine ⟨G, S, _, r, q, fun d S1 v H1 G1 p1 rv q1 => ?_⟩
  refine ⟨G, S1, _, p1.rel, q1, fun dl S2 H2 p2 q2 => ?_⟩
  obtain ⟨l', e1, q2⟩ := q2
  refine ⟨l', e1, G, S2, _, p2.rel, q2, fun dh S3 H3 p3 q3 => ?_⟩
  obtain ⟨h', e2, q3⟩ := q3
  have p12 := p1.trans (p2.flat (ws := [])) d2
  have p13 := p12.trans (p3.flat (ws := [])) fun i hi' z => d3 i hi' (by simpa using z)
  exact ⟨h', e2, slc_ok k (p13.mono (fun i hi => by simp [vars] at hi ⊢; exact .inl hi) (fun i hi => by simpa [pops] using hi)) (rv.up (joinG_left.trans joinG_left)) q3⟩
theorem pyAll_get : ∀ (ds : List D) (m : Nat), (pyAll ds)[m]? = (ds[m]?).map D.py
  | [], m => by simp [pyAll]
  | d :: r, 0 => by simp [pyAll]
  | d :: r, m + 1 => by simpa [pyAll] using pyAll_get r m
theorem ixAt_seq (n : Nat) (i : Int) : ixAt n i = seqIndex? i n := by
  unfold ixAt seqIndex?
  by_cases h : 0 ≤ i
  · have h2 : ¬ i < 0 := by omega
    simp only [h, h2, if_true, if_false]
    by_cases h3 : i < n
    · simp [h3, h]
    · simp [h3]
  · have h2 : i < 0 := by omega
    simp only [h, h2, if_true, if_false]
    by_cases h3 : -(n : Int) ≤ i
    · simp [h3]; omega
    · simp [h3]; omega
/-- d.get(k, x), l.index(x) -/
theorem je_bm (g : XG fn mk gl kc X s) {b : BM} {x : Expr} {m : Str} {es : List Expr} {o as : ME} (hn : bmName b = m) (hp : plainO x = true) (hl : (apos.endLine == pos.line) = true) (hle : es.length = bmAr b) (ho : JE X C x o) (hd : ∀ i ∈ pops as, i ∉ vars o) (h : JL X C es as) : JE X C (.Call (.Attribute x m apos) es [] pos) (.bm b o as) := by
  subst hn
  have hu := g.un
  have few : ((backTo pos (starEach es X.env)).all (fun x => !x.1) && (backToKw pos (keywordEach [] X.env)).all (fun x => x.1.isSome) && decide (es.length + ([] : List Keyword).length + (if ([] : List Keyword).isEmpty then 0 else 1) < 30)) = true := by
    rw [h.backall pos X.env]
    show (true && true && decide (es.length + 0 + 0 < 30)) = true
    exact decide_eq_true (by rw [hle]; cases b <;> decide)
  intro E tk
  cases b with
  | dget2 =>
    match es, hle, h, few with
    | [e, f], _, h, few =>
      obtain ⟨a, r, rfl, s1, h1, d1, h2⟩ := h.tail
      obtain ⟨a2, r2, rfl, s2, h3, d2, h4⟩ := h2.tail
      obtain rfl := h4.none
      have st : starEach [e, f] X.env = [(false, eval e X.env), (false, eval f X.env)] := by rw [star_of s1, star_of s2]; rfl
      refine PE.imp (pe_dget2 (by omega) (ho E tk) (h1 E tk) (h3 E tk) ⟨whole_of hp, few, hl, by rw [st]; rfl⟩) fun σ H Qv q => ?_
      obtain ⟨G, S, Q, r, q, k⟩ := q
      refine ⟨G, S, _, r, q, fun d S1 v H1 G1 p1 rv q1 => ?_⟩
      obtain ⟨qh, q1⟩ := q1
      have p1' := p1
      cases d <;> simp only [BM.hd, Bool.false_eq_true] at qh
      rename_i ks ws
      obtain ⟨ad, kvs, rfl, e1, e2, e3⟩ := id rv
      refine ⟨ad, rfl, .inl ⟨kvs, e1.elim (fun z => .inl (p1.sub _ _ z)) (fun ⟨o, z⟩ => .inr ⟨o, p1.sub _ _ z⟩)⟩, ?_⟩
      refine ⟨G, S1, _, p1.rel, q1, fun d1' S2 v2 H2 G2 p2 rv2 q2 => ?_⟩
      refine ⟨G, S2, _, p2.rel, q2, fun d2' S3 v3 H3 G3 p3 rv3 q3 => ?_⟩
      have dd : ∀ i ∈ pops a2, i ∉ vars a := dsj_out d1 |> fun z i hi => z i (by simpa [pops] using hi)
      have p23 := p2.trans p3 dd
      have hd' : ∀ i ∈ pops a ++ pops a2, i ∉ vars o := fun i hi => hd i (by simpa [pops] using hi)
      have p123 := p1.trans p23 hd'
      have k2 := p2.keep1 p3 dd
      have k1 := p1.keep1 p23 hd'
      obtain ⟨qk, qq⟩ := (q3 : d1'.isKey = true ∧ _)
      have u1 : Same G1 (joinG G1 (joinG G2 G3)) := joinG_left
      have u23 : Same (joinG G2 G3) (joinG G1 (joinG G2 G3)) := joinG_right k1 p23.sub
      obtain ⟨a', o', ea, gg, z1, z2⟩ := dget_of qk (rv.up u1) (rv2.up (joinG_left.trans u23)) p123.sub
      cases ea
      refine ⟨o', gg, ?_⟩
      have pf := p123.mono (ws := vars (.bm .dget2 o (.acons a (.acons a2 .anil)))) (qq := pops (.bm .dget2 o (.acons a (.acons a2 .anil)))) (fun i hi => by simpa [vars] using hi) (fun i hi => by simpa [pops] using hi)
      cases o' with
      | none =>
        rw [z2 rfl] at qq
        exact k d2' S3 v3 H3 _ pf (rv3.up ((joinG_right k2 p3.sub).trans u23)) qq
      | some w =>
        obtain ⟨j, dj, y1, y2, y3⟩ := z1 w rfl
        rw [y1] at qq
        have e5 : ws.getD j d2' = dj := by simp [List.getD, y2]
        simp only [e5] at qq
        exact k dj S3 w H3 _ pf y3 qq
  | dget1 =>
    match es, hle, h, few with
    | [e], _, h, few =>
      obtain ⟨a, rfl, h1⟩ := h.one
      obtain ⟨_, _, _, s1, _⟩ := h.tail
      have st : starEach [e] X.env = [(false, eval e X.env)] := by rw [star_of s1]; rfl
      refine PE.imp (pe_dget1 (by omega) (ho E tk) (h1 E tk) ⟨whole_of hp, few, hl, by rw [st]; rfl⟩) fun σ H Qv q => ?_
      obtain ⟨G, S, Q, r, q, k⟩ := q
      refine ⟨G, S, _, r, q, fun d S1 v H1 G1 p1 rv q1 => ?_⟩
      obtain ⟨qh, q1⟩ := q1
      cases d <;> simp only [BM.hd, Bool.false_eq_true] at qh
      rename_i ks ws
      obtain ⟨ad, kvs, rfl, e1, e2, e3⟩ := id rv
      refine ⟨ad, rfl, .inl ⟨kvs, e1.elim (fun z => .inl (p1.sub _ _ z)) (fun ⟨o, z⟩ => .inr ⟨o, p1.sub _ _ z⟩)⟩, ?_⟩
      refine ⟨G, S1, _, p1.rel, q1, fun d1' S2 v2 H2 G2 p2 rv2 q2 => ?_⟩
      have hd' : ∀ i ∈ pops a, i ∉ vars o := fun i hi => hd i (by simpa [pops] using hi)
      have p12 := p1.trans p2 hd'
      have k1 := p1.keep1 p2 hd'
      obtain ⟨qk, qq⟩ := (q2 : d1'.isKey = true ∧ _)
      obtain ⟨a', o', ea, gg, z1, z2⟩ := dget_of qk (rv.up joinG_left) (rv2.up (joinG_right k1 p2.sub)) p12.sub
      cases ea
      refine ⟨o', gg, ?_⟩
      have pf := p12.mono (ws := vars (.bm .dget1 o (.acons a .anil))) (qq := pops (.bm .dget1 o (.acons a .anil))) (fun i hi => by simpa [vars] using hi) (fun i hi => by simpa [pops] using hi)
      cases o' with
      | none =>
        rw [z2 rfl] at qq
        exact k .non S2 _ H2 _ pf rfl qq
      | some w =>
        obtain ⟨j, dj, y1, y2, y3⟩ := z1 w rfl
        rw [y1] at qq
        have e5 : ws.getD j .non = dj := by simp [List.getD, y2]
        simp only [e5] at qq
        exact k dj S2 w H2 _ pf y3 qq
  | lindex =>
    match es, hle, h, few with
    | [e], _, h, few =>
      obtain ⟨a, rfl, h1⟩ := h.one
      obtain ⟨_, _, _, s1, _⟩ := h.tail
      refine PE.imp (pe_bm PySem.F.plainAttrs_list PySem.F.slot_list_index PySem.F.type_list_index (mt_indexD hu) (ho E tk) (h.ja E tk) (whole_of hp) few hl (star_of s1) rfl) fun σ H Qv q => ?_
      obtain ⟨G, S, Q, r, q, k⟩ := q
      refine ⟨G, S, _, r, q, fun d S1 v H1 G1 p1 rv q1 => ?_⟩
      obtain ⟨qh, q1⟩ := q1
      cases d <;> simp only [BM.hd, Bool.false_eq_true] at qh
      rename_i ds
      obtain ⟨ad, us, rfl, e1, e2⟩ := id rv
      refine ⟨.inl ⟨rfl, us, SqL.of (p1.sub _ _ e1)⟩, ?_⟩
      refine ⟨G, S1, _, p1.rel, q1, fun ds' S2 us2 H2 G2 p2 rv2 q2 => ?_⟩
      have p12 := p1.trans p2 hd
      have k1 := p1.keep1 p2 hd
      match ds', rv2, q2 with
      | [z], ⟨v1, _, e5, r5, e6⟩, q2 =>
        have e6' : _ = [] := e6
        subst e6'
        subst e5
        obtain ⟨w1, w2, j, w3, q3⟩ := q2
        have hget := pyAll_get ds
        obtain ⟨hj, hj2, hj3⟩ := List.findIdx?_eq_some_iff_getElem.mp w3
        refine ⟨ad, v1, z.py, pyAll ds, j, ds[j].py, rfl, rfl, Rep.dp p12.sub (shp_lay w1) (rv.up joinG_left), Rep.dp p12.sub (shp_lay w2) (r5.up (joinG_right k1 p2.sub)), w1, w2, ?_, hj2, fun m z' hm hz' => ?_, ?_⟩
        · rw [hget, List.getElem?_eq_getElem hj]
          rfl
        · rw [hget, List.getElem?_eq_getElem (Nat.lt_trans hm hj)] at hz'
          cases hz'
          have := hj3 m hm
          simpa [D.eqv] using this
        · exact k (.int j) S2 _ H2 G (p12.flatm fun i hi => hi) rfl q3
/-- {} -/
theorem je_dsp : JE X C (.Dict [] [] pos) (.dsp .anil .anil) := by
  intro E tk
  refine PE.imp pe_dnewK fun σ H Qv q => ?_
  obtain ⟨G, S, Q, r, q, k⟩ := q
  intro b hb
  exact Kt.dct k (Post.same r) (kvs := []) (ws := []) rfl rfl hb q.2.2
theorem Post.shorten {K : PySem.W.Frag} {G H H2 G2 : Hp} {σ : L2.St} {S S2 : List Sl} {vs pp : List Nat} (q : Post K C G H H2 σ S S2 vs pp G2) {i : Nat} {ds ds' : List D} {b : Addr} {us' : List V} (h : S2[i]? = some (.ow (.lst ds))) (e : σ[i]? = some (some (.ref b))) (hr : Reps K G ds' us') (hi : i ∈ pp) : Post K C G H (upd H2 b (.lst us')) σ S (S2.set i (.ow (.lst ds'))) vs pp G := by
  have hl := (List.getElem?_eq_some_iff.mp h).1
  have rr : Rel K C G (upd H2 b (.lst us')) σ (S2.set i (.ow (.lst ds'))) := q.rel.write h e ⟨us', upd_same, hr⟩
  refine ⟨q.r0, rr, rr.sub, Same.refl _, fun a o z => .inl z, fun a o z nh np => ?_, ?_⟩
  · rw [upd_ne fun ea => np i hi ((knd_own q.knd i).mp ⟨_, h, rfl⟩) (by rw [ea]; exact e)]
    exact q.frm a o z nh np
  · rw [← q.knd]
    refine List.ext_getElem? fun j => ?_
    rw [List.getElem?_map, List.getElem?_map]
    by_cases ej : i = j
    · subst ej
      rw [List.getElem?_set_self hl, h]
      rfl
    · rw [List.getElem?_set_ne ej]
theorem getO_ow {S : List Sl} {i : Nat} {d : D} (h : getO S i = some d) : S[i]? = some (.ow d) := by
  unfold getO at h
  cases q : S[i]? with
  | none => rw [q] at h; cases h
  | some s =>
    rw [q] at h
    cases s <;> simp at h
    subst h
    rfl
theorem je_pop (g : XG fn mk gl kc X s) {i : Nat} {x m : Str} (hm : m = ("pop" : Str)) (hv : visB s i x = true) (hl : (apos.endLine == pos.line) = true) : JE X C (.Call (.Attribute (.Name x p) m apos) [] [] pos) (.pop i) := by
  subst hm
  obtain ⟨v1, v2, v3, v4⟩ := g.vis hv
  intro E tk
  refine PE.imp (pe_bm0 PySem.F.plainAttrs_list PySem.F.slot_list_pop PySem.F.type_list_pop mt_pop (pe_var v1 v2 v3 v4) rfl hl) fun σ H Qv q => ?_
  obtain ⟨G, S, Q, r, ⟨ds, d, h1, h2, q⟩, k⟩ := q
  have h := getO_ow h1
  obtain ⟨b, e1, e2, e3, us, e4, e5⟩ := r.sl i _ h
  refine ⟨_, e1, .inl ⟨rfl, us, SqL.of e4⟩, ?_⟩
  have e6 : ds[ds.length - 1]? = some d := by rw [← h2, List.getLast?_eq_getElem?]
  obtain ⟨y, e7, e8⟩ := e5.get e6
  refine ⟨b, us, y, rfl, rfl, e4, by rw [← e5.len]; exact e7, ?_⟩
  exact k d _ y _ G ((Post.same r).shorten (vs := []) (pp := [i]) h e1 e5.dropLast (by simp)) e8 q
theorem je_popAt (g : XG fn mk gl kc X s) {i : Nat} {x m : Str} {y : Expr} {a : ME} (hm : m = ("pop" : Str)) (hv : visB s i x = true) (hl : (apos.endLine == pos.line) = true) (hs : noSt y = true) (ha : JE X C y a) : JE X C (.Call (.Attribute (.Name x p) m apos) [y] [] pos) (.popAt i a) := by
  subst hm
  obtain ⟨v1, v2, v3, v4⟩ := g.vis hv
  have st : starEach [y] X.env = [(false, eval y X.env)] := by rw [star_of hs]; rfl
  intro E tk
  refine PE.imp (pe_bm PySem.F.plainAttrs_list PySem.F.slot_list_pop PySem.F.type_list_pop mt_popAt (pe_var v1 v2 v3 v4) (pa_cons (ha E tk) pa_nil (star_of hs)) rfl (by rw [st]; rfl) hl (star_of hs) rfl) fun σ H Qv q => ?_
  obtain ⟨G, S, Q, r, ⟨⟨ds0, h0⟩, q⟩, k⟩ := q
  have hS := getO_ow h0
  obtain ⟨b, e1, e2, e3, us0, e4, e5⟩ := r.sl i _ hS
  refine ⟨_, e1, .inl ⟨rfl, us0, SqL.of e4⟩, ?_⟩
  refine ⟨G, S, _, r, q, fun d S2 v H2 G2 p rv qq => ?_⟩
  obtain ⟨n, ds, j, z, rfl, h1, h2, h3, h4, h5, q⟩ := qq
  have h := getO_ow h1
  obtain ⟨b', f1, f2, f3, us, f4, f5⟩ := p.rel.sl i _ h
  rw [e1] at f1
  cases f1
  cases rv
  obtain ⟨w, h6, h7⟩ := f5.get h5
  refine ⟨b, us, n, j, w, rfl, rfl, f4, h2, h3, by rw [← f5.len, ← ixAt_seq]; exact h4, h6, ?_⟩
  exact k z _ w _ G ((p.mono (ws := vars (.popAt i a)) (qq := pops (.popAt i a)) (fun j hj => hj) (fun j hj => List.mem_cons_of_mem _ hj)).shorten h e1 (f5.erase j) List.mem_cons_self) h7 q
end
end Mi
set_option maxHeartbeats 1000000
namespace Mi
open PySem PySem.Spec L2
open PyProof.Rows hiding St

structure TgEnd (K : PySem.W.Frag) (C : IC) (G H : Hp) (vs : List Nat) (σ σ2 : L2.St) (S S2 : List Sl) : Prop where
  rel : Rel K C G H σ2 S2
  own : ∀ j, Own S2 j → Own S j
  hs : ∀ a, hs S2 a → hs S a
  same : ∀ j, j ∉ vs → S2[j]? = S[j]?
  wipe : ∀ ws, (∀ i ∈ vs, i ∈ ws) → wipe σ2 ws = wipe σ ws
theorem TgEnd.refl {K : PySem.W.Frag} {C : IC} {G H : Hp} {σ : L2.St} {S : List Sl} (r : Rel K C G H σ S) : TgEnd K C G H [] σ σ S S := ⟨r, fun _ h => h, fun _ h => h, fun _ _ => rfl, fun _ _ => rfl⟩
theorem TgEnd.trans {K : PySem.W.Frag} {C : IC} {G H : Hp} {vs ws : List Nat} {σ σ1 σ2 : L2.St} {S S1 S2 : List Sl} (a : TgEnd K C G H vs σ σ1 S S1) (b : TgEnd K C G H ws σ1 σ2 S1 S2) : TgEnd K C G H (vs ++ ws) σ σ2 S S2 :=
  ⟨b.rel, fun j h => a.own j (b.own j h), fun j h => a.hs j (b.hs j h), fun j h => (b.same j fun z => h (List.mem_append_right _ z)).trans (a.same j fun z => h (List.mem_append_left _ z)),
    fun zs h => (b.wipe zs fun i hi => h i (List.mem_append_right _ hi)).trans (a.wipe zs fun i hi => h i (List.mem_append_left _ hi))⟩
theorem wipe_set {σ : L2.St} {i : Nat} {x : Option V} : ∀ {ws : List Nat}, i ∈ ws → wipe (σ.set i x) ws = wipe σ ws
  | [], h => by cases h
  | w :: ws, h => by
    have go : ∀ (vs : List Nat), wipe (σ.set i x) vs = wipe σ vs ∨ wipe (σ.set i x) vs = (wipe σ vs).set i x := fun vs => by
      induction vs with
      | nil => exact .inr rfl
      | cons v vs ih =>
        show (wipe (σ.set i x) vs).set v none = (wipe σ vs).set v none ∨ (wipe (σ.set i x) vs).set v none = ((wipe σ vs).set v none).set i x
        rcases ih with e | e
        · rw [e]; exact .inl rfl
        · rw [e]
          by_cases ev : i = v
          · subst ev
            rw [List.set_set]
            exact .inl rfl
          · exact .inr (List.set_comm _ _ ev)
    show (wipe (σ.set i x) ws).set w none = (wipe σ ws).set w none
    by_cases ew : i = w
    · subst ew
      rcases go ws with e | e
      · rw [e]
      · rw [e, List.set_set]
    · rw [wipe_set (List.mem_of_ne_of_mem ew h)]
def rdG (K : PySem.W.Frag) (C : IC) (g : TG) : L2.TG := fun v σ H N => ∃ G S Q d, Rel K C G H σ S ∧ Rep K G d v ∧ tgW g d S Q ∧ ∀ σ2 S2, TgEnd K C G H (gvars g) σ σ2 S S2 → Q S2 → N σ2 H
def rdGs (K : PySem.W.Frag) (C : IC) (g : TG) : L2.TGs := fun vs σ H N => ∃ G S Q ds, Rel K C G H σ S ∧ Reps K G ds vs ∧ tgsW g ds S Q ∧ ∀ σ2 S2, TgEnd K C G H (gvars g) σ σ2 S S2 → Q S2 → N σ2 H
theorem PG.imp {X : Cx} {e : Expr} {t t' : L2.TG} (h : PG X e t) (i : ∀ v σ H Q, t' v σ H Q → t v σ H Q) : PG X e t' := ⟨fun pins s σ H v u Q I r hw => h.run pins s σ H v u Q I r (i v σ H Q hw)⟩
theorem PGs.imp {X : Cx} {e : List Expr} {t t' : L2.TGs} (h : PGs X e t) (i : ∀ v σ H Q, t' v σ H Q → t v σ H Q) : PGs X e t' := ⟨fun pins s σ H v u Q I r hw => h.run pins s σ H v u Q I r (i v σ H Q hw)⟩
section
variable {X : Cx} {C : IC} {s : SC} {fn : FSpec → Prop} {mk : CSpec → Prop} {gl : Str → D → Prop} {kc : Str → Prop} {pos pos' p apos p2 : Pos}
theorem XG.loc (g : XG fn mk gl kc X s) {i : Nat} {x : Str} (h : locB s i x = true) : X.N[i]? = some x ∧ L2.Loc X.env.scope x ∧ (X.fn x = true ∨ X.env.scope.names.lookup x = some .local) := by
  unfold locB at h
  obtain ⟨h1, h2⟩ := and_of h
  have e : X.env.scope.names.lookup x = s.sc.names.lookup x := by rw [g.sc]
  refine ⟨by rw [g.N]; exact of_decide_eq_true h1, ?_⟩
  unfold L2.Loc
  rw [e, g.fnn]
  cases q : s.sc.names.lookup x with
  | none => rw [q] at h2; cases h2
  | some k =>
    rw [q] at h2
    cases k with
    | «local» => exact ⟨.inl rfl, .inr rfl⟩
    | cell => exact ⟨.inr rfl, .inl h2⟩
    | _ => cases h2
theorem pg_nm (g : XG fn mk gl kc X s) {i : Nat} {x : Str} (h : locB s i x = true) : PG X (.Name x pos) (rdG X.K C (.nm i)) := by
  obtain ⟨h1, h2, h3⟩ := g.loc h
  refine PG.imp (pg_name g.nd h1 h2 h3) fun v σ H N q => ?_
  obtain ⟨G, S, Q, d, r, rv, q, k⟩ := q
  refine k (σ.set i (some v)) (S.set i (.va d)) ⟨r.set_va i rv, fun j h => (own_set rfl h).1, fun a h => hs_set (fun _ _ z => by cases z) h, fun j hj => ?_, fun ws hw => wipe_set (hw i (by simp [gvars]))⟩ q
  rw [List.getElem?_set_ne (fun e => hj (by simp [gvars, e]))]
theorem asg_of {e : Expr} {es : List Expr} {env : Env} (h : noSt e = true) : assignEach (e :: es) env = (false, assign e env) :: assignEach es env := by
  cases e <;> first | rfl | cases h
theorem gs_len {s : SC} : ∀ {t : TG} {es : List Expr}, gsB s t es = true → es.length = glen t
  | .gnil, [], _ => rfl
  | .gnil, _ :: _, h => by simp [gsB] at h
  | .gcons a b, [], h => by simp [gsB] at h
  | .gcons a b, e :: es, h => by
    have h' : (noSt e && (gB s a e && gsB s b es)) = true := h
    obtain ⟨h1, h2⟩ := and_of h'
    obtain ⟨h3, h4⟩ := and_of h2
    rw [List.length_cons, gs_len h4]
    rfl
  | .nm _, es, h => by cases es <;> simp [gsB] at h
  | .tp _, es, h => by cases es <;> simp [gsB] at h
mutual
theorem pg_of (g : XG fn mk gl kc X s) : ∀ {t : TG} {e : Expr}, gB s t e = true → PG X e (rdG X.K C t)
  | .nm i, e, h => by
    cases e <;> simp only [gB, Bool.false_eq_true] at h
    exact pg_nm g h
  | .tp t, e, h => by
    cases e <;> simp only [gB, Bool.false_eq_true] at h
    rename_i es n pos
    obtain ⟨h1, h2, h3⟩ := pgs_of g h
    refine PG.imp (pg_tup (n := es.length) g.calm h1 h2 h3) fun v σ H N q => ?_
    obtain ⟨G, S, Q, d, r, rv, q, k⟩ := q
    obtain ⟨ds, rfl, q⟩ := (q : ∃ ds, d = .tup ds ∧ ds.length = glen t ∧ tgsW t ds S Q)
    obtain ⟨a, us, rfl, r1, r2⟩ := rv
    exact ⟨a, us, rfl, SqT.up r.sub r1, by rw [← r2.len, q.1]; exact (gs_len h).symm, G, S, Q, ds, r, r2, q.2, fun σ2 S2 t => k σ2 S2 t⟩
  | .gnil, e, h => by cases e <;> simp [gB] at h
  | .gcons _ _, e, h => by cases e <;> simp [gB] at h
theorem pgs_of (g : XG fn mk gl kc X s) : ∀ {t : TG} {es : List Expr}, gsB s t es = true → PGs X es (rdGs X.K C t) ∧ (assignEach es X.env).length = es.length ∧ (assignEach es X.env).findIdx? (·.1) = none
  | .gnil, es, h => by
    cases es with
    | nil =>
      refine ⟨PGs.imp pgs_nil fun v σ H N q => ?_, rfl, rfl⟩
      obtain ⟨G, S, Q, ds, r, rv, q, k⟩ := q
      obtain ⟨z, q⟩ := (q : ds = [] ∧ Q S)
      subst z
      exact ⟨rv, k σ S (TgEnd.refl r) q⟩
    | cons _ _ => simp [gsB] at h
  | .gcons a b, es, h => by
    cases es with
    | nil => simp [gsB] at h
    | cons e es =>
      have h' : (noSt e && (gB s a e && gsB s b es)) = true := h
      obtain ⟨h1, h2⟩ := and_of h'
      obtain ⟨h3, h4⟩ := and_of h2
      obtain ⟨p2, l2, f2⟩ := pgs_of (t := b) g h4
      have ea := asg_of (es := es) (env := X.env) h1
      refine ⟨PGs.imp (pgs_cons (pg_of (t := a) g h3) p2 (by rw [ea]; rfl)) fun v σ H N q => ?_, by rw [ea, List.length_cons, List.length_cons, l2], ?_⟩
      · obtain ⟨G, S, Q, ds, r, rv, q, k⟩ := q
        obtain ⟨d, rest, z, q⟩ := (q : ∃ d rest, ds = d :: rest ∧ tgW a d S fun S' => tgsW b rest S' Q)
        subst z
        obtain ⟨v1, us, rfl, r1, r2⟩ := rv
        exact ⟨v1, us, rfl, G, S, _, d, r, r1, q, fun σ2 S2 t2 q2 => ⟨G, S2, Q, rest, t2.rel, r2, q2, fun σ3 S3 t3 q3 => k σ3 S3 (t2.trans t3) q3⟩⟩
      · rw [ea, List.findIdx?_cons]
        simp [f2]
  | .nm _, es, h => by cases es <;> simp [gsB] at h
  | .tp _, es, h => by cases es <;> simp [gsB] at h
end
end
structure Steps (K : PySem.W.Frag) (G : Hp) (J : It) (items : List D) : Prop where
  go : ∀ (i : Nat) (d : D) (H : Hp), Same G H → items[i]? = some d → J.go i H
  yld : ∀ (i : Nat) (d : D) (H H' : Hp) (x : V), Same G H → items[i]? = some d → J.yld i H x H' → ∃ G', Same G G' ∧ Same G' H' ∧ Same H H' ∧ (∀ a o, G' a = some o → G a = some o ∨ H a = none) ∧ Rep K G' d x
  stop : ∀ H, Same G H → J.stop items.length H
theorem Steps.list {K : PySem.W.Frag} {G : Hp} {a : Addr} {us : List V} {ds : List D} (h : SqL K G a us) (up : ∀ H, Same G H → SqL K H a us) (r : Reps K G ds us) : Steps K G (Itl K a) ds := by
  refine ⟨fun i d H s e => ?_, fun i d H H' x s e y => ?_, fun H s => ⟨us, up H s, by rw [r.len]; exact Nat.le_refl _⟩⟩
  · obtain ⟨v, e1, _⟩ := r.get e
    exact ⟨us, v, up H s, e1⟩
  · obtain ⟨v, e1, e2⟩ := r.get e
    obtain ⟨rfl, y⟩ := y
    have z := y us (up _ s)
    rw [e1] at z
    cases z
    exact ⟨G, Same.refl _, s, Same.refl _, fun a o h => .inl h, e2⟩
theorem Steps.tup {K : PySem.W.Frag} {G : Hp} {a : Addr} {us : List V} {ds : List D} (h : SqT K G a us) (r : Reps K G ds us) : Steps K G (Itt K a) ds := by
  have up : ∀ H, Same G H → SqT K H a us := fun H s => SqT.up s h
  refine ⟨fun i d H s e => ?_, fun i d H H' x s e y => ?_, fun H s => ⟨us, up H s, by rw [r.len]; exact Nat.le_refl _⟩⟩
  · obtain ⟨v, e1, _⟩ := r.get e
    exact ⟨us, v, up H s, e1⟩
  · obtain ⟨v, e1, e2⟩ := r.get e
    obtain ⟨rfl, y⟩ := y
    have z := y us (up _ s)
    rw [e1] at z
    cases z
    exact ⟨G, Same.refl _, s, Same.refl _, fun a o h => .inl h, e2⟩
theorem Steps.rng {K : PySem.W.Frag} {G : Hp} (lo : Int) (n : Nat) : Steps K G (Itr lo n) ((List.range n).map fun (k : Nat) => D.int (lo + k)) := by
  refine ⟨fun i d H s e => ?_, fun i d H H' x s e y => ?_, fun H s => by simp [Itr]⟩
  · have := (List.getElem?_eq_some_iff.mp e).1
    have z : i < n := by simpa using this
    exact z
  · obtain ⟨rfl, rfl⟩ := y
    refine ⟨G, Same.refl _, s, Same.refl _, fun a o h => .inl h, ?_⟩
    have h := (List.getElem?_eq_some_iff.mp e).1
    have hl : i < n := by simpa using h
    have z : some (D.int (lo + (i : Nat))) = some d := by
      rw [← e]
      simp [hl]
    cases z
    exact rfl
theorem enum_get : ∀ (ds : List D) (n i : Nat), (enumFrom n ds)[i]? = (ds[i]?).map fun d => .tup [.int (n + i : Nat), d]
  | [], n, i => by simp [enumFrom]
  | d :: ds, n, 0 => by simp [enumFrom]
  | d :: ds, n, i + 1 => by
    have e := enum_get ds (n + 1) i
    simp only [enumFrom, List.getElem?_cons_succ, e]
    rw [show n + 1 + i = n + (i + 1) by omega]
theorem enum_len : ∀ (ds : List D) (n : Nat), (enumFrom n ds).length = ds.length
  | [], n => rfl
  | d :: ds, n => by simp [enumFrom, enum_len ds (n + 1)]
/-- a new tuple -/
theorem new_tup {K : PySem.W.Frag} {G H : Hp} {T : Addr} {us : List V} {ds : List D} (s : Same G H) (hT : H T = none) (r : Reps K G ds us) : ∃ G', Same G G' ∧ Same G' (upd H T (.tup us)) ∧ Same H (upd H T (.tup us)) ∧ (∀ a o, G' a = some o → G a = some o ∨ H a = none) ∧ Rep K G' (.tup ds) (.ref T) := by
  have gT := s.free hT
  refine ⟨upd G T (.tup us), same_upd gT, fun a o h => ?_, same_upd hT, fun a o h => ?_, T, us, rfl, SqT.of upd_same, r.up (same_upd gT)⟩
  · by_cases e : a = T
    · subst e; rw [upd_same] at h ⊢; exact h
    · rw [upd_ne e] at h ⊢; exact s a o h
  · by_cases e : a = T
    · subst e; exact .inr hT
    · rw [upd_ne e] at h; exact .inl h
theorem Steps.enL {K : PySem.W.Frag} {G : Hp} {a : Addr} {us : List V} {ds : List D} (up : ∀ H, Same G H → SqL K H a us) (r : Reps K G ds us) : Steps K G (Ite K a) (enumFrom 0 ds) := by
  refine ⟨fun i d H s e => ?_, fun i d H H' x s e y => ?_, fun H s => ⟨us, up H s, by rw [enum_len, r.len]; exact Nat.le_refl _⟩⟩
  · rw [enum_get] at e
    obtain ⟨d', e1, e2⟩ := Option.map_eq_some_iff.mp e
    obtain ⟨v, e3, _⟩ := r.get e1
    exact ⟨us, v, up H s, e3⟩
  · rw [enum_get] at e
    obtain ⟨d', e1, e2⟩ := Option.map_eq_some_iff.mp e
    obtain ⟨v, e3, e4⟩ := r.get e1
    obtain ⟨T, w, rfl, hT, rfl, y⟩ := y
    have z := y us (up H s)
    rw [e3] at z
    cases z
    subst e2
    exact new_tup s hT ⟨_, _, rfl, by rw [Nat.zero_add]; exact rfl, v, [], rfl, e4, rfl⟩
theorem Steps.enT {K : PySem.W.Frag} {G : Hp} {a : Addr} {us : List V} {ds : List D} (up : ∀ H, Same G H → SqT K H a us) (r : Reps K G ds us) : Steps K G (EnT.It' K a) (enumFrom 0 ds) := by
  refine ⟨fun i d H s e => ?_, fun i d H H' x s e y => ?_, fun H s => ⟨us, up H s, by rw [enum_len, r.len]⟩⟩
  · rw [enum_get] at e
    obtain ⟨d', e1, e2⟩ := Option.map_eq_some_iff.mp e
    obtain ⟨v, e3, _⟩ := r.get e1
    exact ⟨us, v, up H s, e3⟩
  · rw [enum_get] at e
    obtain ⟨d', e1, e2⟩ := Option.map_eq_some_iff.mp e
    obtain ⟨v, e3, e4⟩ := r.get e1
    obtain ⟨T, w, rfl, hT, rfl, y⟩ := y
    have z := y us (up H s)
    rw [e3] at z
    cases z
    subst e2
    exact new_tup s hT ⟨_, _, rfl, by rw [Nat.zero_add]; exact rfl, v, [], rfl, e4, rfl⟩
theorem zip_get : ∀ (as bs : List D) (i : Nat) (d : D), (zipT as bs)[i]? = some d → ∃ a b, as[i]? = some a ∧ bs[i]? = some b ∧ d = .tup [a, b]
  | [], bs, i, d, h => by simp [zipT] at h
  | a :: as, [], i, d, h => by simp [zipT] at h
  | a :: as, b :: bs, 0, d, h => by
    simp [zipT] at h
    exact ⟨a, b, rfl, rfl, h.symm⟩
  | a :: as, b :: bs, i + 1, d, h => by
    simp only [zipT, List.getElem?_cons_succ] at h ⊢
    exact zip_get as bs i d h
theorem zip_len : ∀ (as bs : List D), (zipT as bs).length = min as.length bs.length
  | [], bs => by simp [zipT]
  | a :: as, [] => by simp [zipT]
  | a :: as, b :: bs => by simp [zipT, zip_len as bs]
theorem Steps.zipL {K : PySem.W.Frag} {G : Hp} {a b : Addr} {us ws : List V} {ds es : List D} (up : ∀ H, Same G H → SqL K H a us) (up2 : ∀ H, Same G H → SqL K H b ws) (r : Reps K G ds us) (r2 : Reps K G es ws) : Steps K G (Itz K a b) (zipT ds es) := by
  refine ⟨fun i d H s e => ?_, fun i d H H' x s e y => ?_, fun H s => ⟨us, ws, up H s, up2 H s, by rw [zip_len, ← r.len, ← r2.len]; omega⟩⟩
  · obtain ⟨p, q, e1, e2, e3⟩ := zip_get _ _ _ _ e
    obtain ⟨v, e4, _⟩ := r.get e1
    obtain ⟨w, e5, _⟩ := r2.get e2
    exact ⟨us, ws, v, w, up H s, up2 H s, e4, e5⟩
  · obtain ⟨p, q, e1, e2, rfl⟩ := zip_get _ _ _ _ e
    obtain ⟨v, e4, r4⟩ := r.get e1
    obtain ⟨w, e5, r5⟩ := r2.get e2
    obtain ⟨T, v', w', rfl, hT, rfl, y, y2⟩ := y
    have z := y us (up H s)
    have z2 := y2 ws (up2 H s)
    rw [e4] at z
    rw [e5] at z2
    cases z
    cases z2
    exact new_tup s hT ⟨v, _, rfl, r4, w, [], rfl, r5, rfl⟩
theorem Steps.zipA {K : PySem.W.Frag} {G : Hp} {a b : Addr} {us ws : List V} {ds es : List D} (up : ∀ H, Same G H → SqT K H a us) (up2 : ∀ H, Same G H → SqT K H b ws) (r : Reps K G ds us) (r2 : Reps K G es ws) : Steps K G (RZ.ItzT K a b) (zipT ds es) := by
  refine ⟨fun i d H s e => ?_, fun i d H H' x s e y => ?_, fun H s => ⟨us, ws, up H s, up2 H s, by rw [zip_len, ← r.len, ← r2.len]; omega⟩⟩
  · obtain ⟨p, q, e1, e2, e3⟩ := zip_get _ _ _ _ e
    obtain ⟨v, e4, _⟩ := r.get e1
    obtain ⟨w, e5, _⟩ := r2.get e2
    exact ⟨us, ws, v, w, up H s, up2 H s, e4, e5⟩
  · obtain ⟨p, q, e1, e2, rfl⟩ := zip_get _ _ _ _ e
    obtain ⟨v, e4, r4⟩ := r.get e1
    obtain ⟨w, e5, r5⟩ := r2.get e2
    obtain ⟨T, v', w', rfl, hT, rfl, y, y2⟩ := y
    have z := y us (up H s)
    have z2 := y2 ws (up2 H s)
    rw [e4] at z
    rw [e5] at z2
    cases z
    cases z2
    exact new_tup s hT ⟨v, _, rfl, r4, w, [], rfl, r5, rfl⟩
theorem Steps.up {K : PySem.W.Frag} {G G2 : Hp} {J : It} {items : List D} (h : Steps K G J items) (u : Same G G2) : ∀ (i : Nat) (d : D) (H : Hp), Same G2 H → items[i]? = some d → J.go i H := fun i d H s e => h.go i d H (u.trans s) e
def rdI (K : PySem.W.Frag) (C : IC) (w : AW) (vs pp : List Nat) (E : XS) : TI := fun σ H R => ∃ G S Q, Rel K C G H σ S ∧ w S Q E ∧
  ∀ items S2 J H2 G2, Post K C G H H2 σ S S2 vs pp G2 → Steps K G2 J items → Q items S2 → R J H2
theorem PI.imp {X : Cx} {tg e : Expr} {t t' : TI} (h : PI X tg e t) (i : ∀ σ H Q, t' σ H Q → t σ H Q) : PI X tg e t' := ⟨fun pins s σ H R I hw => h.run pins s σ H R I (i σ H R hw)⟩
def JI (X : Cx) (C : IC) (tg e : Expr) (m : ME) : Prop := ∀ E : XS, Takes X (liftX X.K C E) → PI X tg e (rdI X.K C (W m).i (vars m) (pops m) E)
section
variable {X : Cx} {C : IC} {s : SC} {fn : FSpec → Prop} {mk : CSpec → Prop} {gl : Str → D → Prop} {kc : Str → Prop} {pos pos' p apos p2 : Pos} {tg : Expr}
def iSeq (K : PySem.W.Frag) (tl : TE) : TI := fun σ H R => tl σ H fun x H1 => ∃ a, x = .ref a ∧ ((∃ xs, SqL K H1 a xs ∧ R (Itl K a) H1) ∨ (∃ xs, SqT K H1 a xs ∧ R (Itt K a) H1) ∨ ∃ lo hi, H1 a = some (.rng lo hi) ∧ rngOk lo hi ∧ R (Itr lo (hi - lo).toNat) H1)
theorem pi_seq {l : Expr} {tl : TE} (hl : PE X l tl) : PI X tg l (iSeq X.K tl) := by
  refine ⟨fun pins s σ H R I h => ?_⟩
  refine thn (hl.run pins s σ H _ I h) fun v s1 ⟨x, H1, I1, r1, q1⟩ => ?_
  obtain ⟨a, e, q⟩ := q1
  subst e
  cases r1
  rcases q with ⟨xs, hq, q⟩ | ⟨xs, hq, q⟩ | ⟨lo, hi, hr, ⟨b1, b2, b3, b4⟩, q⟩
  · obtain ⟨its, rv, p, hz⟩ := I1.list hq
    refine wpAny_pyIter_list p.isList ?_
    refine ⟨s1.heap.objs.size, [s1.heap.objs.size], _, _, H1, rfl, I1.kept (t' := s1.toks) fun b o e => Heap.get?_push_of_some _ e, turn_list a _, ⟨_, Heap.get?_push_size _ rfl, rfl, rfl⟩, fun b hb => ?_, q⟩
    have e : b = s1.heap.objs.size := by simpa using hb
    subst e
    exact I1.fpOk (Nat.le_refl _) (I1.hok.fresh (Nat.le_refl _))
  · obtain ⟨its, rv, p, hz⟩ := I1.tuple hq
    refine wpAny_pyIter_tuple (show s1.heap.IsTuple a its.toArray from p) ?_
    refine ⟨s1.heap.objs.size, [s1.heap.objs.size], _, _, H1, rfl, I1.kept (t' := s1.toks) fun b o e => Heap.get?_push_of_some _ e, turn_tuple a _, ⟨_, Heap.get?_push_size _ rfl, rfl, rfl⟩, fun b hb => ?_, q⟩
    have e : b = s1.heap.objs.size := by simpa using hb
    subst e
    exact I1.fpOk (Nat.le_refl _) (I1.hok.fresh (Nat.le_refl _))
  · obtain ⟨t, u, w, hx⟩ := I1.hok a _ hr
    have hr' : IsRange s1.heap a lo hi 1 t u w := hx
    refine wpAny_pyIter_range hr' (small_one b1 b2 b3 b4) ?_
    refine ⟨s1.heap.objs.size, [s1.heap.objs.size], _, _, H1, rfl, I1.kept (t' := s1.toks) fun b o e => Heap.get?_push_of_some _ e, turn_range _ lo (hi - lo).toNat, ?_, fun b hb => ?_, q⟩
    · have e1 : lo + ((0 : Nat) : Int) * 1 = lo := by simp
      have e2 : (((hi - lo).toNat : Nat) : Int) - ((0 : Nat) : Int) = Builtin.Range.rangeSize lo hi 1 := by rw [rangeSize_one]; split <;> omega
      show IsRangeIter _ _ (lo + ((0 : Nat) : Int) * 1) ((((hi - lo).toNat : Nat) : Int) - ((0 : Nat) : Int)) 1
      rw [e1, e2]
      exact Heap.get?_push_size _ rfl
    · have e : b = s1.heap.objs.size := by simpa using hb
      subst e
      exact I1.fpOk (Nat.le_refl _) (I1.hok.fresh (Nat.le_refl _))
/-- a list, a tuple or a range, walked -/
theorem seq_steps {K : PySem.W.Frag} {G2 H2 : Hp} {d : D} {P : List D → Prop} {v : V} {R : It → Hp → Prop} (sub : Same G2 H2) (e : iterS d P) (r : Rep K G2 d v) (k : ∀ J ds, Steps K G2 J ds → P ds → R J H2) : ∃ a, v = .ref a ∧ ((∃ xs, SqL K H2 a xs ∧ R (Itl K a) H2) ∨ (∃ xs, SqT K H2 a xs ∧ R (Itt K a) H2) ∨ ∃ lo hi, H2 a = some (.rng lo hi) ∧ rngOk lo hi ∧ R (Itr lo (hi - lo).toNat) H2) := by
  cases d with
  | lst ds =>
    obtain ⟨a, us, rfl, h, r2⟩ := r
    exact ⟨a, rfl, .inl ⟨us, SqL.of (sub _ _ h), k _ _ (Steps.list (SqL.of h) (fun H s => SqL.of (s _ _ h)) r2) e⟩⟩
  | tup ds =>
    obtain ⟨a, us, rfl, h, r2⟩ := r
    exact ⟨a, rfl, .inr (.inl ⟨us, SqT.up sub h, k _ _ (Steps.tup h r2) e⟩)⟩
  | rng lo hi =>
    obtain ⟨a, rfl, h⟩ := r
    exact ⟨a, rfl, .inr (.inr ⟨lo, hi, sub _ _ h, e.1, k _ _ (Steps.rng lo _) e.2⟩)⟩
  | _ => exact e.elim
theorem ji_S {e : Expr} {a : ME} (ha : JE X C e a) : JI X C tg e (.itS a) := by
  intro E tk
  refine PI.imp (pi_seq (ha E tk)) fun σ H R q => ?_
  obtain ⟨G, S, Q, r, q, k⟩ := q
  refine ⟨G, S, _, r, q, fun d S2 v H2 G2 p rv qq => ?_⟩
  exact seq_steps p.sub qq rv fun J ds st q => k ds S2 J H2 G2 p st q
theorem ji_X (g : XG fn mk gl kc X s) {i : Nat} {x : Str} (h : visB s i x = true) : JI X C tg (.Name x p) (.itX i) := by
  obtain ⟨h1, h2, h3, h4⟩ := g.vis h
  intro E tk
  refine PI.imp (pi_seq (pe_var h1 h2 h3 h4)) fun σ H R q => ?_
  obtain ⟨G, S, Q, r, ⟨d, e, e2⟩, k⟩ := q
  obtain ⟨v, G2, e1, p, rv⟩ := r.read (vs := [i]) (pp := []) e (by simp)
  exact ⟨v, e1, seq_steps p.sub e2 rv fun J ds st q => k ds S J H G2 p st q⟩
theorem ji_R (g : XG fn mk gl kc X s) {x : Str} {es : List Expr} {as : ME} (hx : x = ("range" : Str)) (hg : glB s x = true) (hl : es.length = 1 ∨ es.length = 2) (h : JL X C es as) : JI X C tg (.Call (.Name x p) es [] pos) (.itR as) := by
  subst hx
  obtain ⟨g1, g2, g3⟩ := g.glo hg
  have hm : X.mg "range" = none := g.ko.blt _ (by decide)
  intro E tk
  match es, hl, h with
  | [e], _, h =>
    obtain ⟨_, _, _, s1, _⟩ := h.tail
    obtain ⟨a, rfl, ha⟩ := h.one
    refine PI.imp (pi_range1 g1 hm (pa_cons (ha E tk) pa_nil (star_of s1)) (star_of s1)) fun σ H R q => ?_
    obtain ⟨G, S, Q, r, q, k⟩ := q
    refine ⟨G, S, _, r, q, fun d S2 v H2 G2 p rv qq => ?_⟩
    have p' := p.mono (ws := vars (.itR (.acons a .anil))) (qq := pops (.itR (.acons a .anil))) (fun i hi => by simpa [vars] using hi) (fun i hi => by simpa [pops] using hi)
    have qq' : rngSem [d] (fun xs => Q xs S2) := qq
    cases d with
    | int j =>
      cases rv
      obtain ⟨q1, q2⟩ := (qq' : rngOk 0 j ∧ _)
      exact ⟨j, rfl, q1.2.2.1, q1.2.2.2, k _ S2 _ H2 G2 p' (Steps.rng 0 j.toNat) q2⟩
    | _ => exact qq'.elim
  | [e, f], _, h =>
    obtain ⟨_, _, _, s1, _, _, h2⟩ := h.tail
    obtain ⟨_, _, _, s2, _⟩ := h2.tail
    obtain ⟨a, b, rfl, ha, hb, hd⟩ := h.two
    refine PI.imp (pi_range2 g1 hm (pa_cons (ha E tk) (pa_cons (hb E tk) pa_nil (star_of s2)) (star_of s1)) (by rw [star_of s1, star_of s2]; rfl) (star_of s2)) fun σ H R q => ?_
    obtain ⟨G, S, Q, r, q, k⟩ := q
    refine rd_two (R := fun x y H2 => ∃ i j : Int, [x, y] = [.int i, .int j] ∧ (-(2 ^ 62) ≤ i ∧ i < 2 ^ 62 ∧ -(2 ^ 62) ≤ j ∧ j < 2 ^ 62) ∧ R (Itr i (j - i).toNat) H2) hd r q fun d1 d2 S2 v1 v2 H2 G2 p r1 r2 qq => ?_
    have p' := p.mono (ws := vars (.itR (.acons a (.acons b .anil)))) (qq := pops (.itR (.acons a (.acons b .anil)))) (fun i hi => by simpa [vars] using hi) (fun i hi => by simpa [pops] using hi)
    have qq' : rngSem [d1, d2] (fun xs => Q xs S2) := qq
    cases d1 with
    | int i =>
      cases d2 with
      | int j =>
        cases r1
        cases r2
        obtain ⟨q1, q2⟩ := (qq' : rngOk i j ∧ _)
        exact ⟨i, j, rfl, q1, k _ S2 _ H2 G2 p' (Steps.rng i (j - i).toNat) q2⟩
      | _ => exact qq'.elim
    | _ => exact qq'.elim
theorem ji_E (g : XG fn mk gl kc X s) {x : Str} {y : Expr} {a : ME} {es : List Expr} {n : Nat} (hx : x = ("enumerate" : Str)) (hg : glB s x = true) (hs : noSt y = true) (ha : JE X C y a) : JI X C (.Tuple es n pos') (.Call (.Name x p) [y] [] pos) (.itE a) := by
  subst hx
  obtain ⟨g1, g2, g3⟩ := g.glo hg
  have hm : X.mg "enumerate" = none := g.ko.blt _ (by decide)
  intro E tk
  refine PI.imp (EnT.pi_en g1 hm (pa_cons (ha E tk) pa_nil (star_of hs)) (star_of hs)) fun σ H R q => ?_
  obtain ⟨G, S, Q, r, q, k⟩ := q
  refine ⟨G, S, _, r, q, fun d S2 v H2 G2 p rv qq => ?_⟩
  obtain ⟨ds, e1, qq⟩ := qq
  obtain ⟨b, us, rfl, r2, ⟨h, _⟩ | ⟨h, _⟩⟩ := seqOf_rep e1 rv
  · exact ⟨b, us, rfl, .inl ⟨SqL.of (p.sub _ _ h), k _ S2 _ H2 G2 p (Steps.enL (fun H s => SqL.of (s _ _ h)) r2) qq⟩⟩
  · exact ⟨b, us, rfl, .inr ⟨SqT.up p.sub h, k _ S2 _ H2 G2 p (Steps.enT (fun H s => SqT.up s h) r2) qq⟩⟩
theorem ji_Z (g : XG fn mk gl kc X s) {x : Str} {y z : Expr} {a b : ME} {es : List Expr} {n : Nat} (hx : x = ("zip" : Str)) (hg : glB s x = true) (hs : noSt y = true) (hs2 : noSt z = true) (hd : ∀ i ∈ pops b, i ∉ vars a) (ha : JE X C y a) (hb : JE X C z b) : JI X C (.Tuple es n pos') (.Call (.Name x p) [y, z] [] pos) (.itZ a b) := by
  subst hx
  obtain ⟨g1, g2, g3⟩ := g.glo hg
  have hm : X.mg "zip" = none := g.ko.blt _ (by decide)
  intro E tk
  refine PI.imp (RZ.pi_zipA g1 hm (pa_cons (ha E tk) (pa_cons (hb E tk) pa_nil (star_of hs2)) (star_of hs)) (star_of hs) (by rw [star_of hs2]; rfl)) fun σ H R q => ?_
  obtain ⟨G, S, Q, r, q, k⟩ := q
  refine ⟨G, S, _, r, q, fun d S1 v H1 G1 p1 rv q1 => ?_⟩
  refine ⟨G, S1, _, p1.rel, q1, fun e S2 w H2 G2 p2 rw2 qq => ?_⟩
  have p := p1.trans p2 hd
  have k1 := p1.keep1 p2 hd
  have ra := rv.up (joinG_left (G2 := G2))
  have rb := rw2.up (joinG_right k1 p2.sub)
  obtain ⟨ds, es', ⟨rfl, rfl⟩ | ⟨rfl, rfl⟩, qq⟩ := qq
  · obtain ⟨a1, us, rfl, h1, h2⟩ := ra
    obtain ⟨b1, ws, rfl, h3, h4⟩ := rb
    exact ⟨a1, b1, us, ws, rfl, .inl ⟨SqL.of (p.sub _ _ h1), SqL.of (p.sub _ _ h3), k _ S2 _ H2 _ p (Steps.zipL (fun H s => SqL.of (s _ _ h1)) (fun H s => SqL.of (s _ _ h3)) h2 h4) qq⟩⟩
  · obtain ⟨a1, us, rfl, h1, h2⟩ := ra
    obtain ⟨b1, ws, rfl, h3, h4⟩ := rb
    exact ⟨a1, b1, us, ws, rfl, .inr ⟨SqT.up p.sub h1, SqT.up p.sub h3, k _ S2 _ H2 _ p (Steps.zipA (fun H s => SqT.up s h1) (fun H s => SqT.up s h3) h2 h4) qq⟩⟩
end
end Mi
set_option maxHeartbeats 1000000
namespace Mi
open PySem PySem.Spec L2
open PyProof.Rows hiding St
section
variable {K : PySem.W.Frag} {C : IC} {G H H1 H2 G1 G2 : Hp} {σ : L2.St} {S S1 S2 : List Sl} {vs ws pp qq : List Nat}
theorem Rel.frzI : ∀ (vs : List Nat) {G : Hp} {S : List Sl}, Rel K C G H σ S → ∃ G2, Same G G2 ∧ Rel K C G2 H σ (Mi.frz vs S) ∧ ∀ a o, G2 a = some o → G a = some o ∨ ∃ i ∈ vs, Own S i ∧ σ[i]? = some (some (.ref a))
  | [], G, S, r => ⟨G, Same.refl _, r, fun a o h => .inl h⟩
  | i :: vs, G, S, r => by
    obtain ⟨G1, u1, r1, n1⟩ := r.frz1 i
    obtain ⟨G2, u2, r2, n2⟩ := Rel.frzI vs r1
    refine ⟨G2, u1.trans u2, r2, fun a o h => ?_⟩
    rcases n2 a o h with h | ⟨j, hj, ow, e⟩
    · rcases n1 a (by rw [h]; exact fun z => nomatch z) with z | ⟨ow, e⟩
      · obtain ⟨u, hu⟩ := Option.ne_none_iff_exists'.mp z
        have := u1 a u hu
        rw [h] at this
        cases this
        exact .inl hu
      · exact .inr ⟨i, List.mem_cons_self, ow, e⟩
    · exact .inr ⟨j, List.mem_cons_of_mem _ hj, (frz1_own ow).1, e⟩
theorem Post.frozenI (p : Post K C G H H2 σ S S2 vs pp G2) (hv : ∀ i ∈ vs, i ∈ ws) : ∃ G3, Same G2 G3 ∧ Rel K C G3 H2 σ (frz ws S2) ∧ Post K C G H H2 σ S S2 ws pp G3 := by
  obtain ⟨G1, u1, r1, n1⟩ := Rel.frzI ws p.rel
  have hsub : Same (joinG G1 G2) H2 := joinG_sub r1.sub p.sub
  have h1 : Rel K C (joinG G1 G2) H2 σ (frz ws S2) := by
    refine r1.ground joinG_left hsub (fun a o h => ?_) (fun i q ow e => ?_) (fun a ha => ?_)
    · rcases joinG_cases h with h | h
      · exact r1.new a o h
      · exact p.new a o h
    · obtain ⟨o1, n1⟩ := frz_own ws ow
      exact joinG_none (r1.own_none ow e).1 (p.avd i q (fun z => n1 (hv i z)) o1 e)
    · exact joinG_none (r1.hs_none ha) (p.hav a (frz_hs ws ha))
  refine ⟨joinG G1 G2, joinG_right r1.sub p.sub, h1, p.r0, p.rel, hsub, u1.trans joinG_left, fun a o h => ?_, p.frm, p.knd⟩
  rcases joinG_cases h with h | h
  · rcases n1 a o h with h | ⟨j, hj, ow, e⟩
    · exact .inl h
    · exact .inr (.inr ⟨j, hj, (knd_own p.knd j).mp ow, e⟩)
  · rcases p.src a o h with z | z | ⟨j, hj, z⟩
    · exact .inl z
    · exact .inr (.inl z)
    · exact .inr (.inr ⟨j, hv j hj, z⟩)
theorem Rel.wip (r : Rel K C G H σ S) : ∀ (vs : List Nat), Rel K C G H (wipe σ vs) (Mi.wip vs S)
  | [] => r
  | i :: vs => (Rel.wip r vs).set_un i none
theorem wip_own : ∀ {vs : List Nat} {j : Nat}, Own (wip vs S) j → Own S j ∧ j ∉ vs
  | [], j, h => ⟨h, by simp⟩
  | i :: vs, j, h => by
    obtain ⟨h1, h2⟩ := own_set rfl (h : Own ((wip vs S).set i .un) j)
    obtain ⟨h3, h4⟩ := wip_own h1
    exact ⟨h3, by simp [h2, h4]⟩
theorem wip_hs : ∀ {vs : List Nat} {a : Addr}, hs (wip vs S) a → hs S a
  | [], a, h => h
  | i :: vs, a, h => wip_hs (hs_set (fun _ _ z => by cases z) (h : hs ((wip vs S).set i .un) a))
theorem wip_same : ∀ {vs : List Nat} {j : Nat}, j ∉ vs → (wip vs S)[j]? = S[j]?
  | [], j, h => rfl
  | i :: vs, j, h => by
    show ((wip vs S).set i .un)[j]? = _
    rw [List.getElem?_set_ne (fun z => h (by simp [z]))]
    exact wip_same fun z => h (List.mem_cons_of_mem _ z)
theorem frz1_hn {i j : Nat} {a c : Addr} (h : S[j]? = some (.hn a c)) : (frz1 S i)[j]? = some (.hn a c) := by
  unfold frz1
  by_cases e : i = j
  · subst e
    rw [h]
    exact h
  · split
    · rw [List.getElem?_set_ne e]; exact h
    · rw [List.getElem?_set_ne e]; exact h
    · exact h
theorem frz_hn : ∀ (vs : List Nat) {S : List Sl} {j : Nat} {a c : Addr}, S[j]? = some (.hn a c) → (frz vs S)[j]? = some (.hn a c)
  | [], S, j, a, c, h => h
  | i :: vs, S, j, a, c, h => frz_hn vs (frz1_hn h)
theorem noHn_of {vs : List Nat} (h : noHn vs S = true) {j : Nat} {a c : Addr} (e : S[j]? = some (.hn a c)) : j ∉ vs := fun hj => by
  have z := List.all_eq_true.mp h j hj
  rw [e] at z
  cases z
theorem Post.dom (p : Post K C G H H2 σ S S2 vs pp G2) {a : Addr} (h : H a ≠ none) : H2 a ≠ none := fun z => h (p.free z)
end
def JTs (X : Cx) (C : IC) (es : List Expr) (m : ME) : Prop := ∀ E : XS, Takes X (liftX X.K C E) → PTs X es (rdT X.K C (W m).t (vars m) (pops m) E)
theorem PTs.imp {X : Cx} {e : List Expr} {t t' : TT} (h : PTs X e t) (i : ∀ σ H Q, t' σ H Q → t σ H Q) : PTs X e t' := ⟨fun pins s σ H Q I hw => h.run pins s σ H Q I (i σ H Q hw)⟩
theorem takes_noX {X : Cx} {C : IC} : Takes X (liftX X.K C noX) := fun u s' x => by
  obtain ⟨_, _, _, _, _, _, _, _, _, _, _, _, _, _, _, _, G, S, x, _, _, z⟩ := x
  exact z.elim
section
variable {X : Cx} {C : IC} {s : SC} {fn : FSpec → Prop} {mk : CSpec → Prop} {gl : Str → D → Prop} {kc : Str → Prop} {pos pos' p apos p2 : Pos}
theorem jts_nil : JTs X C [] (.con (.bl true)) := fun E tk => PTs.imp pts_nil fun σ H Q q => by
  obtain ⟨G, S, Q, r, q, k⟩ := q
  exact k true S H (Post.same r) q
theorem jts_one {e : Expr} {m : ME} (h : JT X C e m) : JTs X C [e] m := fun E tk => pts_one (h E tk)
/-- the loop of a comprehension -/
theorem lc_loop {K : PySem.W.Frag} {vs : List Nat} {g : TG} {it tst elt : ME} {E : XS} {σ : L2.St} {H : Hp} {Qv : VK} {G : Hp} {S : List Sl} {Qe : List D → List Sl → Prop} (pe : pops elt = []) (pt : pops tst = []) (hgv : ∀ i ∈ gvars g, i ∈ vs) (r : Rel K C G H σ S)
    (q : (W it).i S (fun items S1 => items.length ≤ lim ∧ noHn vs S1 = true ∧ lcGo (lcF g vs (frz (vars it ++ (vars tst ++ vars elt)) S1) (W tst) (W elt)) items [] fun ys => Qe ys S1) E)
    (k : ∀ acc us D S1 H5 G5, Post K C G H H5 σ S S1 (vars it ++ (vars tst ++ vars elt)) (pops it) G5 → H D = none → (∀ (i : Nat), Own S1 i → σ[i]? ≠ some (some (.ref D))) → ¬ hs S1 D → G5 D = none → H5 D = some (.lst us) → Reps K G5 acc us → Qe acc S1 → Qv (.ref D) H5) :
    tLc (rdI K C (W it).i (vars it) (pops it) E) (rdG K C g) (rdT K C (W tst).t (vars tst) (pops tst) noX) (rdE K C (W elt).v (vars elt) (pops elt) noX) vs σ H Qv := by
  refine ⟨G, S, _, r, q, fun items S1 J H1 G1 p1 st q1 => ?_⟩
  intro D hD
  obtain ⟨hlen, hnh, q1⟩ := q1
  obtain ⟨G3, u13, rf, pf⟩ := p1.frozenI (ws := vars it ++ (vars tst ++ vars elt)) (fun i hi => List.mem_append_left _ hi)
  have hws : ∀ i ∈ vars elt, i ∈ vars it ++ (vars tst ++ vars elt) := fun i hi => List.mem_append_right _ (List.mem_append_right _ hi)
  generalize hws' : vars it ++ (vars tst ++ vars elt) = ws at *
  have rw0 := rf.wip vs
  generalize hS' : wip vs (frz ws S1) = S' at rw0
  generalize hσ' : wipe σ vs = σ' at rw0
  have own' : ∀ j, Own S' j → Own S1 j ∧ j ∉ ws := fun j oj => by
    rw [← hS'] at oj
    exact frz_own ws (wip_own oj).1
  have hs' : ∀ a, hs S' a → hs S1 a := fun a h => by
    rw [← hS'] at h
    exact frz_hs ws (wip_hs h)
  have g3D : G3 D = none := rf.sub.free hD
  have cD : C.He D = none := (p1.rel.none_of hD).1
  have nhD : ¬ hs S1 D := fun z => absurd hD (p1.rel.hs_some z)
  have noD : ∀ (i : Nat), Own S1 i → σ[i]? ≠ some (some (.ref D)) := fun i ow e => absurd hD (p1.rel.own_some ow e)
  have noD' : ∀ (i : Nat), Own S' i → σ'[i]? ≠ some (some (.ref D)) := fun i ow e => absurd hD (rw0.own_some ow e)
  -- a state of the loop
  let Inv5 : Nat → Hp → Prop := fun i H5 => ∃ G5 acc us, Same G3 G5 ∧ Rel K C G5 H5 σ' S' ∧ H5 D = some (.lst us) ∧ Reps K G5 acc us ∧ G5 D = none ∧ acc.length ≤ i ∧ (∀ a o, H1 a = some o → ¬ hs S1 a → H5 a = some o) ∧ (∀ a, H1 a ≠ none → H5 a ≠ none) ∧
    (∀ a o, G5 a = some o → G3 a = some o ∨ H1 a = none) ∧ lcGo (lcF g vs (frz ws S1) (W tst) (W elt)) (items.drop i) acc fun ys => Qe ys S1
  refine ⟨fun i n H5 => n = items.length - i ∧ i ≤ items.length ∧ Inv5 i H5, ⟨_, rfl, Nat.zero_le _, G3, [], [], Same.refl _, rw0.grow (same_upd hD), upd_same, rfl, g3D, Nat.le_refl _, fun a o h _ => same_upd hD _ _ h, fun a h z => h ((same_upd hD).free z), fun a o h => .inl h, q1⟩, ?_⟩
  rintro i n H5 ⟨rfl, hi, G5, acc, us, u35, r5, h5D, ra, g5D, hal, kp, kn, src5, q5⟩
  have u15 : Same G1 G5 := u13.trans u35
  by_cases hlt : i < items.length
  · refine .inr ?_
    have hd : items[i]? = some items[i] := List.getElem?_eq_getElem hlt
    have hdrop : items.drop i = items[i] :: items.drop (i + 1) := List.drop_eq_getElem_cons hlt
    refine ⟨st.go i _ H5 (u15.trans r5.sub) hd, fun H' => i + 1 ≤ items.length ∧ Inv5 (i + 1) H', fun H' hN => ⟨items.length - (i + 1), by omega, rfl, hN.1, hN.2⟩, fun x H6 y => ?_⟩
    obtain ⟨G', ug, sg, s56, ng, rx⟩ := st.yld i _ H5 H6 x (u15.trans r5.sub) hd y
    rw [hdrop] at q5
    -- the ground with the item
    have r5' : Rel K C G5 H6 σ' S' := r5.grow s56
    have s5 : Same G5 H6 := r5'.sub
    have r6 : Rel K C (joinG G5 G') H6 σ' S' := by
      refine r5'.ground joinG_left (joinG_sub s5 sg) (fun a o h => ?_) (fun j p ow e => ?_) fun a ha => ?_
      · rcases joinG_cases h with h | h
        · exact r5.new a o h
        · rcases ng a o h with h | h
          · exact r5.new a o (u15 a o h)
          · exact .inr (r5.none_of h).1
      · refine joinG_none (r5.own_none ow e).1 ?_
        cases z : G' p with
        | none => rfl
        | some o =>
          rcases ng p o z with h | h
          · have := u15 p o h
            rw [(r5.own_none ow e).1] at this
            cases this
          · exact absurd h (r5.own_some ow e)
      · refine joinG_none (r5.hs_none ha) ?_
        cases z : G' a with
        | none => rfl
        | some o =>
          rcases ng a o z with h | h
          · have := u15 a o h
            rw [r5.hs_none ha] at this
            cases this
          · exact absurd h (r5.hs_some ha)
    have h6D : H6 D = some (.lst us) := s56 _ _ h5D
    have g6D : joinG G5 G' D = none := by
      refine joinG_none g5D ?_
      cases z : G' D with
      | none => rfl
      | some o =>
        rcases ng D o z with h | h
        · have := u15 D o h
          rw [g5D] at this
          cases this
        · rw [h5D] at h; cases h
    have src6 : ∀ a o, joinG G5 G' a = some o → G3 a = some o ∨ H1 a = none := fun a o h => by
      rcases joinG_cases h with h | h
      · exact src5 a o h
      · rcases ng a o h with h | h
        · exact .inl (u13 a o h)
        · exact .inr (Classical.byContradiction fun z => kn a z h)
    have q5' : tgW g items[i] S' fun S2 => (W tst).t S2 (fun b _ => if b = true then (W elt).v S2 (fun y _ => lcGo (lcF g vs (frz ws S1) (W tst) (W elt)) (items.drop (i + 1)) (acc ++ [y]) fun ys => Qe ys S1) noX else lcGo (lcF g vs (frz ws S1) (W tst) (W elt)) (items.drop (i + 1)) acc fun ys => Qe ys S1) noX := by
      rw [← hS']
      exact q5
    refine ⟨joinG G5 G', S', _, _, r6, rx.up (joinG_right s5 sg), q5', fun σ2 S2 tg qq => ⟨?_, ?_⟩⟩
    · have := tg.wipe vs hgv
      rw [this, ← hσ']
      clear this
      have ww : ∀ (ws vs : List Nat), (∀ i ∈ ws, i ∈ vs) → wipe (wipe σ ws) vs = wipe σ vs := fun ws => by
        induction ws with
        | nil => intro vs _; rfl
        | cons w ws ih =>
          intro vs hv
          show wipe ((wipe σ ws).set w none) vs = _
          rw [wipe_set (hv w List.mem_cons_self)]
          exact ih vs fun i hi => hv i (List.mem_cons_of_mem _ hi)
      exact ww vs vs fun _ h => h
    -- the test
    refine ⟨joinG G5 G', S2, _, tg.rel, qq, fun b S3 H7 p7 q7 => ?_⟩
    rw [pt] at p7
    have p7' := p7.stay
    have own2 : ∀ j, Own S2 j → j ∉ ws := fun j oj => (own' j (tg.own j oj)).2
    have hs2 : ∀ a, hs S2 a → hs S1 a := fun a h => hs' a (tg.hs a h)
    have np : ∀ (a : Addr), ∀ i ∈ ([] : List Nat), Own S2 i → σ2[i]? ≠ some (some (.ref a)) := fun a i hi => by cases hi
    -- back at the turn's start
    have back : ∀ {H9 G9 : Hp}, Same (joinG G5 G') G9 → Same G9 H9 → (∀ a o, H6 a = some o → ¬ hs S2 a → a ≠ D → H9 a = some o) → (∀ a, H6 a ≠ none → H9 a ≠ none) → (∀ (j : Nat) (a c : Addr), S2[j]? = some (Sl.hn a c) → HandOk (joinG G5 G') H9 a c) →
        (∀ a o, G9 a = some o → (joinG G5 G') a = some o ∨ H6 a = none) → Rel K C G9 H9 σ' S' := by
      intro H9 G9 u s keep dom hand src
      have rr : Rel K C (joinG G5 G') H9 σ' S' := by
        refine r6.heap (u.trans s) (fun a o h n => ?_) (fun a h => dom a (r6.dom a h)) (fun j p ow e o h => ?_) fun j a c h => ?_
        · have h6 := r6.frm a o h n
          refine keep a o h6 (fun z => ?_) fun e => by rw [e, cD] at h; cases h
          obtain ⟨j, c, hj⟩ := tg.hs a z
          rcases (r6.sl j _ hj).2.2.2 with w | w
          · exact n w
          · rw [w] at h; cases h
        · exact keep p o h (fun z => r6.hdis j p ow e (tg.hs p z)) fun z => noD' j ow (by rw [← z]; exact e)
        · have jv : j ∉ gvars g := fun z => by
            have zz : S'[j]? = some Sl.un ∨ S'[j]? = none := by
              rw [← hS']
              have go : ∀ (vs : List Nat) (T : List Sl), j ∈ vs → (wip vs T)[j]? = some Sl.un ∨ (wip vs T)[j]? = none := fun vs => by
                induction vs with
                | nil => intro T h; cases h
                | cons v vs ih =>
                  intro T h
                  show ((wip vs T).set v .un)[j]? = _ ∨ ((wip vs T).set v .un)[j]? = _
                  by_cases e : v = j
                  · subst e
                    by_cases hv : v < (wip vs T).length
                    · rw [List.getElem?_set_self hv]; exact .inl rfl
                    · rw [List.getElem?_eq_none (by rw [List.length_set]; omega)]; exact .inr rfl
                  · rw [List.getElem?_set_ne e]
                    exact ih T (List.mem_of_ne_of_mem (Ne.symm e) h)
              exact go vs _ (hgv j z)
            rcases zz with zz | zz <;> (rw [h] at zz; cases zz)
          exact hand j a c (by rw [tg.same j jv]; exact h)
      refine rr.ground u s (fun a o h => ?_) (fun j p ow e => ?_) fun a ha => ?_
      · rcases src a o h with h | h
        · exact r6.new a o h
        · exact .inr (r6.none_of h).1
      · cases z : G9 p with
        | none => rfl
        | some o =>
          rcases src p o z with h | h
          · rw [(r6.own_none ow e).1] at h; cases h
          · exact absurd h (r6.own_some ow e)
      · cases z : G9 a with
        | none => rfl
        | some o =>
          rcases src a o z with h | h
          · rw [r6.hs_none ha] at h; cases h
          · exact absurd h (r6.hs_some ha)
    have keep7 : ∀ a o, H6 a = some o → ¬ hs S2 a → H7 a = some o := fun a o h nh => p7'.frm a o h nh (np a)
    have h7D : H7 D = some (.lst us) := keep7 D _ h6D fun z => nhD (hs2 D z)
    cases b with
    | false =>
      refine ⟨hlt, joinG G5 G', acc, us, u35.trans joinG_left, back (Same.refl _) p7'.rel.sub (fun a o h nh _ => keep7 a o h nh) (fun a h => p7'.dom h) (fun j a c h => (p7'.rel.sl j _ h).2.1) (fun a o h => .inl h), h7D, ra.up joinG_left, g6D, Nat.le_succ_of_le hal, fun a o h nh => keep7 a o (s56 _ _ (kp a o h nh)) fun z => nh (hs2 a z), fun a h => p7'.dom fun z => kn a h (s56.free z), src6, q7⟩
    | true =>
      refine ⟨joinG G5 G', S2, _, p7'.rel, q7, fun y S4 v H8 G8 p8 rv q8 => ?_⟩
      rw [pe] at p8
      have p8' := p8.stay
      have keep8 : ∀ a o, H6 a = some o → ¬ hs S2 a → H8 a = some o := fun a o h nh => p8'.frm a o (keep7 a o h nh) nh (np a)
      have h8D : H8 D = some (.lst us) := keep8 D _ h6D fun z => nhD (hs2 D z)
      have src8 : ∀ a o, G8 a = some o → (joinG G5 G') a = some o ∨ H7 a = none := fun a o h => by
        rcases p8'.src a o h with z | z | ⟨j, hj, ow, e⟩
        · exact .inl z
        · exact .inr z
        · exact absurd (hws j hj) (own2 j ow)
      have g8D : G8 D = none := by
        cases z : G8 D with
        | none => rfl
        | some o =>
          rcases src8 D o z with h | h
          · rw [g6D] at h; cases h
          · rw [h7D] at h; cases h
      have sub9 : Same G8 (upd H8 D (.lst (us ++ [v]))) := fun a o h => by
        rw [upd_ne (fun e => by rw [e, g8D] at h; cases h)]
        exact p8'.sub a o h
      refine ⟨us, h8D, by rw [lim_eq, ← ra.len]; omega, hlt, G8, acc ++ [y], us ++ [v], u35.trans (joinG_left.trans p8'.up), ?_, upd_same, (ra.up (joinG_left.trans p8'.up)).app (Reps.one rv), g8D, by rw [List.length_append, List.length_singleton]; omega, fun a o h nh => ?_, fun a h => ?_, fun a o h => ?_, q8⟩
      · refine back p8'.up sub9 (fun a o h nh ne => by rw [upd_ne ne]; exact keep8 a o h nh) (fun a h => ?_) (fun j a c h => ?_) fun a o h => (src8 a o h).imp id fun z => p7'.free z
        · by_cases e : a = D
          · rw [e, upd_same]; exact fun z => nomatch z
          · rw [upd_ne e]; exact p8'.dom (p7'.dom h)
        · have ha := (p8'.rel.sl j _ h).2.1
          refine ha.up (fun o z => ?_) (Same.refl _)
          rw [upd_ne (fun e => nhD (hs2 D ⟨j, c, by rw [← e]; exact h⟩))]
          exact z
      · rw [upd_ne (fun e => by rw [e, hD] at h; cases h)]
        exact keep8 a o (s56 _ _ (kp a o h nh)) fun z => nh (hs2 a z)
      · by_cases e : a = D
        · rw [e, upd_same]; exact fun z => nomatch z
        · rw [upd_ne e]; exact p8'.dom (p7'.dom fun z => kn a h (s56.free z))
      · rcases src8 a o h with h | h
        · exact src6 a o h
        · exact .inr (Classical.byContradiction fun z => kn a z (s56.free (p7'.free h)))
  · have e : i = items.length := by omega
    subst e
    refine .inl ⟨st.stop H5 (u15.trans r5.sub), ?_⟩
    have u05 : Same G G5 := p1.up.trans u15
    have pe : Post K C G H H5 σ S S1 ws (pops it) G5 := by
      refine ⟨r, ?_, r5.sub, u05, fun a o h => ?_, fun a o h nh np => kp a o (pf.frm a o h nh np) fun z => nh ((knd_hs pf.knd a).mp z), pf.knd⟩
      · refine pf.rel.heap (u05.trans r5.sub) (fun a o h n => ?_) (fun a h => kn a (pf.rel.dom a h)) (fun j p ow e o h => kp p o h (pf.rel.hdis j p ow e)) fun j a c h => ?_
        · refine kp a o (pf.rel.frm a o h n) fun z => ?_
          obtain ⟨j, c, hj⟩ := z
          rcases (pf.rel.sl j _ hj).2.2.2 with w | w
          · exact n w
          · rw [w] at h; cases h
        · have hj : S'[j]? = some (.hn a c) := by
            rw [← hS', wip_same (noHn_of hnh h)]
            exact frz_hn ws h
          obtain ⟨_, ⟨xs, i1, r1, m1, n1, e1, e2, e3⟩, _⟩ := r5.sl j _ hj
          obtain ⟨_, ⟨ys, i2, r2, m2, n2, f1, f2, f3⟩, _⟩ := pf.rel.sl j _ h
          have z := u05 _ _ f2
          rw [e2] at z
          exact ⟨xs, i1, r1, m1, n1, e1, by rw [f2, ← z], e3⟩
      · rcases src5 a o h with h | h
        · exact pf.src a o h
        · exact .inr (.inl (pf.free h))
    rw [List.drop_length] at q5
    exact k acc us D S1 H5 G5 pe (p1.free hD) noD nhD g5D h5D ra q5
end
end Mi
set_option maxHeartbeats 1000000
namespace Mi
open PySem PySem.Spec L2
open PyProof.Rows hiding St
def Kf (K : PySem.W.Frag) (C : IC) (G H : Hp) (σ : L2.St) (S : List Sl) (vs pp : List Nat) (Q : D → List Sl → Prop) (Qv : VK) : Prop :=
  ∀ d S2 p H2 G2, Post K C G H H2 σ S S2 vs pp G2 → H p = none → G2 p = none → (∀ (i : Nat), Own S2 i → σ[i]? ≠ some (some (.ref p))) → ¬ hs S2 p → Cell K G2 H2 p d → Q d S2 → Qv (.ref p) H2
section
variable {K : PySem.W.Frag} {C : IC} {G H H2 G2 : Hp} {σ : L2.St} {S S2 : List Sl} {vs pp : List Nat} {Q : D → List Sl → Prop} {Qv : VK}
theorem Kf.cell (k : Kf K C G H σ S vs pp Q Qv) (p : Post K C G H H2 σ S S2 vs pp G2) {d : D} {b : Addr} {o : HO} (hb : H2 b = none) (c : Cell K G2 (upd H2 b o) b d) (q : Q d S2) : Qv (.ref b) (upd H2 b o) :=
  k d S2 b _ G2 (p.apart hb) (p.free hb) (p.sub.free hb) (fun i ow e => absurd hb (p.rel.own_some ow e)) (fun z => absurd hb (p.rel.hs_some z)) c q
theorem Kf.lst (k : Kf K C G H σ S vs pp Q Qv) (p : Post K C G H H2 σ S S2 vs pp G2) {ds : List D} {us : List V} {b : Addr} (r : Reps K G2 ds us) (hb : H2 b = none) (q : Q (.lst ds) S2) : Qv (.ref b) (upd H2 b (.lst us)) :=
  k.cell p hb (d := .lst ds) ⟨us, upd_same, r⟩ q
theorem Kf.dct (k : Kf K C G H σ S vs pp Q Qv) (p : Post K C G H H2 σ S S2 vs pp G2) {ks ws : List D} {kvs : List (Key × V)} {b : Addr} (r : Reps K G2 ws (kvs.map (·.2))) (e : kvs.map (fun kv => keyD kv.1) = ks) (hb : H2 b = none) (q : Q (.dct ks ws) S2) : Qv (.ref b) (upd H2 b (.dK kvs)) :=
  k.cell p hb (d := .dct ks ws) ⟨kvs, upd_same, e, r⟩ q
end
section
variable {X : Cx} {C : IC} {s : SC} {fn : FSpec → Prop} {mk : CSpec → Prop} {gl : Str → D → Prop} {kc : Str → Prop} {pos pos' p apos p2 : Pos}
theorem jf_lst {es : List Expr} {as : ME} (h : JL X C es as) : JF X C (.List es pos) (.op .lst as) := by
  intro E tk
  refine PE.imp (pe_lst (h.ja E tk)) fun σ H Qv q => ?_
  obtain ⟨G, S, Q, r, q, k⟩ := q
  refine ⟨G, S, _, r, q, fun ds S2 us H2 G2 p rv qq => ⟨by rw [← rv.len, lim_eq]; exact Nat.le_trans qq.1 (by decide), fun b hb => ?_⟩⟩
  exact Kf.lst k p rv hb qq.2.2
theorem jf_dsp : JF X C (.Dict [] [] pos) (.dsp .anil .anil) := by
  intro E tk
  refine PE.imp pe_dnewK fun σ H Qv q => ?_
  obtain ⟨G, S, Q, r, q, k⟩ := q
  intro b hb
  exact Kf.dct k (Post.same r) (kvs := []) (ws := []) rfl rfl hb q.2.2.2
theorem jf_blt (g : XG fn mk gl kc X s) {b : Blt} {x : Str} {es : List Expr} {as : ME} (hx : bltName b = x) (hg : glB s x = true) (hn : es ≠ []) (h : JL X C es as) (hb : b = .list ∨ b = .dict) : JF X C (.Call (.Name x p) es [] pos) (.op (.blt b) as) := by
  cases es with
  | nil => exact absurd rfl hn
  | cons e es =>
    obtain ⟨a, r, e1, hs, h1, h2, h3⟩ := h.tail
    intro E tk
    refine PE.imp (pe_callAny (opCall X _) hx g hg (h.ja E tk) (star_of hs) (h3.back pos X.env)) fun σ H Qv q => ?_
    obtain ⟨G, S, Q, r, q, k⟩ := q
    refine ⟨G, S, _, r, q, fun ds S2 us H2 G2 p rv qq => ?_⟩
    have k' : Kf X.K C G H σ S (vars as) (pops as) Q Qv := k
    rcases hb with rfl | rfl
    · have qq' : bltSem .list ds (fun d => d.isCon = true ∧ Q d S2) := qq
      clear qq q
      cases ds with
      | nil => exact (qq' : False).elim
      | cons d ds =>
        cases ds with
        | cons e r => exact absurd qq' (by cases d <;> exact id)
        | nil =>
          obtain ⟨x, _, rfl, r1, rn⟩ := rv
          have rn' : _ = [] := rn
          subst rn'
          have sq : (∃ ds, seqOf d = some ds ∧ ((D.lst ds).isCon = true ∧ Q (.lst ds) S2)) → rCall X (bltVal .list) [x] H2 Qv := by
            rintro ⟨ds, e, q⟩
            obtain ⟨a, us, rfl, h2, ⟨h1, rfl⟩ | ⟨h1, rfl⟩⟩ := seqOf_rep e r1
            · exact rc call_list_of ⟨a, us, rfl, .inl (SqL.of (p.sub _ _ h1)), fun l hl => Kf.lst k' p h2 hl q.2⟩
            · exact rc call_list_of ⟨a, us, rfl, .inr (SqT.up p.sub h1), fun l hl => Kf.lst k' p h2 hl q.2⟩
          cases d with
          | rng lo hi =>
            obtain ⟨a, rfl, h1⟩ := r1
            obtain ⟨q1, q2, q3, q4, q5, q⟩ := qq'
            exact rc (cr_listRg g.calm) ⟨a, _, _, rfl, p.sub _ _ h1, ⟨q1, q2, q3, q4, q5⟩, fun l hl => Kf.lst k' p (rep_rng _ _) hl q.2⟩
          | _ => exact sq qq'
    · have qq' : bltSem .dict ds (fun d => d.isCon = true ∧ Q d S2) := qq
      clear qq q
      cases ds with
      | nil => exact (qq' : False).elim
      | cons d ds =>
        cases ds with
        | cons e r => exact absurd qq' (by cases d <;> exact id)
        | nil =>
          obtain ⟨x, _, rfl, r1, rn⟩ := rv
          have rn' : _ = [] := rn
          subst rn'
          cases d with
          | lst ds =>
            obtain ⟨a, us, rfl, h1, h2⟩ := r1
            obtain ⟨ks, ws, e, q⟩ := qq'
            obtain ⟨ps, more, rfl, e2, e3, e4⟩ := fromPairs_ok (kvs := []) e h2 rfl rfl
            exact rc (call_dictP g.calm) ⟨a, ps, more, rfl, SqL.of (p.sub _ _ h1), Paired.up' (fun _ _ h => SqT.up p.sub h) e2, fun l hl => Kf.dct k' p e4 e3 hl q.2⟩
          | _ => exact (qq' : False).elim
theorem jf_bin {x y : Expr} {as : ME} {o : Operator} (h : JL X C [x, y] as) : JF X C (.BinOp x o y pos) (.op (.bin o) as) := by
  obtain ⟨a, b, rfl, ha, hb, hd⟩ := h.two
  intro E tk
  refine PE.imp (pe_op (opBin X _) (ha E tk) (hb E tk)) fun σ H Qv q => ?_
  obtain ⟨G, S, Q, r, q, k⟩ := q
  refine rd_two hd r q fun d e S2 v u H2 G2 p r1 r2 qq => ?_
  have k' : Kf X.K C G H σ S (vars a ++ vars b) (pops a ++ pops b) Q Qv := fun d S2 v H2 G2 p => k d S2 v H2 G2 (p.mono (by simp [vars]) (by simp [pops]))
  have qq' : binSem o d e (fun r => r.isCon = true ∧ Q r S2) := qq
  unfold binSem at qq'
  split at qq'
  all_goals first | exact (qq' : False).elim | exact Bool.noConfusion (qq'.1 : false = true) | exact Bool.noConfusion (qq'.2.1 : false = true) | exact Bool.noConfusion (qq'.2.2.2.2.1 : false = true) | exact Bool.noConfusion (qq'.2.2.2.1 : false = true) | skip
  · obtain ⟨a, us, rfl, h1, h2⟩ := r1
    obtain ⟨b, ws, rfl, h3, h4⟩ := r2
    exact rb op_cat ⟨a, b, us, ws, rfl, rfl, p.sub _ _ h1, p.sub _ _ h3, by rw [lim_eq, ← h2.len, ← h4.len]; exact qq'.1, fun c hc => Kf.lst k' p (h2.app h4) hc qq'.2.2⟩
  · obtain ⟨a, us, rfl, h1, h2⟩ := r1
    cases r2
    obtain ⟨q1, q2, q3, q4⟩ := qq'
    refine rb op_rep ⟨a, _, us, rfl, rfl, p.sub _ _ h1, q2, q1, by rw [lim_eq, ← h2.len]; exact q3, fun c hc => Kf.lst k' p ?_ hc q4.2⟩
    generalize (Int.toNat _) = n
    induction n with
    | zero => exact rfl
    | succ n ih => simp only [List.replicate_succ, List.flatten_cons]; exact h2.app ih
theorem jf_slc {x : Expr} {l h : Option Expr} {a lo hi : ME} (d2 : ∀ i ∈ pops lo, i ∉ vars a) (d3 : ∀ i ∈ pops hi, i ∉ vars a) (ha : JE X C x a) (hl : JO X C l lo) (hh : JO X C h hi) : JF X C (.Subscript x (.Slice l h none p2) pos) (.slc a lo hi) := by
  intro E tk
  refine PE.imp (pe_slice sl_list (ha E tk) (hl E tk) (hh E tk)) fun σ H Qv q => ?_
  obtain ⟨G, S, Q, r, q, k⟩ := q
  refine ⟨G, S, _, r, q, fun d S1 v H1 G1 p1 rv q1 => ?_⟩
  refine ⟨G, S1, _, p1.rel, q1, fun dl S2 H2 p2 q2 => ?_⟩
  obtain ⟨l', e1, q2⟩ := q2
  refine ⟨l', e1, G, S2, _, p2.rel, q2, fun dh S3 H3 p3 q3 => ?_⟩
  obtain ⟨h', e2, q3⟩ := q3
  have p12 := p1.trans (p2.flat (ws := [])) d2
  have p13 := (p12.trans (p3.flat (ws := [])) fun i hi' z => d3 i hi' (by simpa using z)).mono (ws := vars (.slc a lo hi)) (qq := pops (.slc a lo hi)) (fun i hi => by simp [vars] at hi ⊢; exact .inl hi) (fun i hi => by simpa [pops] using hi)
  have rv' := rv.up ((joinG_left (G1 := G1) (G2 := G)).trans (joinG_left (G2 := G)))
  refine ⟨h', e2, ?_⟩
  unfold slcSem at q3
  split at q3
  · exact Bool.noConfusion (q3.1 : false = true)
  · obtain ⟨a, us, rfl, h1, h2⟩ := rv'
    exact ⟨a, us, rfl, SqL.of (p13.sub _ _ h1), fun c hc => Kf.lst k p13 (rcut h2 l' h') hc q3.2⟩
  · obtain ⟨a, rfl, h1⟩ := rv'
    exact ⟨a, _, rfl, p13.sub.seq h1, fun c hc => Kf.lst k p13 (rcut (rep_ints _) l' h') hc q3.2⟩
  · exact q3.elim
theorem XG.blk (g : XG fn mk gl kc X s) (sh : Shared) (H : Hp) (scope : Scope) (cl : List (Str × Addr)) (CC : Addr) (fp : List Addr) : XG fn mk gl kc (X.blk sh H scope (compEnvC scope cl CC X.env) fp) ⟨s.N, relS scope s.sc, fun x => scope.names.lookup x == some .cell⟩ :=
  ⟨g.N, by rw [← g.sc]; rfl, rfl, g.calm, g.nd, g.un, g.ko, g.fns, g.mks, g.gls, g.kcs⟩
theorem own_snd {N : List Str} : ∀ (vs : List Nat), (vs.map fun i => ((N[i]?).getD ("" : Str), i)).map (·.2) = vs
  | [] => rfl
  | v :: vs => by simp only [List.map_cons, own_snd vs]
theorem iter_not_const : True := trivial
/-- what the pieces of a comprehension are -/
structure LcP (fn : FSpec → Prop) (mk : CSpec → Prop) (gl : Str → D → Prop) (kc : Str → Prop) (C : IC) (X : Cx) (s : SC) (vs : List Nat) (g : TG) (it tst elt : ME) (x tg iter : Expr) (ifs : List Expr) (scope : Scope) : Prop where
  blk : blkC s.N s.sc scope (vs.map fun i => ((s.N[i]?).getD ("" : Str), i)) = true
  pe : pops elt = []
  pt : pops tst = []
  gv : ∀ i ∈ gvars g, i ∈ vs
  it : JI X C tg iter it
  fd : ∀ z, foldedSetIterable iter X.env z = pure z
  tg : ∀ X', XG fn mk gl kc X' ⟨s.N, relS scope s.sc, fun x => scope.names.lookup x == some .cell⟩ → X'.K = X.K → PG X' tg (rdG X.K C g)
  ts : ∀ X', XG fn mk gl kc X' ⟨s.N, relS scope s.sc, fun x => scope.names.lookup x == some .cell⟩ → X'.K = X.K → JTs X' C ifs tst
  el : ∀ X', XG fn mk gl kc X' ⟨s.N, relS scope s.sc, fun x => scope.names.lookup x == some .cell⟩ → X'.K = X.K → JE X' C x elt
variable {vs : List Nat} {gt : TG} {it tst elt : ME} {x tg iter : Expr} {ifs : List Expr} {scope : Scope}
theorem je_lc (g : XG fn mk gl kc X s) (L : LcP fn mk gl kc C X s vs gt it tst elt x tg iter ifs scope) : JE X C (.ListComp x [⟨tg, iter, ifs, 0⟩] scope pos) (.lc vs elt gt it tst) := by
  have bo := blkOk_by L.blk
  rw [← g.N, ← g.sc] at bo
  intro E tk
  have ee := pe_lc (elt := x) (pos := pos) (g := rdG X.K C gt) (tt := rdT X.K C (W tst).t (vars tst) (pops tst) noX) (te := rdE X.K C (W elt).v (vars elt) (pops elt) noX) g.calm g.nd (L.it E tk) bo (fun sh H CC cl fp => L.tg _ (g.blk sh H scope cl CC fp) rfl) (fun sh H CC cl fp => L.ts _ (g.blk sh H scope cl CC fp) rfl noX takes_noX) (fun sh H CC cl fp => L.el _ (g.blk sh H scope cl CC fp) rfl noX takes_noX) L.fd
  rw [own_snd] at ee
  refine PE.imp ee fun σ H Qv q => ?_
  obtain ⟨G, S, Q, r, q, k⟩ := q
  refine lc_loop L.pe L.pt L.gv r q fun acc us D S1 H5 G5 p hD nD nh gD h5 ra qq => ?_
  have pp : pops (ME.lc vs elt gt it tst) = pops it := by simp [pops, L.pe, L.pt]
  refine k (.lst acc) S1 _ H5 (upd G5 D (.lst us)) ?_ ⟨D, us, rfl, upd_same, ra.up (same_upd gD)⟩ qq
  rw [pp]
  exact p.add h5 hD gD
theorem jf_lc (g : XG fn mk gl kc X s) (L : LcP fn mk gl kc C X s vs gt it tst elt x tg iter ifs scope) : JF X C (.ListComp x [⟨tg, iter, ifs, 0⟩] scope pos) (.lc vs elt gt it tst) := by
  have bo := blkOk_by L.blk
  rw [← g.N, ← g.sc] at bo
  intro E tk
  have ee := pe_lc (elt := x) (pos := pos) (g := rdG X.K C gt) (tt := rdT X.K C (W tst).t (vars tst) (pops tst) noX) (te := rdE X.K C (W elt).v (vars elt) (pops elt) noX) g.calm g.nd (L.it E tk) bo (fun sh H CC cl fp => L.tg _ (g.blk sh H scope cl CC fp) rfl) (fun sh H CC cl fp => L.ts _ (g.blk sh H scope cl CC fp) rfl noX takes_noX) (fun sh H CC cl fp => L.el _ (g.blk sh H scope cl CC fp) rfl noX takes_noX) L.fd
  rw [own_snd] at ee
  refine PE.imp ee fun σ H Qv q => ?_
  obtain ⟨G, S, Q, r, q, k⟩ := q
  refine lc_loop (Qe := fun ys S1 => (D.lst ys).isCon = true ∧ Q (.lst ys) S1) L.pe L.pt L.gv r q fun acc us D S1 H5 G5 p hD nD nh gD h5 ra qq => ?_
  have pp : pops (ME.lc vs elt gt it tst) = pops it := by simp [pops, L.pe, L.pt]
  refine k (.lst acc) S1 D H5 G5 ?_ hD gD nD nh ⟨us, h5, ra⟩ qq.2
  rw [pp]
  exact p
end
end Mi
set_option maxHeartbeats 1000000
namespace Mi
open PySem PySem.Spec L2
open PyProof.Rows hiding St
section
variable {K : PySem.W.Frag} {C : IC} {G H H2 G2 : Hp} {σ : L2.St} {S S2 : List Sl} {vs pp : List Nat} {Q : D → List Sl → Prop} {Qv : VK}
/-- an object that was laid ahead of the expression is written behind it -/
theorem Post.under {p : Addr} {o o' : HO} (r0 : Rel K C G H σ S) (hp : H p = none) (q : Post K C G (upd H p o) H2 σ S S2 vs pp G2) : G2 p = none ∧ (∀ (i : Nat), Own S2 i → σ[i]? ≠ some (some (.ref p))) ∧ ¬ hs S2 p ∧ Post K C G H (upd H2 p o') σ S S2 vs pp G2 := by
  have nown : ∀ (i : Nat), Own S i → σ[i]? ≠ some (some (.ref p)) := fun i ow e => r0.own_some ow e hp
  have nown2 : ∀ (i : Nat), Own S2 i → σ[i]? ≠ some (some (.ref p)) := fun i ow => nown i ((knd_own q.knd i).mp ow)
  have nhs2 : ¬ hs S2 p := fun z => r0.hs_some ((knd_hs q.knd p).mp z) hp
  have hn := r0.none_of hp
  have hG : G p = none := hn.2
  have hG2 : G2 p = none := by
    cases z : G2 p with
    | none => rfl
    | some u =>
      rcases q.src p u z with h | h | ⟨j, hj, oj, ej⟩
      · rw [hG] at h; cases h
      · rw [upd_same] at h; cases h
      · exact absurd ej (nown j oj)
  have ne : ∀ {a : Addr} {u : HO}, H a = some u → a ≠ p := fun h z => by rw [z, hp] at h; cases h
  have rel : Rel K C G (upd H2 p o') σ S2 := by
    refine q.rel.heap (fun a u h => ?_) (fun a u h n => ?_) (fun a h => ?_) (fun i b ow e u h => ?_) fun i a c h => ?_
    · rw [upd_ne fun z => by rw [z, hG] at h; cases h]
      exact q.rel.sub a u h
    · rw [upd_ne fun z => by rw [z, hn.1] at h; cases h]
      exact q.rel.frm a u h n
    · by_cases e : a = p
      · rw [e, upd_same]; exact fun z => nomatch z
      · rw [upd_ne e]; exact q.rel.dom a h
    · rw [upd_ne fun z => nown2 i ow (by rw [← z]; exact e)]
      exact h
    · have z := (q.rel.sl i _ h).2.1
      refine z.up (fun u hu => ?_) (Same.refl _)
      rw [upd_ne fun e => nhs2 ⟨i, c, by rw [← e]; exact h⟩]
      exact hu
  refine ⟨hG2, nown2, nhs2, r0, rel, fun a u h => ?_, q.up, fun a u h => ?_, fun a u h nh np => ?_, q.knd⟩
  · rw [upd_ne fun z => by rw [z, hG2] at h; cases h]
    exact q.sub a u h
  · rcases q.src a u h with z | z | z
    · exact .inl z
    · by_cases e : a = p
      · rw [e, hG2] at h; cases h
      · rw [upd_ne e] at z; exact .inr (.inl z)
    · exact .inr (.inr z)
  · rw [upd_ne (ne h)]
    exact q.frm a u (by rw [upd_ne (ne h)]; exact h) nh np
end
section
variable {X : Cx} {C : IC} {s : SC} {fn : FSpec → Prop} {mk : CSpec → Prop} {gl : Str → D → Prop} {kc : Str → Prop} {pos : Pos} {k v : Expr} {a b : ME}
/-- {k: v}: the pair's reading -/
theorem pe_one (hk : JE X C k a) (hv : JE X C v b) (E : XS) (tk : Takes X (liftX X.K C E)) : PE X (.Dict [some k] [v] pos) (tDisp [(rdE X.K C (W a).v (vars a) (pops a) E, rdE X.K C (W b).v (vars b) (pops b) E)]) :=
  pe_disp (pps_cons (hk E tk) (hv E tk) pps_nil) rfl rfl (by simp) (by simp)
theorem one_rd {K : PySem.W.Frag} {G H : Hp} {σ : L2.St} {S : List Sl} {Q : D → List Sl → Prop} {E : XS} {p : Addr} (hd : ∀ i ∈ pops b, i ∉ vars a) (r : Rel K C G H σ S) (hp : H p = none) (h : (W (.ds1 a b)).v S Q E) {R : Hp → Prop}
    (k : ∀ kk d S2 v H2 G2, Post K C G (upd H p (.dK [])) H2 σ S S2 (vars a ++ vars b) (pops a ++ pops b) G2 → Rep K G2 d v → H2 p = some (.dK []) → Q (.dct [keyD kk] [d]) S2 → R (upd H2 p (.dK [(kk, v)]))) :
    tPairs [(rdE K C (W a).v (vars a) (pops a) E, rdE K C (W b).v (vars b) (pops b) E)] σ (upd H p (.dK [])) fun ps H2 => H2 p = some (.dK []) ∧ ∃ kvs : List (Key × V), ps = kvs.map (fun kv => (kV kv.1, kv.2)) ∧ kvs.length ≤ 15 ∧ R (upd H2 p (.dK (mergeK [] kvs))) := by
  have r' : Rel K C G (upd H p (.dK [])) σ S := r.grow (same_upd hp)
  refine rd_two (K := K) (ws := vars b) (P := fun d1 d2 S2 => d1.isKey = true ∧ Q (.dct [d1] [d2]) S2) hd r' h fun d1 d2 S2 v1 v2 H2 G2 q rv1 rv2 qq => ?_
  obtain ⟨kk, rfl⟩ := isKey_ex qq.1
  obtain rfl := keyD_rep rv1
  have hp2 : H2 p = some (.dK []) := q.frm p _ upd_same (fun z => r.hs_some z hp) fun i _ ow e => r.own_some ow e hp
  exact ⟨hp2, [(kk, v2)], rfl, by simp, k kk d2 S2 v2 H2 G2 q rv2 hp2 qq.2⟩
theorem je_dsp1 (hk : JE X C k a) (hv : JE X C v b) (hd : ∀ i ∈ pops b, i ∉ vars a) : JE X C (.Dict [some k] [v] pos) (.ds1 a b) := by
  intro E tk
  refine PE.imp (pe_one hk hv E tk) fun σ H Qv q => ?_
  obtain ⟨G, S, Q, r, q, kq⟩ := q
  intro p hp
  refine one_rd (K := X.K) hd r hp q fun kk d S2 v H2 G2 ps rv hp2 qq => ?_
  obtain ⟨h1, h2, h3, h4⟩ := Post.under (o' := .dK [(kk, v)]) r hp ps
  have h5 : Post X.K C G H (upd H2 p (.dK [(kk, v)])) σ S S2 (vars a ++ vars b) (pops a ++ pops b) (upd G2 p (.dK [(kk, v)])) := by
    refine ⟨r, h4.rel, fun c u e => ?_, h4.up.trans (same_upd h1), fun c u e => ?_, h4.frm, h4.knd⟩
    · by_cases z : c = p
      · subst z; rw [upd_same] at e ⊢; exact e
      · rw [upd_ne z] at e
        exact h4.sub c u e
    · by_cases z : c = p
      · subst z; exact .inr (.inl hp)
      · rw [upd_ne z] at e
        exact h4.src c u e
  have h6 := h5.mono (ws := vars (.ds1 a b)) (qq := pops (.ds1 a b)) (fun i hi => hi) (fun i hi => hi)
  exact kq (.dct [keyD kk] [d]) S2 (.ref p) _ _ h6 ⟨p, [(kk, v)], rfl, .inl upd_same, rfl, v, [], rfl, rv.up (same_upd h1), rfl⟩ qq
theorem jf_dsp1 (hk : JE X C k a) (hv : JE X C v b) (hd : ∀ i ∈ pops b, i ∉ vars a) : JF X C (.Dict [some k] [v] pos) (.ds1 a b) := by
  intro E tk
  refine PE.imp (pe_one hk hv E tk) fun σ H Qv q => ?_
  obtain ⟨G, S, Q, r, q, kq⟩ := q
  intro p hp
  have q' : (W (.ds1 a b)).v S (fun d S2 => d.isCon = true ∧ Q d S2) E := q
  refine one_rd (K := X.K) hd r hp q' fun kk d S2 v H2 G2 ps rv hp2 qq => ?_
  obtain ⟨h1, h2, h3, h4⟩ := Post.under (o' := .dK [(kk, v)]) r hp ps
  have h6 := h4.mono (ws := vars (.ds1 a b)) (qq := pops (.ds1 a b)) (fun i hi => hi) (fun i hi => hi)
  exact kq (.dct [keyD kk] [d]) S2 p _ G2 h6 hp h1 h2 h3 ⟨[(kk, v)], upd_same, rfl, v, [], rfl, rv, rfl⟩ qq.2
end
end Mi
set_option maxHeartbeats 1000000
namespace Mi
open PySem PySem.Spec L2
open PyProof.Rows hiding St
section
variable {X : Cx} {C : IC} {s : SC} {fn : FSpec → Prop} {mk : CSpec → Prop} {gl : Str → D → Prop} {kc : Str → Prop} {pos : Pos}
theorem cr_setI (hc : X.calm = true) : CallR X (.type "set") (fun vs H Q => ∃ (a : Addr) (ns : List Int), vs = [V.ref a] ∧ SqT X.K H a (ns.map V.int) ∧ ns.length ≤ 60 ∧
    ∀ (p : Addr) (c : Nat), c ≤ ns.length → H p = none → Q (.ref p) (upd H p (SetO X.w p (fun j => decide (j ∈ ns)) c))) := by
  intro pins s σ H vs us Q I r h
  obtain ⟨a, ns, rfl, hq, hl, q⟩ := h
  obtain ⟨u1, rfl, rj⟩ := vals1 r
  obtain rfl : u1 = Value.ref a := rj
  obtain ⟨its, rv, pt, hz⟩ := I.tuple hq
  have hi : IntsAre its.toArray.toList ns := ints_of_vals rv
  refine call_set_tupI ns (I.ok.hd hc) (show s.heap.IsTuple a its.toArray from pt) hi (by unfold scanBound; omega) fun h' tk c R1 hcn k => ?_
  exact ⟨.ref s.heap.objs.size, upd H s.heap.objs.size (SetO X.w s.heap.objs.size (fun j => decide (j ∈ ns)) c), I.laid (t' := tk) k (Nat.le_refl _) (setO_new R1), rfl, q _ c hcn (I.hok.fresh (Nat.le_refl _))⟩
theorem cr_lenSet : CallR X (.builtin "len") (fun vs H Q => ∃ (a : Addr) (S : Int → Bool) (n : Nat), vs = [V.ref a] ∧ H a = some (SetO X.w a S n) ∧ ∀ out : List Int, out.Nodup → (∀ k, k ∈ out ↔ S k = true) → Q (.int out.length) H) := by
  intro pins s σ H vs us Q I r h
  obtain ⟨a, S, n, rfl, ha, q⟩ := h
  obtain ⟨u1, rfl, rj⟩ := vals1 r
  obtain rfl : u1 = Value.ref a := rj
  obtain ⟨o, es, ep, t, ho, hex, hd, g, nd, hm, hb, hf, hn, hr, hl⟩ := setO_get I ha
  have hfit : (es.size : Int) < 2 ^ 63 := by
    have : scanBound ≤ 2 ^ 62 := by unfold scanBound; omega
    omega
  refine call_len_set ho hex hd hf hfit ?_
  refine ⟨.int es.size, H, I.tok _, ⟨_, rfl⟩, ?_⟩
  have z := q (es.toList.map keyOf) nd fun k => (hm k).symm
  rw [List.length_map, Array.length_toList] at z
  exact z
theorem je_ss (g : XG fn mk gl kc X s) {b : Bool} {x z : Str} {e : Expr} {p q pz : Pos} {a : ME} (hx : x = if b = true then ("sorted" : Str) else "len") (hz : z = ("set" : Str)) (gx : glB s x = true) (gz : glB s z = true) (n1 : noSt e = true) (ha : JE X C e a) :
    JE X C (.Call (.Name x p) [.Call (.Name z q) [e] [] pz] [] pos) (.ss b a) := by
  subst hx hz
  have m2 : X.mg "set" = none := g.ko.blt _ (by decide)
  have star1 : starEach [e] X.env = [(false, eval e X.env)] := star_of n1
  have inner : ∀ E, Takes X (liftX X.K C E) → PA X [.Call (.Name "set" q) [e] [] pz] _ := fun E tk => pa_cons (pe_callTy (cr_setI g.calm) (g.glo gz).1 m2 PyProof.Rows.boot_set (pa_cons (ha E tk) pa_nil star1) (he := star1)) pa_nil
  intro E tk
  cases b with
  | true =>
    have m1 : X.mg "sorted" = none := g.ko.blt _ (by decide)
    refine PE.imp (pe_callB (cr_sortedSet g.calm) (g.glo gx).1 m1 (by decide +kernel) (inner E tk)) fun σ H Qv h => ?_
    obtain ⟨G, S, Q, r, h, k⟩ := h
    refine ⟨G, S, _, r, h, fun d S2 v H2 G2 pp rv qq => ?_⟩
    obtain ⟨ds, ns, rfl, e1, hl, qq⟩ := qq
    obtain ⟨a1, us, rfl, t1, t2⟩ := id rv
    have e2 := ints_rep e1 t2
    subst e2
    refine ⟨a1, ns, rfl, SqT.up pp.sub t1, hl, fun pa c hc hp => ?_⟩
    refine ⟨pa, _, c, rfl, upd_same, by omega, fun out l hs hm hlen hl2 => ?_⟩
    have p2 := pp.apart (o := SetO X.w pa (fun j => decide (j ∈ ns)) c) hp
    have k' : Kt X.K C G H σ S (vars (.ss true a)) (pops (.ss true a)) Q Qv := k
    exact k'.lst p2 (rep_ints out) hl2 (qq out (hs.imp fun h => Int.ne_of_lt h) (fun k => by rw [hm k, decide_eq_true_eq]) fun _ => hs)
  | false =>
    have m1 : X.mg "len" = none := g.ko.blt _ (by decide)
    refine PE.imp (pe_callB cr_lenSet (g.glo gx).1 m1 boot_len (inner E tk)) fun σ H Qv h => ?_
    obtain ⟨G, S, Q, r, h, k⟩ := h
    refine ⟨G, S, _, r, h, fun d S2 v H2 G2 pp rv qq => ?_⟩
    obtain ⟨ds, ns, rfl, e1, hl, qq⟩ := qq
    obtain ⟨a1, us, rfl, t1, t2⟩ := id rv
    have e2 := ints_rep e1 t2
    subst e2
    refine ⟨a1, ns, rfl, SqT.up pp.sub t1, hl, fun pa c hc hp => ?_⟩
    refine ⟨pa, _, c, rfl, upd_same, fun out hn hm => ?_⟩
    have p2 := pp.apart (o := SetO X.w pa (fun j => decide (j ∈ ns)) c) hp
    have k' : Kt X.K C G H σ S (vars (.ss false a)) (pops (.ss false a)) Q Qv := k
    exact k'.int p2 (qq out hn (fun k => by rw [hm k, decide_eq_true_eq]) fun h => by cases h)
end
end Mi
set_option maxHeartbeats 1000000
namespace Mi
open PySem PySem.Spec L2
open PyProof.Rows hiding St
structure CkOk (fn : FSpec → Prop) (mk : CSpec → Prop) (gl : Str → D → Prop) (kc : Str → Prop) (X : Cx) (C : IC) (s : SC) (m : ME) : Prop where
  e : ∀ e, (ck m).e s e = true → JE X C e m
  t : ∀ e, (ck m).t s e = true → JT X C e m
  a : ∀ es, (ck m).a s es = true → JL X C es m
  i : ∀ tg e, (ck m).i s e = true → (needT m = true → isTup tg = true) → JI X C tg e m
section
variable {fn : FSpec → Prop} {mk : CSpec → Prop} {gl : Str → D → Prop} {kc : Str → Prop} {X : Cx} {C : IC} {s : SC}
theorem CkOk.ofE {m : ME} {f : SC → Expr → Bool} (hc : ck m = ctE f) (hw : (W m).t = fun S Q E => (W m).v S (fun d S1 => truW d fun k => Q k S1) E) (h : ∀ e, f s e = true → JE X C e m) : CkOk fn mk gl kc X C s m := by
  refine ⟨fun e z => ?_, fun e z => ?_, fun es z => ?_, fun tg e z => ?_⟩
  · rw [hc] at z; exact h e z
  · rw [hc] at z
    obtain ⟨z1, z2⟩ := and_of z
    exact jt_val z1 hw (h e z2)
  · rw [hc] at z; cases z
  · rw [hc] at z; cases z
theorem CkOk.ofI {m : ME} {f : SC → Expr → Bool} (hc : ck m = ⟨no1, no1, noA, f⟩) (h : ∀ tg e, f s e = true → (needT m = true → isTup tg = true) → JI X C tg e m) : CkOk fn mk gl kc X C s m := by
  refine ⟨fun e z => ?_, fun e z => ?_, fun es z => ?_, fun tg e z => ?_⟩
  · rw [hc] at z; cases z
  · rw [hc] at z; cases z
  · rw [hc] at z; cases z
  · rw [hc] at z; exact h tg e z
theorem tup_of {tg : Expr} (h : isTup tg = true) : ∃ es n p, tg = .Tuple es n p := by
  cases tg <;> first | exact ⟨_, _, _, rfl⟩ | cases h
theorem fd_of {m : ME} {iter : Expr} (h : (ck m).i s iter = true) (X : Cx) : ∀ z, foldedSetIterable iter X.env z = pure z := by
  have ns : noSet iter = true := by
    cases m <;> first | cases h | skip
    · exact (and_of h).1
    all_goals (cases iter <;> first | rfl | cases h)
  intro z
  cases iter <;> first | rfl | cases ns
theorem ck_ok : ∀ (m : ME) {X : Cx} {C : IC} {s : SC}, XG fn mk gl kc X s → Us fn mk gl kc m → CkOk fn mk gl kc X C s m := by
  intro m
  induction m with
  | var i =>
    intro X C s g u
    refine .ofE rfl rfl fun e h => ?_
    split at h
    · exact je_var g h
    · cases h
  | con d =>
    intro X C s g u
    refine .ofE rfl rfl fun e h => ?_
    split at h
    · exact je_con h
    · cases h
  | glo x d =>
    intro X C s g u
    refine .ofE rfl rfl fun e h => ?_
    split at h
    · obtain ⟨h1, h2⟩ := and_of h
      have e := of_decide_eq_true h1
      subst e
      exact je_glo g h2 u
    · cases h
  | op o as ih =>
    intro X C s g u
    have ia := (ih (C := C) g u).a
    have je : ∀ e, (ck (.op o as)).e s e = true → JE X C e (.op o as) := by
      intro e h
      simp only [ck] at h
      split at h
      · obtain ⟨h1, h2⟩ := and_of h
        have e := of_decide_eq_true h1
        subst e
        exact je_bin (ia _ h2)
      · obtain ⟨h1, h2⟩ := and_of h
        obtain ⟨h3, h4⟩ := and_of h2
        have e := of_decide_eq_true h1
        subst e
        exact je_cmp g.un (by simpa using h3) (ia _ h4)
      · exact je_neg (ia _ h)
      · exact je_tup (ia _ h)
      · exact je_lst (ia _ h)
      · obtain ⟨h1, h2⟩ := and_of h
        exact je_idx g.un h1 (ia _ h2)
      · obtain ⟨h1, h2⟩ := and_of h
        obtain ⟨h3, h4⟩ := and_of h2
        have e := of_decide_eq_true h1
        subst e
        exact je_fld g.ko h3 (ia _ h4)
      · obtain ⟨h1, h2⟩ := and_of h
        obtain ⟨h3, h4⟩ := and_of h2
        obtain ⟨h5, h6⟩ := and_of h4
        exact je_blt g (of_decide_eq_true h1) h3 (by intro z; rw [z] at h5; cases h5) (ia _ h6)
      · cases h
    refine ⟨je, fun e h => ?_, fun es h => (by cases h), fun tg e h => (by cases h)⟩
    have h' : ((plainT e || isCmp o) && (ck (.op o as)).e s e) = true := h
    obtain ⟨h1, h2⟩ := and_of h'
    by_cases hp : plainT e = true
    · exact jt_val hp rfl (je e h2)
    · have hc : isCmp o = true := by simpa [hp] using h1
      cases o <;> first | cases hc | skip
      rename_i o
      have key : ∀ e, (ck (.op (.cmp o) as)).e s e = true → ∃ x y p, e = .Compare x [o] [y] p ∧ behindInMarks o y = false ∧ (ck as).a s [x, y] = true := by
        intro e h
        cases e <;> first | exact absurd h Bool.false_ne_true | skip
        rename_i x ops ys p
        cases ops with
        | nil => exact absurd h Bool.false_ne_true
        | cons q qs =>
          cases qs with
          | cons _ _ => exact absurd h Bool.false_ne_true
          | nil =>
            cases ys with
            | nil => exact absurd h Bool.false_ne_true
            | cons y zs =>
              cases zs with
              | cons _ _ => exact absurd h Bool.false_ne_true
              | nil =>
                have h' : (decide (o = q) && (!behindInMarks q y && (ck as).a s [x, y])) = true := h
                obtain ⟨h1, h2⟩ := and_of h'
                obtain ⟨h3, h4⟩ := and_of h2
                have e := of_decide_eq_true h1
                subst e
                exact ⟨x, y, p, rfl, by simpa using h3, h4⟩
      obtain ⟨x, y, p, rfl, h3, h4⟩ := key e h2
      exact jt_cmp g.un h3 (ia _ h4)
  | bm b o as iho iha =>
    intro X C s g u
    have io := (iho (C := C) g u.1).e
    have ia := (iha (C := C) g u.2).a
    refine .ofE rfl rfl fun e h => ?_
    split at h
    · obtain ⟨h1, h⟩ := and_of h
      obtain ⟨h2, h⟩ := and_of h
      obtain ⟨h3, h⟩ := and_of h
      obtain ⟨h4, h⟩ := and_of h
      obtain ⟨h5, h⟩ := and_of h
      obtain ⟨h6, h7⟩ := and_of h
      exact je_bm g (of_decide_eq_true h1) h2 h3 (of_decide_eq_true h4) (io _ h5) (dsj_out h6) (ia _ h7)
    · cases h
  | chn o1 o2 a b c iha ihb ihc =>
    intro X C s g u
    have ia := (iha (C := C) g u.1).e
    have ib := (ihb (C := C) g u.2.1).e
    have ic := (ihc (C := C) g u.2.2).e
    have key : ∀ e, (ck (.chn o1 o2 a b c)).e s e = true → JE X C e (.chn o1 o2 a b c) ∧ JT X C e (.chn o1 o2 a b c) := by
      intro e h
      simp only [ck] at h
      split at h
      · rename_i x _ _ y z pos
        obtain ⟨h1, h⟩ := and_of h
        obtain ⟨h2, h⟩ := and_of h
        obtain ⟨h3, h⟩ := and_of h
        obtain ⟨h4, h⟩ := and_of h
        obtain ⟨h5, h⟩ := and_of h
        obtain ⟨h6, h⟩ := and_of h
        obtain ⟨h7, h⟩ := and_of h
        obtain ⟨h8, h9⟩ := and_of h
        have e1 := of_decide_eq_true h1
        have e2 := of_decide_eq_true h2
        subst e1 e2
        have hm : lastMarks [o1, o2] [y, z] = false := by
          show behindInMarks o2 z = false
          simpa using h3
        exact ⟨je_chn g.un hm (dsj_out h7) (dsj_out h8) (ia _ h4) (ib _ h5) (ic _ h6), jt_chn g.un hm (dsj_out h7) (dsj_out h8) (ia _ h4) (ib _ h5) (ic _ h6)⟩
      · cases h
    exact ⟨fun e h => (key e h).1, fun e h => (key e h).2, fun es h => (by cases h), fun tg e h => (by cases h)⟩
  | and a b iha ihb =>
    intro X C s g u
    have ia := iha (C := C) g u.1
    have ib := ihb (C := C) g u.2
    refine ⟨fun e h => ?_, fun e h => ?_, fun es h => (by cases h), fun tg e h => (by cases h)⟩
    · simp only [ck] at h
      split at h
      · obtain ⟨h1, h⟩ := and_of h
        obtain ⟨h2, h⟩ := and_of h
        split at h
        · exact je_and1 (ia.e _ h1) (je_single (ib.e _ h))
        · exact je_and1 (ia.e _ h1) (ib.e _ h)
      · cases h
    · simp only [ck] at h
      split at h
      · obtain ⟨h1, h⟩ := and_of h
        split at h
        · exact jt_and1 (ia.t _ h1) (jt_single_and (ib.t _ h))
        · exact jt_and1 (ia.t _ h1) (ib.t _ h)
      · cases h
  | or a b iha ihb =>
    intro X C s g u
    have ia := iha (C := C) g u.1
    have ib := ihb (C := C) g u.2
    refine ⟨fun e h => ?_, fun e h => ?_, fun es h => (by cases h), fun tg e h => (by cases h)⟩
    · simp only [ck] at h
      split at h
      · obtain ⟨h1, h⟩ := and_of h
        obtain ⟨h2, h⟩ := and_of h
        split at h
        · exact je_or1 (ia.e _ h1) (je_single (ib.e _ h))
        · exact je_or1 (ia.e _ h1) (ib.e _ h)
      · cases h
    · simp only [ck] at h
      split at h
      · obtain ⟨h1, h⟩ := and_of h
        split at h
        · exact jt_or1 (ia.t _ h1) (jt_single_or (ib.t _ h))
        · exact jt_or1 (ia.t _ h1) (ib.t _ h)
      · cases h
  | not a iha =>
    intro X C s g u
    have ia := iha (C := C) g u
    refine ⟨fun e h => ?_, fun e h => ?_, fun es h => (by cases h), fun tg e h => (by cases h)⟩
    · simp only [ck] at h
      split at h
      · exact je_not (ia.e _ h)
      · cases h
    · simp only [ck] at h
      split at h
      · exact jt_not (ia.t _ h)
      · cases h
  | ife c a b ihc iha ihb =>
    intro X C s g u
    have ic := ihc (C := C) g u.1
    have ia := iha (C := C) g u.2.1
    have ib := ihb (C := C) g u.2.2
    refine ⟨fun e h => ?_, fun e h => (by cases h), fun es h => (by cases h), fun tg e h => (by cases h)⟩
    simp only [ck] at h
    split at h
    · obtain ⟨h1, h⟩ := and_of h
      obtain ⟨h2, h3⟩ := and_of h
      exact je_ife (ic.t _ h1) (ia.e _ h2) (ib.e _ h3)
    · cases h
  | isi ts a iha =>
    intro X C s g u
    have ia := iha (C := C) g u.2
    have uk : ∀ c, Ty.own c ∈ ts → KC X.K c := fun c hc => g.kcs c (u.1 c hc)
    refine .ofE rfl rfl fun e h => ?_
    split at h
    · obtain ⟨h1, h⟩ := and_of h
      obtain ⟨h2, h⟩ := and_of h
      obtain ⟨h3, h⟩ := and_of h
      obtain ⟨h4, h⟩ := and_of h
      obtain ⟨h5, h6⟩ := and_of h
      exact je_isiT g (of_decide_eq_true h1) h2 h3 (ia.e _ h4) h5 (of_decide_eq_true h6).2 uk
    · obtain ⟨h1, h⟩ := and_of h
      obtain ⟨h2, h⟩ := and_of h
      obtain ⟨h3, h⟩ := and_of h
      obtain ⟨h4, h⟩ := and_of h
      split at h
      · exact je_isi1 g (of_decide_eq_true h1) h2 h3 (ia.e _ h4) h fun c e => uk c (by rw [e]; exact List.mem_singleton.mpr rfl)
      · cases h
    · cases h
  | call sp as ih =>
    intro X C s g u
    have ia := (ih (C := C) g u.2).a
    refine .ofE rfl rfl fun e h => ?_
    split at h
    · obtain ⟨h1, h⟩ := and_of h
      obtain ⟨h2, h⟩ := and_of h
      obtain ⟨h3, h⟩ := and_of h
      obtain ⟨h4, h⟩ := and_of h
      obtain ⟨h5, h6⟩ := and_of h
      exact je_call g u.1 (of_decide_eq_true h1) (of_decide_eq_true h2) (by simpa using h3) h4 (by intro z; rw [z] at h5; cases h5) (ia _ h6)
    · cases h
  | callh sp hh as ih =>
    intro X C s g u
    have ia := (ih (C := C) g u.2).a
    refine .ofE rfl rfl fun e h => ?_
    split at h
    · obtain ⟨h1, h⟩ := and_of h
      obtain ⟨h2, h⟩ := and_of h
      obtain ⟨h3, h⟩ := and_of h
      obtain ⟨h4, h⟩ := and_of h
      obtain ⟨h5, h6⟩ := and_of h
      exact je_callh g u.1 (of_decide_eq_true h1) (of_decide_eq_true h2) h3 h4 h5 (ia _ h6)
    · cases h
  | meth sp o as iho iha =>
    intro X C s g u
    have io := (iho (C := C) g u.2.1).e
    have ia := (iha (C := C) g u.2.2).a
    refine .ofE rfl rfl fun e h => ?_
    split at h
    · obtain ⟨h1, h⟩ := and_of h
      obtain ⟨h0, h⟩ := and_of h
      obtain ⟨h2, h⟩ := and_of h
      obtain ⟨h3, h⟩ := and_of h
      obtain ⟨h4, h⟩ := and_of h
      obtain ⟨h5, h⟩ := and_of h
      obtain ⟨h6, h⟩ := and_of h
      obtain ⟨h7, h8⟩ := and_of h
      exact je_meth g u.1 (of_decide_eq_true h1) (of_decide_eq_true h0) (by simpa using h2) h3 h4 (of_decide_eq_true h5) (io _ h6) (dsj_out h7) (ia _ h8)
    · cases h
  | eqo neg sp as ih =>
    intro X C s g u
    have ia := (ih (C := C) g u.2).a
    have key : ∀ e, (ck (.eqo neg sp as)).e s e = true → JE X C e (.eqo neg sp as) ∧ JT X C e (.eqo neg sp as) := by
      intro e h
      simp only [ck] at h
      split at h
      · obtain ⟨h1, h⟩ := and_of h
        obtain ⟨h2, h⟩ := and_of h
        obtain ⟨h3, h⟩ := and_of h
        obtain ⟨h4, h⟩ := and_of h
        obtain ⟨h5, h6⟩ := and_of h
        have e1 := of_decide_eq_true h1
        subst e1
        exact ⟨je_eqo g u.1.1 u.1.2 (of_decide_eq_true h3) (of_decide_eq_true h4) (by simpa using h5) (by simpa using h2) (ia _ h6), jt_eqo g u.1.1 u.1.2 (of_decide_eq_true h3) (of_decide_eq_true h4) (by simpa using h5) (by simpa using h2) (ia _ h6)⟩
      · cases h
    exact ⟨fun e h => (key e h).1, fun e h => (key e h).2, fun es h => (by cases h), fun tg e h => (by cases h)⟩
  | lz a b iha ihb =>
    intro X C s g u
    have ia := (iha (C := C) g u.1).e
    have ib := (ihb (C := C) g u.2).e
    refine .ofE rfl rfl fun e h => ?_
    split at h
    · obtain ⟨h1, h⟩ := and_of h
      obtain ⟨h2, h⟩ := and_of h
      obtain ⟨h3, h⟩ := and_of h
      obtain ⟨h4, h⟩ := and_of h
      obtain ⟨h5, h⟩ := and_of h
      obtain ⟨h6, h⟩ := and_of h
      obtain ⟨h7, h⟩ := and_of h
      obtain ⟨h8, h9⟩ := and_of h
      exact je_lz g (of_decide_eq_true h1) (of_decide_eq_true h2) h3 h4 h5 h6 (ia _ h7) (ib _ h8) (dsj_out h9)
    · cases h
  | make sp as ih =>
    intro X C s g u
    have ia := (ih (C := C) g u.2).a
    refine .ofE rfl rfl fun e h => ?_
    split at h
    · obtain ⟨h1, h⟩ := and_of h
      obtain ⟨h2, h⟩ := and_of h
      obtain ⟨h3, h4⟩ := and_of h
      exact je_make g u.1 (of_decide_eq_true h1) h2 (by intro z; rw [z] at h3; cases h3) (ia _ h4)
    · cases h
  | slc a lo hi iha ihl ihh =>
    intro X C s g u
    have ia := (iha (C := C) g u.1).e
    have il := (ihl (C := C) g u.2.1).e
    have ihh := (ihh (C := C) g u.2.2).e
    have jo : ∀ {l : Option Expr} {m : ME}, (∀ e, (ck m).e s e = true → JE X C e m) → (match l with
      | some y => (ck m).e s y
      | none => isNop m) = true → JO X C l m := by
      intro l m hm h
      cases l with
      | none =>
        cases m <;> first | cases h | skip
        exact jo_none
      | some y =>
        refine jo_some ?_ (hm y h)
        cases m <;> first | rfl | cases h
    refine .ofE rfl rfl fun e h => ?_
    split at h
    · obtain ⟨h1, h⟩ := and_of h
      obtain ⟨h2, h⟩ := and_of h
      obtain ⟨h3, h⟩ := and_of h
      obtain ⟨h4, h⟩ := and_of h
      obtain ⟨h5, h6⟩ := and_of h
      exact je_slc (dsj_out h2) (dsj_out h3) (ia _ h1) (jo il h5) (jo ihh h6)
    · cases h
  | nop =>
    intro X C s g u
    exact ⟨fun e h => (by cases h), fun e h => (by cases h), fun e h => (by cases h), fun _ e h => (by cases h)⟩
  | lc vs elt gt it tst ihe ihi iht =>
    intro X C s g u
    refine .ofE rfl rfl fun e h => ?_
    split at h
    · rename_i x tg iter ifs scope pos
      obtain ⟨h1, h⟩ := and_of h
      obtain ⟨h2, h⟩ := and_of h
      obtain ⟨h3, h⟩ := and_of h
      obtain ⟨h4, h⟩ := and_of h
      obtain ⟨h5, h⟩ := and_of h
      obtain ⟨h6, h⟩ := and_of h
      obtain ⟨h7, h⟩ := and_of h
      obtain ⟨h8, h9⟩ := and_of h
      have nil_of : ∀ {l : List Nat}, l.isEmpty = true → l = [] := fun {l} z => by cases l <;> first | rfl | cases z
      refine je_lc g ⟨h1, nil_of h2, nil_of h3, fun i hi => ?_, (ihi (C := C) g u.2.1).i tg iter h7 fun z => ?_, fd_of h7 X, fun X' g' ek => by rw [← ek]; exact pg_of g' h4, fun X' g' ek => ?_, fun X' g' ek => (ihe (C := C) g' u.1).e _ h8⟩
      · have z := List.all_eq_true.mp h5 i hi
        simpa using z
      · rw [z] at h6
        simpa using h6
      · split at h9
        · split at h9
          · exact jts_nil
          · cases h9
        · exact jts_one ((iht (C := C) g' u.2.2).t _ h9)
        · cases h9
    · cases h
  | dc vs k v gt it ihk ihv ihi =>
    intro X C s g u
    exact ⟨fun e h => (by cases h), fun e h => (by cases h), fun e h => (by cases h), fun _ e h => (by cases h)⟩
  | ds1 a b iha ihb =>
    intro X C s g u
    refine .ofE rfl rfl fun e h => ?_
    split at h
    · obtain ⟨h1, h⟩ := and_of h
      obtain ⟨h2, h3⟩ := and_of h
      exact je_dsp1 ((iha (C := C) g u.1).e _ h2) ((ihb (C := C) g u.2).e _ h3) (dsj_out h1)
    · cases h
  | ss b a iha =>
    intro X C s g u
    refine .ofE rfl rfl fun e h => ?_
    split at h
    · obtain ⟨h1, h⟩ := and_of h
      obtain ⟨h2, h⟩ := and_of h
      obtain ⟨h3, h⟩ := and_of h
      obtain ⟨h4, h⟩ := and_of h
      obtain ⟨h5, h6⟩ := and_of h
      exact je_ss g (of_decide_eq_true h1) (of_decide_eq_true h2) h3 h4 h5 ((iha (C := C) g u).e _ h6)
    · cases h
  | dsp ks vs ihk ihv =>
    intro X C s g u
    refine .ofE rfl rfl fun e h => ?_
    split at h
    · exact je_dsp
    · cases h
  | pop i =>
    intro X C s g u
    refine .ofE rfl rfl fun e h => ?_
    split at h
    · obtain ⟨h1, h⟩ := and_of h
      obtain ⟨h2, h3⟩ := and_of h
      exact je_pop g (of_decide_eq_true h1) h2 h3
    · cases h
  | popAt i a ih =>
    intro X C s g u
    refine .ofE rfl rfl fun e h => ?_
    split at h
    · obtain ⟨h1, h⟩ := and_of h
      obtain ⟨h2, h⟩ := and_of h
      obtain ⟨h3, h⟩ := and_of h
      obtain ⟨h4, h5⟩ := and_of h
      exact je_popAt g (of_decide_eq_true h1) h2 h3 h4 ((ih (C := C) g u).e _ h5)
    · cases h
  | anil =>
    intro X C s g u
    refine ⟨fun e h => (by cases h), fun e h => (by cases h), fun es h => ?_, fun tg e h => (by cases h)⟩
    cases es with
    | nil => exact .nil
    | cons _ _ => cases h
  | acons a r iha ihr =>
    intro X C s g u
    refine ⟨fun e h => (by cases h), fun e h => (by cases h), fun es h => ?_, fun tg e h => (by cases h)⟩
    cases es with
    | nil => cases h
    | cons e es =>
      obtain ⟨h1, h⟩ := and_of h
      obtain ⟨h2, h⟩ := and_of h
      obtain ⟨h3, h4⟩ := and_of h
      exact .cons h1 ((iha (C := C) g u.1).e _ h2) h3 ((ihr (C := C) g u.2).a _ h4)
  | itS a ih =>
    intro X C s g u
    exact .ofI rfl fun tg e h _ => ji_S ((ih (C := C) g u).e _ (and_of h).2)
  | itX i =>
    intro X C s g u
    refine .ofI rfl fun tg e h _ => ?_
    split at h
    · exact ji_X g h
    · cases h
  | itR as ih =>
    intro X C s g u
    refine .ofI rfl fun tg e h _ => ?_
    split at h
    · obtain ⟨h1, h⟩ := and_of h
      obtain ⟨h2, h⟩ := and_of h
      obtain ⟨h3, h4⟩ := and_of h
      exact ji_R g (of_decide_eq_true h1) h2 (of_decide_eq_true h3) ((ih (C := C) g u).a _ h4)
    · cases h
  | itE a ih =>
    intro X C s g u
    refine .ofI rfl fun tg e h ht => ?_
    obtain ⟨es, n, p, rfl⟩ := tup_of (ht rfl)
    split at h
    · obtain ⟨h1, h⟩ := and_of h
      obtain ⟨h2, h⟩ := and_of h
      obtain ⟨h3, h4⟩ := and_of h
      exact ji_E g (of_decide_eq_true h1) h2 h3 ((ih (C := C) g u).e _ h4)
    · cases h
  | itZ a b iha ihb =>
    intro X C s g u
    refine .ofI rfl fun tg e h ht => ?_
    obtain ⟨es, n, p, rfl⟩ := tup_of (ht rfl)
    split at h
    · obtain ⟨h1, h⟩ := and_of h
      obtain ⟨h2, h⟩ := and_of h
      obtain ⟨h3, h⟩ := and_of h
      obtain ⟨h4, h⟩ := and_of h
      obtain ⟨h5, h⟩ := and_of h
      obtain ⟨h6, h7⟩ := and_of h
      exact ji_Z g (of_decide_eq_true h1) h2 h3 h4 (dsj_out h7) ((iha (C := C) g u.1).e _ h5) ((ihb (C := C) g u.2).e _ h6)
    · cases h
  | itI a ih =>
    intro X C s g u
    exact ⟨fun e h => (by cases h), fun e h => (by cases h), fun e h => (by cases h), fun _ e h => (by cases h)⟩
end
end Mi
set_option maxHeartbeats 1000000
namespace Mi
open PySem PySem.Spec L2
open PyProof.Rows hiding St
section
variable {K : PySem.W.Frag} {C : IC} {G H H1 H2 G1 G2 : Hp} {σ : L2.St} {S S1 S2 : List Sl} {vs ws pp qq : List Nat}
/-- the ground behind a value that is stored -/
theorem Post.settleG (p : Post K C G H H2 σ S S2 vs pp G2) (k : Bool) : ∃ G3, Same G G3 ∧ Rel K C G3 H2 σ (thaw k vs S2) ∧ (∀ (d : D) (v : V), (k = true → d.hard = true) → Rep K G2 d v → Rep K G3 d v) ∧ (∀ (a : Addr), G3 a ≠ none → G2 a ≠ none ∨ ∃ i, Own S2 i ∧ σ[i]? = some (some (.ref a))) := by
  unfold thaw
  cases k with
  | true =>
    refine ⟨joinG G (tups G2), joinG_left, p.thawed, fun d v hk r => ?_, fun a h => ?_⟩
    · exact (Rep.hard (hk rfl) r).up (joinG_right (G1 := G) (H := H2) p.rel.sub (tups_sub.trans p.sub))
    · obtain ⟨o, ho⟩ := Option.ne_none_iff_exists'.mp h
      rcases joinG_cases ho with z | z
      · exact .inl (by rw [p.up _ _ z]; exact fun z => nomatch z)
      · exact .inl (by rw [tups_sub _ _ z]; exact fun z => nomatch z)
  | false =>
    obtain ⟨G1, u1, r1, n1⟩ := Rel.frzI vs p.rel
    have hsub : Same (joinG G1 G2) H2 := joinG_sub r1.sub p.sub
    refine ⟨joinG G1 G2, u1.trans joinG_left, ?_, fun d v _ r => r.up (joinG_right r1.sub p.sub), fun a h => ?_⟩
    · refine r1.ground joinG_left hsub (fun a o h => ?_) (fun i q ow e => ?_) (fun a ha => ?_)
      · rcases joinG_cases h with h | h
        · exact r1.new a o h
        · exact p.new a o h
      · obtain ⟨o1, n1⟩ := frz_own vs ow
        exact joinG_none (r1.own_none ow e).1 (p.avd i q n1 o1 e)
      · exact joinG_none (r1.hs_none ha) (p.hav a (frz_hs vs ha))
    · obtain ⟨o, ho⟩ := Option.ne_none_iff_exists'.mp h
      rcases joinG_cases ho with z | z
      · rcases n1 a o z with z | ⟨i, _, ow, e⟩
        · exact .inl (by rw [p.up _ _ z]; exact fun z => nomatch z)
        · exact .inr ⟨i, ow, e⟩
      · exact .inl (by rw [z]; exact fun z => nomatch z)
theorem thaw_own {k : Bool} {j : Nat} (h : Own (thaw k vs S) j) : Own S j := by
  cases k with
  | true => exact h
  | false => exact (frz_own vs h).1
theorem thaw_hs {k : Bool} {a : Addr} (h : hs (thaw k vs S) a) : hs S a := by
  cases k with
  | true => exact h
  | false => exact frz_hs vs h
/-- a container of one's own, by its address -/
structure Fr (C : IC) (G : Hp) (σ : L2.St) (S : List Sl) (p : Addr) : Prop where
  g : G p = none
  c : C.He p = none
  o : ∀ (i : Nat), Own S i → σ[i]? ≠ some (some (.ref p))
  h : ¬ hs S p
/-- values on their way into slots; av: the new containers' places so far -/
def Vls (K : PySem.W.Frag) (G H : Hp) (F : Addr → Prop) : List Addr → List (Nat × Bool × ME) → List D → List V → Prop
  | _, [], ds, us => ds = [] ∧ us = []
  | av, (_, false, _) :: r, ds, us => ∃ d ds' v us', ds = d :: ds' ∧ us = v :: us' ∧ Rep K G d v ∧ Vls K G H F av r ds' us'
  | av, (_, true, _) :: r, ds, us => ∃ d ds' p us', ds = d :: ds' ∧ us = .ref p :: us' ∧ p ∉ av ∧ F p ∧ Cell K G H p d ∧ Vls K G H F (p :: av) r ds' us'
def parSt : List (Nat × Bool × ME) → List V → L2.St → L2.St
  | (i, _, _) :: r, v :: us, σ => parSt r us (σ.set i (some v))
  | _, _, σ => σ
theorem Cell.mono {p : Addr} {d : D} (h : Cell K G H p d) (hk : ∀ (d : D) (v : V), Rep K G d v → Rep K G2 d v) : Cell K G2 H p d := by
  have go : ∀ {ds : List D} {us : List V}, Reps K G ds us → Reps K G2 ds us := fun {ds} => by
    induction ds with
    | nil => intro us h; exact h
    | cons d ds ih =>
      intro us h
      obtain ⟨v, r, e, h1, h2⟩ := h
      exact ⟨v, r, e, hk d v h1, ih h2⟩
  cases d with
  | lst ds =>
    obtain ⟨us, h1, h2⟩ := h
    exact ⟨us, h1, go h2⟩
  | dct ks ws =>
    obtain ⟨kvs, h1, h2, h3⟩ := h
    exact ⟨kvs, h1, h2, go h3⟩
  | _ => exact h.elim
theorem hardAll_of {ds : List D} (h : hardAll ds = true) : ∀ d ∈ ds, d.hard = true := by
  induction ds with
  | nil => intro d h; cases h
  | cons x ds ih =>
    have h' : x.hard = true ∧ hardAll ds = true := by simpa [hardAll] using h
    intro d hd
    rcases List.mem_cons.mp hd with z | z
    · rw [z]; exact h'.1
    · exact ih h'.2 d z
theorem Cell.settle {p : Addr} {d : D} {k : Bool} (h : Cell K G H p d) (hk : k = true → d.hardIn = true) (st : ∀ (d : D) (v : V), (k = true → d.hard = true) → Rep K G d v → Rep K G2 d v) : Cell K G2 H p d := by
  have go : ∀ {ds : List D} {us : List V}, (k = true → hardAll ds = true) → Reps K G ds us → Reps K G2 ds us := fun {ds} => by
    induction ds with
    | nil => intro us _ h; exact h
    | cons d ds ih =>
      intro us hk h
      obtain ⟨v, r, e, h1, h2⟩ := h
      have hk' : k = true → d.hard = true ∧ hardAll ds = true := fun z => by simpa [hardAll] using hk z
      exact ⟨v, r, e, st d v (fun z => (hk' z).1) h1, ih (fun z => (hk' z).2) h2⟩
  cases d with
  | lst ds =>
    obtain ⟨us, h1, h2⟩ := h
    exact ⟨us, h1, go hk h2⟩
  | dct ks ws =>
    obtain ⟨kvs, h1, h2, h3⟩ := h
    exact ⟨kvs, h1, h2, go (fun z => by
      have := hk z
      have w : hardAll ks = true ∧ hardAll ws = true := by simpa [D.hardIn] using this
      exact w.2) h3⟩
  | _ => exact h.elim
/-- the values on a greater ground -/
theorem Vls.settle {k : Bool} {F F' : Addr → Prop} (st : ∀ (d : D) (v : V), (k = true → d.hard = true) → Rep K G d v → Rep K G2 d v) (hg : ∀ p, F p → F' p) : ∀ {l : List (Nat × Bool × ME)} {av : List Addr} {ds : List D} {us : List V}, (k = true → parOk l ds = true) → Vls K G H F av l ds us → Vls K G2 H F' av l ds us
  | [], av, ds, us, hk, h => h
  | (_, false, _) :: r, av, ds, us, hk, h => by
    obtain ⟨d, ds', v, us', rfl, rfl, h1, h2⟩ := h
    have hk' : k = true → okSl false d = true ∧ parOk r ds' = true := fun z => by simpa [parOk] using hk z
    exact ⟨d, ds', v, us', rfl, rfl, st d v (fun z => (hk' z).1) h1, Vls.settle st hg (fun z => (hk' z).2) h2⟩
  | (_, true, _) :: r, av, ds, us, hk, h => by
    obtain ⟨d, ds', p, us', rfl, rfl, h1, h2, h3, h4⟩ := h
    have hk' : k = true → okSl true d = true ∧ parOk r ds' = true := fun z => by simpa [parOk] using hk z
    exact ⟨d, ds', p, us', rfl, rfl, h1, hg p h2, h3.settle (fun z => (hk' z).1) st, Vls.settle st hg (fun z => (hk' z).2) h4⟩
/-- .. while the slots are being set -/
theorem Vls.slot {F F' : Addr → Prop} {av : List Addr} (hf : ∀ p, p ∉ av → F p → F' p) : ∀ {l : List (Nat × Bool × ME)} {av' : List Addr} {ds : List D} {us : List V}, (∀ p ∈ av, p ∈ av') → Vls K G H F av' l ds us → Vls K G H F' av' l ds us
  | [], av', ds, us, ha, h => h
  | (_, false, _) :: r, av', ds, us, ha, h => by
    obtain ⟨d, ds', v, us', rfl, rfl, h1, h2⟩ := h
    exact ⟨d, ds', v, us', rfl, rfl, h1, Vls.slot hf ha h2⟩
  | (_, true, _) :: r, av', ds, us, ha, h => by
    obtain ⟨d, ds', p, us', rfl, rfl, h1, h2, h3, h4⟩ := h
    exact ⟨d, ds', p, us', rfl, rfl, h1, hf p (fun z => h1 (ha p z)) h2, h3, Vls.slot hf (fun q hq => List.mem_cons_of_mem _ (ha q hq)) h4⟩
/-- all of them -/
theorem Rel.setAll : ∀ {l : List (Nat × Bool × ME)} {av : List Addr} {ds : List D} {us : List V} {σ : L2.St} {S : List Sl}, Rel K C G H σ S → Vls K G H (Fr C G σ S) av l ds us → Rel K C G H (parSt l us σ) (parSet l ds S)
  | [], av, ds, us, σ, S, r, h => by
    obtain ⟨rfl, rfl⟩ := h
    exact r
  | (i, false, m) :: l, av, ds, us, σ, S, r, h => by
    obtain ⟨d, ds', v, us', rfl, rfl, h1, h2⟩ := h
    have r1 := r.set_va i h1
    show Rel K C G H (parSt l us' (σ.set i (some v))) (parSet l ds' (S.set i (.va d)))
    refine Rel.setAll (l := l) (us := us') (ds := ds') (av := av) (σ := σ.set i (some v)) (S := S.set i (.va d)) r1 (Vls.slot (av := []) (fun p _ f => ⟨f.g, f.c, fun j oj e => ?_, fun z => f.h (hs_set (s := Sl.va d) (fun _ _ z => nomatch z) z)⟩) (fun _ z => by cases z) h2)
    obtain ⟨o1, n1⟩ := own_set rfl oj
    rw [List.getElem?_set_ne (fun z => n1 z.symm)] at e
    exact f.o j o1 e
  | (i, true, m) :: l, av, ds, us, σ, S, r, h => by
    obtain ⟨d, ds', p, us', rfl, rfl, h1, h2, h3, h4⟩ := h
    have r1 := r.set_ow i h3 h2.g h2.c h2.o h2.h
    show Rel K C G H (parSt l us' (σ.set i (some (.ref p)))) (parSet l ds' (S.set i (.ow d)))
    refine Rel.setAll (l := l) (us := us') (ds := ds') (av := p :: av) (σ := σ.set i (some (.ref p))) (S := S.set i (.ow d)) r1 (Vls.slot (av := [p]) (fun q hq f => ⟨f.g, f.c, fun j oj e => ?_, fun z => f.h (hs_set (s := Sl.ow d) (fun _ _ z => nomatch z) z)⟩) (fun q hq => by rw [List.mem_singleton.mp hq]; exact List.mem_cons_self) h4)
    by_cases ej : j = i
    · subst ej
      by_cases hj : j < σ.length
      · rw [List.getElem?_set_self hj] at e
        cases e
        exact hq (List.mem_singleton.mpr rfl)
      · rw [List.getElem?_eq_none (by rw [List.length_set]; omega)] at e; cases e
    · rw [List.getElem?_set_ne (fun z => ej z.symm)] at e
      exact f.o j (own_set' ej oj) e
end
def rdP (K : PySem.W.Frag) (C : IC) (l : List (Nat × Bool × ME)) (E : XS) : TA := fun σ H Qv => ∃ G S Q, Rel K C G H σ S ∧ parW l S Q E ∧
  ∀ ds S2 us H2 G2, Post K C G H H2 σ S S2 (parVars l) (parPops l) G2 → Vls K G2 H2 (fun p => H p = none ∧ Fr C G2 σ S2 p) [] l ds us → Q ds S2 → Qv us H2
def rdV (K : PySem.W.Frag) (C : IC) (f : Bool) (m : ME) (E : XS) : TE := fun σ H Qv => ∃ (G : Hp) (S : List Sl) (Q : D → List Sl → Prop), Rel K C G H σ S ∧ (W m).v S (fun d S2 => (f = true → d.isCon = true) ∧ Q d S2) E ∧
  ∀ d S2 v H2 G2, Post K C G H H2 σ S S2 (vars m) (pops m) G2 → (match f with
    | false => Rep K G2 d v
    | true => ∃ p, v = .ref p ∧ H p = none ∧ Fr C G2 σ S2 p ∧ Cell K G2 H2 p d) → Q d S2 → Qv v H2
def JV (X : Cx) (C : IC) (f : Bool) (e : Expr) (m : ME) : Prop := ∀ E : XS, Takes X (liftX X.K C E) → PE X e (rdV X.K C f m E)
section
variable {X : Cx} {C : IC} {s : SC} {fn : FSpec → Prop} {mk : CSpec → Prop} {gl : Str → D → Prop} {kc : Str → Prop} {pos pos' p apos p2 : Pos}
theorem jv_e {e : Expr} {m : ME} (h : JE X C e m) (hm : ∀ (S : List Sl) (Q Q' : D → List Sl → Prop) (E : XS), (W m).v S Q E → (∀ d S, Q d S → Q' d S) → (W m).v S Q' E) : JV X C false e m := fun E tk => PE.imp (h E tk) fun σ H Qv q => by
  obtain ⟨G, S, Q, r, q, k⟩ := q
  exact ⟨G, S, _, r, q, fun d S2 v H2 G2 p rv qq => k d S2 v H2 G2 p rv qq.2⟩
theorem jv_e' {e : Expr} {m : ME} (h : JE X C e m) : JV X C false e m := fun E tk => PE.imp (h E tk) fun σ H Qv q => by
  obtain ⟨G, S, Q, r, q, k⟩ := q
  exact ⟨G, S, _, r, q, fun d S2 v H2 G2 p rv qq => k d S2 v H2 G2 p rv qq.2⟩
theorem jv_f {e : Expr} {m : ME} (h : JF X C e m) : JV X C true e m := fun E tk => PE.imp (h E tk) fun σ H Qv q => by
  obtain ⟨G, S, Q, r, q, k⟩ := q
  have k' : ∀ d S2 v H2 G2, Post X.K C G H H2 σ S S2 (vars m) (pops m) G2 → (∃ p, v = .ref p ∧ H p = none ∧ Fr C G2 σ S2 p ∧ Cell X.K G2 H2 p d) → Q d S2 → Qv v H2 := k
  refine ⟨G, S, fun d S2 => d.isCon = true ∧ Q d S2, r, ?_, fun d S2 p H2 G2 ps hp gp np nh c qq => k' d S2 _ H2 G2 ps ⟨p, rfl, hp, ⟨gp, (r.none_of hp).1, np, nh⟩, c⟩ qq.2⟩
  exact (show (W m).v S (fun d S2 => d.isCon = true ∧ d.isCon = true ∧ Q d S2) _ from by
    have e : (fun (d : D) (S2 : List Sl) => (true = true → d.isCon = true) ∧ Q d S2) = (fun d S2 => d.isCon = true ∧ d.isCon = true ∧ Q d S2) := by
      funext d S2
      exact propext ⟨fun z => ⟨z.1 rfl, z.1 rfl, z.2⟩, fun z => ⟨fun _ => z.1, z.2.2⟩⟩
    rw [← e]
    exact q)
/-- argument lists with new containers -/
inductive JP (X : Cx) (C : IC) : List Expr → List (Nat × Bool × ME) → Prop
  | nil : JP X C [] []
  | cons {e : Expr} {es : List Expr} {i : Nat} {f : Bool} {m : ME} {l : List (Nat × Bool × ME)} : noSt e = true → JV X C f e m → (∀ i ∈ parPops l, i ∉ vars m) → JP X C es l → JP X C (e :: es) ((i, f, m) :: l)
theorem Vls.up {K : PySem.W.Frag} {G G2 H : Hp} {F F' : Addr → Prop} {bs : List Addr} (u : Same G G2) (hf : ∀ p, F p → F' p ∧ p ∉ bs) : ∀ {l : List (Nat × Bool × ME)} {av : List Addr} {ds : List D} {us : List V}, Vls K G H F av l ds us → Vls K G2 H F' (av ++ bs) l ds us
  | [], av, ds, us, h => h
  | (_, false, _) :: r, av, ds, us, h => by
    obtain ⟨d, ds', v, us', rfl, rfl, h1, h2⟩ := h
    exact ⟨d, ds', v, us', rfl, rfl, h1.up u, Vls.up u hf h2⟩
  | (_, true, _) :: r, av, ds, us, h => by
    obtain ⟨d, ds', p, us', rfl, rfl, h1, h2, h3, h4⟩ := h
    refine ⟨d, ds', p, us', rfl, rfl, fun z => ?_, (hf p h2).1, h3.up (fun _ z => z) u, Vls.up (av := p :: av) u hf h4⟩
    rcases List.mem_append.mp z with z | z
    · exact h1 z
    · exact (hf p h2).2 z
theorem JP.pa {es : List Expr} {l : List (Nat × Bool × ME)} (h : JP X C es l) : ∀ E : XS, Takes X (liftX X.K C E) → PA X es (rdP X.K C l E) := by
  induction h with
  | nil =>
    intro E tk
    refine PA.imp pa_nil fun σ H Q q => ?_
    obtain ⟨G, S, Q', r, q1, k⟩ := q
    exact k [] S [] H G (Post.same r) ⟨rfl, rfl⟩ q1
  | @cons e es i f m l hs he hd hr ih =>
    intro E tk
    refine PA.imp (pa_cons (he E tk) (ih E tk) (star_of hs)) fun σ H Q q => ?_
    obtain ⟨G, S, Q', r, q1, k⟩ := q
    refine ⟨G, S, _, r, q1, fun d1 S1 v1 H1 G1 p1 r1 q2 => ?_⟩
    refine ⟨G, S1, _, p1.rel, q2, fun ds S2 us H2 G2 p2 vl q3 => ?_⟩
    have k1 := p1.keep1 p2 hd
    refine k (d1 :: ds) S2 (v1 :: us) H2 (joinG G1 G2) (p1.trans p2 hd) ?_ q3
    have u2 : Same G2 (joinG G1 G2) := joinG_right k1 p2.sub
    cases f with
    | false => exact ⟨d1, ds, v1, us, rfl, rfl, r1.up joinG_left, Vls.up (bs := []) u2 (fun p f => ⟨⟨p1.free f.1, joinG_none (p1.sub.free f.1) f.2.g, f.2.c, f.2.o, f.2.h⟩, fun z => by cases z⟩) vl⟩
    | true =>
      obtain ⟨b, rfl, hb, fb, cb⟩ := r1
      have hb1 : H1 b ≠ none := cb.there
      obtain ⟨o, ho⟩ := Option.ne_none_iff_exists'.mp hb1
      have hb2 : H2 b = some o := p2.frm b o ho (fun z => fb.h z) fun i _ ow => fb.o i ow
      refine ⟨d1, ds, b, us, rfl, rfl, fun z => (by cases z), ⟨hb, joinG_none fb.g ?_, fb.c, fun i ow => fb.o i ((knd_own p2.knd i).mp ow), fun z => fb.h ((knd_hs p2.knd b).mp z)⟩, cb.up (fun o' z => by rw [ho] at z; cases z; exact hb2) joinG_left, Vls.up (av := []) (bs := [b]) u2 (fun p f => ⟨⟨p1.free f.1, joinG_none (p1.sub.free f.1) f.2.g, f.2.c, f.2.o, f.2.h⟩, fun z => ?_⟩) vl⟩
      · cases z : G2 b with
        | none => rfl
        | some u =>
          rcases p2.src b u z with w | w | ⟨j, _, ow, e⟩
          · have := fb.g
            rw [p1.up b u w] at this
            cases this
          · exact absurd w hb1
          · exact absurd e (fb.o j ow)
      · rw [List.mem_singleton.mp z] at f
        exact absurd f.1 hb1
end
/-- behind a value that is returned -/
structure Out (K : PySem.W.Frag) (C : IC) (G2 H2 : Hp) (S2 : List Sl) : Prop where
  ge : Same C.Ge G2
  sub : Same G2 H2
  new : ∀ a o, G2 a = some o → C.Ge a = some o ∨ C.He a = none
  frm : ∀ a o, C.He a = some o → ¬ C.ex a → H2 a = some o
  hnd : ∀ (j : Nat) (a c : Addr), S2[j]? = some (Sl.hn a c) → HandOk G2 H2 a c ∧ G2 a = none
theorem Post.out {K : PySem.W.Frag} {C : IC} {G H H2 G2 : Hp} {σ : L2.St} {S S2 : List Sl} {vs pp : List Nat} (p : Post K C G H H2 σ S S2 vs pp G2) : Out K C G2 H2 S2 :=
  ⟨p.r0.ge.trans p.up, p.sub, p.new, p.rel.frm, fun j a c h => ⟨(p.rel.sl j _ h).2.1.up (fun _ z => z) p.up, p.hav a ⟨j, c, h⟩⟩⟩
structure EndOk (K : PySem.W.Frag) (C : IC) (E : En) (D : Ends) (G : Hp) : Prop where
  nx : ∀ σ2 S2 G2 H2, Same G G2 → Rel K C G2 H2 σ2 S2 → E.nx S2 → D.nx σ2 H2
  rt : ∀ d v S2 G2 H2, Out K C G2 H2 S2 → Rep K G2 d v → E.rt d S2 → D.rt v H2
  bk : ∀ σ2 S2 G2 H2, Same G G2 → Rel K C G2 H2 σ2 S2 → E.bk S2 → D.bk σ2 H2
  ct : ∀ σ2 S2 G2 H2, Same G G2 → Rel K C G2 H2 σ2 S2 → E.ct S2 → D.ct σ2 H2
theorem EndOk.up {K : PySem.W.Frag} {C : IC} {E : En} {D : Ends} {G G2 : Hp} (h : EndOk K C E D G) (u : Same G G2) : EndOk K C E D G2 :=
  ⟨fun σ2 S2 G3 H2 z => h.nx σ2 S2 G3 H2 (u.trans z), h.rt, fun σ2 S2 G3 H2 z => h.bk σ2 S2 G3 H2 (u.trans z), fun σ2 S2 G3 H2 z => h.ct σ2 S2 G3 H2 (u.trans z)⟩
def rdS (K : PySem.W.Frag) (C : IC) (m : MS) (E : XS) : TS := fun D σ H => ∃ G S N, Rel K C G H σ S ∧ N.ex = E ∧ WS m N S ∧ EndOk K C N D G
theorem PS.imp {X : Cx} {e : Stmt} {t t' : TS} (h : PS X e t) (i : ∀ D σ H, t' D σ H → t D σ H) : PS X e t' := ⟨fun pins s σ H D I hw => h.run pins s σ H D I (i D σ H hw)⟩
theorem PSs.imp {X : Cx} {e : List Stmt} {t t' : TS} (h : PSs X e t) (i : ∀ D σ H, t' D σ H → t D σ H) : PSs X e t' := ⟨fun pins s σ H D I hw => h.run pins s σ H D I (i D σ H hw)⟩
def JS (X : Cx) (C : IC) (st : Stmt) (m : MS) : Prop := ∀ E : XS, Takes X (liftX X.K C E) → PassesOwn (model X.prog X.w) X.A X.env X.xe → PS X st (rdS X.K C m E)
def JSs (X : Cx) (C : IC) (st : List Stmt) (m : MS) : Prop := ∀ E : XS, Takes X (liftX X.K C E) → PassesOwn (model X.prog X.w) X.A X.env X.xe → PSs X st (rdS X.K C m E)
end Mi
set_option maxHeartbeats 1000000
namespace Mi
open PySem PySem.Spec L2
open PyProof.Rows hiding St
section
variable {K : PySem.W.Frag} {C : IC} {G H H1 H2 G1 G2 : Hp} {σ : L2.St} {S S1 S2 : List Sl} {vs ws pp qq : List Nat}
theorem par_end {l : List (Nat × Bool × ME)} {ds : List D} {us : List V} {N : En} {D : Ends} (p : Post K C G H H2 σ S S2 (parVars l) (parPops l) G2) (vl : Vls K G2 H2 (fun p => H p = none ∧ Fr C G2 σ S2 p) [] l ds us) (q : N.nx (parSet l ds (thaw (parOk l ds) (parVars l) S2))) (ok : EndOk K C N D G) : D.nx (parSt l us σ) H2 := by
  obtain ⟨G3, u3, r3, st, nn⟩ := p.settleG (parOk l ds)
  have v3 := vl.settle (k := parOk l ds) (F' := Fr C G3 σ (thaw (parOk l ds) (parVars l) S2)) st (fun b f => ⟨?_, f.2.c, fun i ow => f.2.o i (thaw_own ow), fun z => f.2.h (thaw_hs z)⟩) id
  · exact ok.nx _ _ G3 H2 u3 (Rel.setAll r3 v3) q
  · cases z : G3 b with
    | none => rfl
    | some o =>
      rcases nn b (by rw [z]; exact fun w => nomatch w) with w | ⟨i, ow, e⟩
      · exact absurd f.2.g w
      · exact absurd e (f.2.o i ow)
theorem Vls.len {F : Addr → Prop} : ∀ {l : List (Nat × Bool × ME)} {av : List Addr} {ds : List D} {us : List V}, Vls K G H F av l ds us → us.length = l.length
  | [], av, ds, us, h => by
    obtain ⟨_, rfl⟩ := h
    rfl
  | (_, false, _) :: r, av, ds, us, h => by
    obtain ⟨d, ds', v, us', rfl, rfl, h1, h2⟩ := h
    simp [Vls.len h2]
  | (_, true, _) :: r, av, ds, us, h => by
    obtain ⟨d, ds', p, us', rfl, rfl, h1, h2, h3, h4⟩ := h
    simp [Vls.len h4]
end
section
variable {X : Cx} {C : IC} {s : SC} {fn : FSpec → Prop} {mk : CSpec → Prop} {gl : Str → D → Prop} {kc : Str → Prop} {pos pos' p apos p2 px py pz spos pt : Pos}
/-- one name: the end -/
theorem one_end {i : Nat} {f : Bool} {m : ME} {N : En} {D : Ends} {G H : Hp} {σ : L2.St} {S : List Sl} {E : XS} (hE : N.ex = E) (r : Rel X.K C G H σ S) (q : WS (.par [(i, f, m)]) N S) (ok : EndOk X.K C N D G) : rdV X.K C f m E σ H fun v H1 => D.nx (σ.set i (some v)) H1 := by
  refine ⟨G, S, fun d S1 => N.nx (parSet [(i, f, m)] [d] (thaw (parOk [(i, f, m)] [d]) (parVars [(i, f, m)]) S1)), r, by rw [← hE]; exact q, fun d S2 v H2 G2 p hv qq => ?_⟩
  have p' : Post X.K C G H H2 σ S S2 (parVars [(i, f, m)]) (parPops [(i, f, m)]) G2 := p.mono (fun j hj => by simpa [parVars] using hj) (fun j hj => by simpa [parPops] using hj)
  refine par_end (l := [(i, f, m)]) (ds := [d]) (us := [v]) p' ?_ qq ok
  cases f with
  | false => exact ⟨d, [], v, [], rfl, rfl, hv, rfl, rfl⟩
  | true =>
    obtain ⟨b, rfl, hb, fb, cb⟩ := hv
    exact ⟨d, [], b, [], rfl, rfl, fun z => (by cases z), ⟨hb, fb⟩, cb, rfl, rfl⟩
theorem sw_plain {e : Expr} {t : Option Expr} {l : Nat} {env : Env} (h : noComp e = true) : swapsWith e t l env = pure false := by
  cases e <;> first | rfl | cases h
theorem js_one (g : XG fn mk gl kc X s) {i : Nat} {f : Bool} {x : Str} {e : Expr} {m : ME} (hx : locB s i x = true) (hc : noComp e = true) (he : JV X C f e m) : JS X C (.Assign [.Name x px] e pos) (.par [(i, f, m)]) := by
  obtain ⟨h1, h2, h3⟩ := g.loc hx
  intro E tk hp
  refine PS.imp (ps_set g.nd h1 h2 (he E tk) (sw_plain hc) h3) fun D σ H q => ?_
  obtain ⟨G, S, N, r, hE, q, ok⟩ := q
  exact one_end hE r q ok
variable {vs : List Nat} {gt : TG} {it tst elt : ME} {x tg iter : Expr} {ifs : List Expr} {scope : Scope}
theorem lc_V (L : LcP fn mk gl kc C X s vs gt it tst elt x tg iter ifs scope) {f : Bool} {E : XS} {σ : L2.St} {H : Hp} {Qv : VK} (q : rdV X.K C f (.lc vs elt gt it tst) E σ H Qv) :
    tLc (rdI X.K C (W it).i (vars it) (pops it) E) (rdG X.K C gt) (rdT X.K C (W tst).t (vars tst) (pops tst) noX) (rdE X.K C (W elt).v (vars elt) (pops elt) noX) vs σ H Qv := by
  obtain ⟨G, S, Q, r, q, k⟩ := q
  refine lc_loop (Qe := fun ys S1 => (f = true → (D.lst ys).isCon = true) ∧ Q (.lst ys) S1) L.pe L.pt L.gv r q fun acc us D S1 H5 G5 p hD nD nh gD h5 ra qq => ?_
  have pp : pops (ME.lc vs elt gt it tst) = pops it := by simp [pops, L.pe, L.pt]
  cases f with
  | false =>
    refine k (.lst acc) S1 _ H5 (upd G5 D (.lst us)) ?_ ⟨D, us, rfl, upd_same, ra.up (same_upd gD)⟩ qq.2
    rw [pp]
    exact p.add h5 hD gD
  | true =>
    refine k (.lst acc) S1 _ H5 G5 ?_ ⟨D, rfl, hD, ⟨gD, (r.none_of hD).1, nD, nh⟩, us, h5, ra⟩ qq.2
    rw [pp]
    exact p
def swLc (s : SC) (y : Str) (py : Pos) (vline : Nat) (scope : Scope) : Bool := (match s.sc.kind with
  | .function => true
  | _ => false) && ((match s.sc.names.lookup y with
  | some .local => true
  | _ => false) && ((py.line == vline) && !(scope.names.any fun (n, k) => n == y && (k == .local || k == .cell))))
theorem js_oneLc (g : XG fn mk gl kc X s) {i : Nat} {f : Bool} {y : Str} (L : LcP fn mk gl kc C X s vs gt it tst elt x tg iter ifs scope) (hx : s.N[i]? = some y) (hs : swLc s y py pos.line scope = true) : JS X C (.Assign [.Name y py] (.ListComp x [⟨tg, iter, ifs, 0⟩] scope pos) spos) (.par [(i, f, .lc vs elt gt it tst)]) := by
  obtain ⟨k1, hs⟩ := and_of hs
  obtain ⟨k2, hs⟩ := and_of hs
  obtain ⟨k3, k4⟩ := and_of hs
  have hk : X.env.scope.kind = .function := by
    rw [g.sc]
    revert k1
    cases s.sc.kind <;> simp
  have hl : X.env.scope.names.lookup y = some .local := by
    rw [g.sc]
    revert k2
    cases s.sc.names.lookup y with
    | none => simp
    | some k => cases k <;> simp
  have bo := blkOk_by L.blk
  rw [← g.N, ← g.sc] at bo
  have hN : X.N[i]? = some y := by rw [g.N]; exact hx
  intro E tk hp
  have ee := ps_setLc (elt := x) (pos := pos) (py := py) (spos := spos) (g := rdG X.K C gt) (tt := rdT X.K C (W tst).t (vars tst) (pops tst) noX) (te := rdE X.K C (W elt).v (vars elt) (pops elt) noX) g.calm g.nd hN hl (sw_true hk hl k3 (by simpa using k4)) (L.it E tk) bo (fun sh H CC cl fp => L.tg _ (g.blk sh H scope cl CC fp) rfl) (fun sh H CC cl fp => L.ts _ (g.blk sh H scope cl CC fp) rfl noX takes_noX) (fun sh H CC cl fp => L.el _ (g.blk sh H scope cl CC fp) rfl noX takes_noX) L.fd
  rw [own_snd] at ee
  refine PS.imp ee fun D σ H q => ?_
  obtain ⟨G, S, N, r, hE, q, ok⟩ := q
  exact lc_V L (one_end hE r q ok)
def isFunK (s : SC) : Bool := match s.sc.kind with
  | .function => true
  | _ => false
def isLoc (s : SC) (y : Str) : Bool := match s.sc.names.lookup y with
  | some .local => true
  | _ => false
theorem isFunK_of (g : XG fn mk gl kc X s) (h : isFunK s = true) : X.env.scope.kind = .function := by
  rw [g.sc]
  unfold isFunK at h
  revert h
  cases s.sc.kind <;> simp
theorem isLoc_of (g : XG fn mk gl kc X s) {y : Str} (h : isLoc s y = true) : X.env.scope.names.lookup y = some .local := by
  rw [g.sc]
  unfold isLoc at h
  revert h
  cases s.sc.names.lookup y with
  | none => simp
  | some k => cases k <;> simp
def isStar : Expr → Bool
  | .Starred _ _ => true
  | _ => false
def swNm (loc : Str → Bool) (ts : List Expr) : List Str := ts.filterMap fun
    | .Name id pos => if loc id && pos.line == (ts.head?.map (·.pos.line)).getD 0 then some id else none
    | _ => none
/-- swappedStores, by the scope -/
def swpC (bk : Bool) (loc : Str → Bool) (ts vs : List Expr) : Option (Option (List Str)) :=
  if (!(ts.length == 2 || ts.length == 3) || vs.length != ts.length || !bk) = true then some none else
  if vs.any isStar = true then some none else
  if ((swNm loc ts).length != ts.length || (swNm loc ts).eraseDups.length != (swNm loc ts).length) = true then some none else
  if vs.all (foldedForSure 8) = true then some none else
  if vs.all (constantsAlone 8) = true then none else some (some (swNm loc ts))
theorem swp_of {env : Env} {loc : Str → Bool} {ts vs : List Expr} {k k2 : Nat} {p1 p2 : Pos} {r : Option (List Str)} (hb : env.blockKind = .function) (hl : ∀ id, (env.kindOf id == some .local) = loc id) (h : swpC true loc ts vs = some r) : swappedStores [.Tuple ts k p1] (.Tuple vs k2 p2) env = pure r := by
  have el : (fun id => (env.kindOf id == some NameKind.local)) = loc := funext hl
  subst el
  unfold swappedStores
  unfold swpC at h
  have e1 : (env.blockKind != ScopeKind.function) = false := by rw [hb]; rfl
  dsimp only
  rw [e1]
  show (if (!(ts.length == 2 || ts.length == 3) || vs.length != ts.length || false) = true then pure none else
    if vs.any isStar = true then pure none else
    if ((swNm (fun id => (env.kindOf id == some NameKind.local)) ts).length != ts.length || (swNm (fun id => (env.kindOf id == some NameKind.local)) ts).eraseDups.length != (swNm (fun id => (env.kindOf id == some NameKind.local)) ts).length) = true then pure none else
    if vs.all (foldedForSure 8) = true then pure none else
    if vs.all (constantsAlone 8) = true then _ else pure (some (swNm (fun id => (env.kindOf id == some NameKind.local)) ts)) : Sem (Option (List Str))) = pure r
  by_cases c1 : (!(ts.length == 2 || ts.length == 3) || vs.length != ts.length || !true) = true
  · rw [if_pos c1] at h
    cases h
    exact if_pos c1
  rw [if_neg c1] at h
  rw [if_neg (show ¬ (!(ts.length == 2 || ts.length == 3) || vs.length != ts.length || false) = true from c1)]
  by_cases c2 : vs.any isStar = true
  · rw [if_pos c2] at h ⊢
    cases h
    rfl
  rw [if_neg c2] at h ⊢
  by_cases c3 : ((swNm (fun id => (env.kindOf id == some NameKind.local)) ts).length != ts.length || (swNm (fun id => (env.kindOf id == some NameKind.local)) ts).eraseDups.length != (swNm (fun id => (env.kindOf id == some NameKind.local)) ts).length) = true
  · rw [if_pos c3] at h ⊢
    cases h
    rfl
  rw [if_neg c3] at h ⊢
  by_cases c4 : vs.all (foldedForSure 8) = true
  · rw [if_pos c4] at h ⊢
    cases h
    rfl
  rw [if_neg c4] at h ⊢
  by_cases c5 : vs.all (constantsAlone 8) = true
  · rw [if_pos c5] at h
    cases h
  rw [if_neg c5] at h ⊢
  cases h
  rfl
theorem swp_g (g : XG fn mk gl kc X s) (hk : isFunK s = true) {ts vs : List Expr} {k k2 : Nat} {p1 p2 : Pos} {r : Option (List Str)} (h : swpC true (isLoc s) ts vs = some r) : swappedStores [.Tuple ts k p1] (.Tuple vs k2 p2) X.env = pure r := by
  have hs := isFunK_of g hk
  refine swp_of (by unfold Env.blockKind; rw [hs]; rfl) (fun id => ?_) h
  show (X.env.scope.names.lookup id == some NameKind.local) = _
  rw [g.sc]
  unfold isLoc
  cases s.sc.names.lookup id with
  | none => rfl
  | some k => cases k <;> rfl
theorem js_two (g : XG fn mk gl kc X s) {i j : Nat} {f f2 : Bool} {m m2 : ME} {x y : Str} {a b : Expr} {kt k2 : Nat} {pt2 : Pos} (hk : isFunK s = true) (hi : s.N[i]? = some x) (hj : s.N[j]? = some y) (hij : i ≠ j) (hx : isLoc s x = true) (hy : isLoc s y = true)
    (hw : swpC true (isLoc s) [.Name x px, .Name y py] [a, b] = some (some [x, y])) (h : JP X C [a, b] [(i, f, m), (j, f2, m2)]) : JS X C (.Assign [.Tuple [.Name x px, .Name y py] kt pt] (.Tuple [a, b] k2 pt2) pos) (.par [(i, f, m), (j, f2, m2)]) := by
  intro E tk hp
  refine PS.imp (ps_par g.calm g.nd (by rw [g.N]; exact hi) (by rw [g.N]; exact hj) hij (isLoc_of g hx) (isLoc_of g hy) (h.pa E tk) (swp_g g hk hw)) fun D σ H q => ?_
  obtain ⟨G, S, N, r, hE, q, ok⟩ := q
  refine ⟨G, S, _, r, by rw [← hE]; exact q, fun ds S2 us H2 G2 p vl qq => ?_⟩
  have hl := vl.len
  match us, hl, vl with
  | [u, v], _, vl => exact ⟨u, v, rfl, par_end p vl qq ok⟩
theorem js_three (g : XG fn mk gl kc X s) {i j l : Nat} {f f2 f3 : Bool} {m m2 m3 : ME} {x y z : Str} {a b c : Expr} {kt k2 : Nat} {pt2 : Pos} (hk : isFunK s = true) (hi : s.N[i]? = some x) (hj : s.N[j]? = some y) (hl : s.N[l]? = some z) (hij : i ≠ j) (hil : i ≠ l) (hjl : j ≠ l) (hx : isLoc s x = true) (hy : isLoc s y = true) (hz : isLoc s z = true)
    (hw : swpC true (isLoc s) [.Name x px, .Name y py, .Name z pz] [a, b, c] = some (some [x, y, z])) (h : JP X C [a, b, c] [(i, f, m), (j, f2, m2), (l, f3, m3)]) : JS X C (.Assign [.Tuple [.Name x px, .Name y py, .Name z pz] kt pt] (.Tuple [a, b, c] k2 pt2) pos) (.par [(i, f, m), (j, f2, m2), (l, f3, m3)]) := by
  intro E tk hp
  refine PS.imp (ps_par3 g.calm g.nd (by rw [g.N]; exact hi) (by rw [g.N]; exact hj) (by rw [g.N]; exact hl) hij hil hjl (isLoc_of g hx) (isLoc_of g hy) (isLoc_of g hz) (h.pa E tk) (swp_g g hk hw)) fun D σ H q => ?_
  obtain ⟨G, S, N, r, hE, q, ok⟩ := q
  refine ⟨G, S, _, r, by rw [← hE]; exact q, fun ds S2 us H2 G2 p vl qq => ?_⟩
  have hl := vl.len
  match us, hl, vl with
  | [u, v, w], _, vl => exact ⟨u, v, w, rfl, par_end p vl qq ok⟩
def swNone (s : SC) : Expr → Expr → Bool
  | .Name _ _, e => noComp e
  | .Tuple ts _ _, .Tuple vs _ _ => isFunK s && (match swpC true (isLoc s) ts vs with
    | some none => true
    | _ => false)
  | .Tuple _ _ _, _ => true
  | _, _ => false
theorem js_asg (g : XG fn mk gl kc X s) {t e : Expr} {gt : TG} {m : ME} (ht : gB s gt t = true) (hw : swNone s t e = true) (he : JE X C e m) : JS X C (.Assign [t] e pos) (.asg gt m) := by
  have h1 : swapsWithSole [t] e pos.line X.env = pure false := by
    show swapsWith e (some t) pos.line X.env = pure false
    unfold swNone at hw
    split at hw
    · exact sw_plain hw
    · rfl
    · cases e <;> rfl
    · cases hw
  have h2 : swappedStores [t] e X.env = pure none := by
    unfold swNone at hw
    split at hw
    · cases e <;> rfl
    · obtain ⟨w1, w2⟩ := and_of hw
      refine swp_g g w1 ?_
      split at w2
      · assumption
      · cases w2
    · rename_i hne
      cases e <;> first | rfl | exact absurd rfl (hne _ _ _)
    · cases hw
  have h3 : (assignEach [t] X.env).map (·.2) = [assign t X.env] := by
    cases t <;> first | rfl | cases hw
  intro E tk hp
  refine PS.imp (ps_asg (he E tk) (pg_of g (C := C) ht) h1 h2 h3) fun D σ H q => ?_
  obtain ⟨G, S, N, r, hE, q, ok⟩ := q
  refine ⟨G, S, _, r, by rw [← hE]; exact q, fun d S2 v H2 G2 p rv qq => ?_⟩
  obtain ⟨G3, u3, r3, st, _⟩ := p.settleG d.hard
  exact ⟨G3, thaw d.hard (vars m) S2, _, d, r3, st d v id rv, qq, fun σ2 S3 tg q3 => ok.nx σ2 S3 G3 H2 u3 tg.rel q3⟩
theorem js_aug (g : XG fn mk gl kc X s) {i : Nat} {x : Str} {o : Operator} {e : Expr} {m : ME} (hx : locB s i x = true) (ho : o = .Add ∨ o = .Sub) (he : JE X C e m) : JS X C (.AugAssign (.Name x px) o e pos) (.aug i o m) := by
  obtain ⟨h1, h2, h3⟩ := g.loc hx
  intro E tk hp
  have fin : ∀ {Dn : Ends} {σ : L2.St} {H : Hp} {f : Int → Int → Int}, (∀ (a b : D) (Q : DK), binSem o a b (fun r => (∃ n, r = .int n) ∧ Q r) → ∃ i j, a = .int i ∧ b = .int j ∧ Q (.int (f i j))) → rdS X.K C (.aug i o m) E Dn σ H → tAug i (rdE X.K C (W m).v (vars m) (pops m) E) (ipI f) Dn σ H := by
    intro Dn σ H f hf q
    obtain ⟨G, S, N, r, hE, ⟨xd, e1, q⟩, ok⟩ := q
    obtain ⟨v, G2, e2, p0, rv0⟩ := r.read (vs := [i]) (pp := []) e1 (by simp)
    refine ⟨v, e2, G, S, _, r, by rw [← hE]; exact q, fun y S2 w H2 G3 p rw2 qq => ?_⟩
    obtain ⟨n1, n2, rfl, rfl, q9⟩ := hf xd y (fun r => N.nx (S2.set i (.va r))) qq
    cases rv0
    cases rw2
    exact ⟨n1, n2, rfl, rfl, ok.nx _ _ G H2 (Same.refl _) (p.rel.set_va i (d := .int (f n1 n2)) rfl) q9⟩
  rcases ho with rfl | rfl
  · refine PS.imp (ps_aug g.nd h1 h2 (he E tk) ip_add h3) fun D σ H q => fin (fun a b Q h => ?_) q
    cases a <;> cases b <;> first | exact (h : False).elim | skip
    · exact ⟨_, _, rfl, rfl, (And.right h)⟩
    all_goals (obtain ⟨_, ⟨n, z⟩, _⟩ := h; cases z)
  · refine PS.imp (ps_aug g.nd h1 h2 (he E tk) ip_sub h3) fun D σ H q => fin (fun a b Q h => ?_) q
    cases a <;> cases b <;> first | exact (h : False).elim | skip
    · exact ⟨_, _, rfl, rfl, (And.right h)⟩
theorem js_exp {e : Expr} {m : ME} (hc : noComp e = true) (he : JE X C e m) : JS X C (.Expr e pos) (.exp m) := by
  intro E tk hp
  refine PS.imp (ps_expr (he E tk) (sw_plain hc)) fun D σ H q => ?_
  obtain ⟨G, S, N, r, hE, q, ok⟩ := q
  exact ⟨G, S, _, r, by rw [← hE]; exact q, fun d S2 v H2 G2 p rv qq => ok.nx σ S2 G H2 (Same.refl _) p.rel qq⟩
theorem js_ret {e : Expr} {m : ME} (he : JE X C e m) : JS X C (.Return (some e) pos) (.ret m) := by
  intro E tk hp
  refine PS.imp (ps_ret (he E tk)) fun D σ H q => ?_
  obtain ⟨G, S, N, r, hE, q, ok⟩ := q
  exact ⟨G, S, _, r, by rw [← hE]; exact q, fun d S2 v H2 G2 p rv qq => ok.rt d v S2 G2 H2 p.out rv qq⟩
theorem js_retn : JS X C (.Return none pos) .retn := by
  intro E tk hp
  refine PS.imp ps_retN fun D σ H q => ?_
  obtain ⟨G, S, N, r, hE, q, ok⟩ := q
  exact ok.rt .non .non S G H (Post.same (vs := []) (pp := []) r).out rfl q
theorem js_if {c : Expr} {a b : List Stmt} {mc : ME} {ma mb : MS} (hc : JT X C c mc) (ha : JSs X C a ma) (hb : JSs X C b mb) : JS X C (.If c a b pos) (.ifs mc ma mb) := by
  intro E tk hp
  refine PS.imp (ps_if (hc E tk) (ha E tk hp) (hb E tk hp)) fun D σ H q => ?_
  obtain ⟨G, S, N, r, hE, q, ok⟩ := q
  refine ⟨G, S, _, r, by rw [← hE]; exact q, fun k S2 H2 p qq => ?_⟩
  cases k with
  | true => exact ⟨G, S2, N, p.rel, hE, qq, ok⟩
  | false => exact ⟨G, S2, N, p.rel, hE, qq, ok⟩
theorem js_pass : JS X C (.Pass pos) .pas := fun E tk hp => PS.imp ps_pass fun D σ H q => by
  obtain ⟨G, S, N, r, hE, q, ok⟩ := q
  exact ok.nx σ S G H (Same.refl _) r q
theorem js_doc {x : Str} {j : Nat} : JS X C (.Expr (.Constant (.str x) j pos) pos') .pas := fun E tk hp => PS.imp ps_doc fun D σ H q => by
  obtain ⟨G, S, N, r, hE, q, ok⟩ := q
  exact ok.nx σ S G H (Same.refl _) r q
theorem js_brk : JS X C (.Break pos) .brk := fun E tk hp => PS.imp ps_break fun D σ H q => by
  obtain ⟨G, S, N, r, hE, q, ok⟩ := q
  exact ok.bk σ S G H (Same.refl _) r q
theorem js_con : JS X C (.Continue pos) .con := fun E tk hp => PS.imp ps_continue fun D σ H q => by
  obtain ⟨G, S, N, r, hE, q, ok⟩ := q
  exact ok.ct σ S G H (Same.refl _) r q
theorem jss_nil : JSs X C [] .nil := fun E tk hp => PSs.imp pss_nil fun D σ H q => by
  obtain ⟨G, S, N, r, hE, q, ok⟩ := q
  exact ok.nx σ S G H (Same.refl _) r q
theorem jss_cons {st : Stmt} {rest : List Stmt} {a r : MS} (h1 : JS X C st a) (h2 : JSs X C rest r) : JSs X C (st :: rest) (.seq a r) := fun E tk hp => PSs.imp (pss_cons (h1 E tk hp) (h2 E tk hp)) fun D σ H q => by
  obtain ⟨G, S, N, rl, hE, q, ok⟩ := q
  exact ⟨G, S, { nx := fun S' => WS r N S', rt := N.rt, bk := N.bk, ct := N.ct, ex := N.ex }, rl, hE, q, ⟨fun σ2 S2 G2 H2 u r2 q2 => ⟨G2, S2, N, r2, hE, q2, ok.up u⟩, ok.rt, ok.bk, ok.ct⟩⟩
end
end Mi
set_option maxHeartbeats 1000000
namespace Mi
open PySem PySem.Spec L2
open PyProof.Rows hiding St
section
variable {X : Cx} {C : IC} {s : SC} {fn : FSpec → Prop} {mk : CSpec → Prop} {gl : Str → D → Prop} {kc : Str → Prop} {pos pos' p apos p2 px py pz spos pt : Pos}
theorem getO_S {K : PySem.W.Frag} {G H : Hp} {σ : L2.St} {S : List Sl} (r : Rel K C G H σ S) {i : Nat} {ds : List D} (h : getO S i = some (.lst ds)) : ∃ b us, σ[i]? = some (some (.ref b)) ∧ H b = some (.lst us) ∧ Reps K G ds us ∧ S[i]? = some (.ow (.lst ds)) := by
  have hS := getO_ow h
  obtain ⟨b, e1, e2, e3, us, e4, e5⟩ := r.sl i _ hS
  exact ⟨b, us, e1, e4, e5, hS⟩
theorem js_app (g : XG fn mk gl kc X s) {i : Nat} {x n : Str} {y : Expr} {m : ME} (hn : n = ("append" : Str)) (hx : visB s i x = true) (hl : (apos.endLine == pos.line) = true) (hs : noSt y = true) (he : JE X C y m) : JS X C (.Expr (.Call (.Attribute (.Name x p) n apos) [y] [] pos) pos') (.app i m) := by
  subst hn
  obtain ⟨v1, v2, v3, v4⟩ := g.vis hx
  have st : starEach [y] X.env = [(false, eval y X.env)] := by rw [star_of hs]; rfl
  intro E tk hp
  refine PS.imp (ps_expr (pe_bm PySem.F.plainAttrs_list PySem.F.slot_list_append PySem.F.type_list_append mt_append (pe_var v1 v2 v3 v4) (pa_cons (he E tk) pa_nil (star_of hs)) rfl (by rw [st]; rfl) hl (star_of hs) rfl) rfl) fun D σ H q => ?_
  obtain ⟨G, S, N, r, hE, ⟨⟨ds0, h0⟩, q⟩, ok⟩ := q
  obtain ⟨b, us0, e1, e2, _, _⟩ := getO_S r h0
  refine ⟨_, e1, .inl ⟨rfl, us0, SqL.of e2⟩, G, S, _, r, by rw [← hE]; exact q, fun d S2 v H2 G2 ps rv qq => ?_⟩
  obtain ⟨ds, h1, h2, q⟩ := qq
  obtain ⟨G3, u3, r3, st3, _⟩ := ps.settleG d.hard
  obtain ⟨b', us, f1, f2, f3, f4⟩ := getO_S r3 h1
  rw [e1] at f1
  cases f1
  have rv3 := st3 d v id rv
  refine ⟨b, us, v, rfl, rfl, f2, by rw [lim_eq, ← f3.len]; exact h2, ok.nx σ _ G3 _ u3 (r3.write (d' := .lst (ds ++ [d])) f4 e1 ⟨us ++ [v], upd_same, f3.app (Reps.one rv3)⟩) q⟩
theorem reps_map {K : PySem.W.Frag} {G G2 : Hp} {k : Bool} (st : ∀ (d : D) (v : V), (k = true → d.hard = true) → Rep K G d v → Rep K G2 d v) : ∀ {ds : List D} {us : List V}, (k = true → hardAll ds = true) → Reps K G ds us → Reps K G2 ds us
  | [], us, _, h => h
  | d :: ds, us, hk, h => by
    obtain ⟨v, r, e, h1, h2⟩ := h
    have hk' : k = true → d.hard = true ∧ hardAll ds = true := fun z => by simpa [hardAll] using hk z
    exact ⟨v, r, e, st d v (fun z => (hk' z).1) h1, reps_map st (fun z => (hk' z).2) h2⟩
theorem js_ext (g : XG fn mk gl kc X s) {i : Nat} {x n : Str} {y : Expr} {m : ME} (hn : n = ("extend" : Str)) (hx : visB s i x = true) (hl : (apos.endLine == pos.line) = true) (hs : noSt y = true) (he : JE X C y m) : JS X C (.Expr (.Call (.Attribute (.Name x p) n apos) [y] [] pos) pos') (.ext i m) := by
  subst hn
  obtain ⟨v1, v2, v3, v4⟩ := g.vis hx
  have st : starEach [y] X.env = [(false, eval y X.env)] := by rw [star_of hs]; rfl
  intro E tk hp
  refine PS.imp (ps_expr (pe_bm PySem.F.plainAttrs_list PySem.F.slot_list_extend PySem.F.type_list_extend mt_extend (pe_var v1 v2 v3 v4) (pa_cons (he E tk) pa_nil (star_of hs)) rfl (by rw [st]; rfl) hl (star_of hs) rfl) rfl) fun D σ H q => ?_
  obtain ⟨G, S, N, r, hE, ⟨⟨ds0, h0⟩, q⟩, ok⟩ := q
  obtain ⟨b, us0, e1, e2, _, _⟩ := getO_S r h0
  refine ⟨_, e1, .inl ⟨rfl, us0, SqL.of e2⟩, G, S, _, r, by rw [← hE]; exact q, fun d S2 v H2 G2 ps rv qq => ?_⟩
  obtain ⟨es, ds, rfl, h1, h2, q⟩ := qq
  obtain ⟨a, ws, rfl, w1, w2⟩ := rv
  obtain ⟨G3, u3, r3, st3, _⟩ := ps.settleG (hardAll es)
  obtain ⟨b', us, f1, f2, f3, f4⟩ := getO_S r3 h1
  rw [e1] at f1
  cases f1
  have rv3 := reps_map st3 id w2
  refine ⟨b, a, us, ws, rfl, rfl, f2, ps.sub _ _ w1, by rw [lim_eq, ← f3.len, ← w2.len]; exact h2, ok.nx σ _ G3 _ u3 (r3.write (d' := .lst (ds ++ es)) f4 e1 ⟨us ++ ws, upd_same, f3.app rv3⟩) q⟩
theorem PSet.or {t t' : TSet} (h : PSet X t) (h' : PSet X t') : PSet X (fun o i v H Q => t o i v H Q ∨ t' o i v H Q) := by
  intro pins s σ H o i v ov iv u Q I ro ri rv q
  rcases q with q | q
  · exact h pins s σ H o i v ov iv u Q I ro ri rv q
  · exact h' pins s σ H o i v ov iv u Q I ro ri rv q
theorem js_sti (g : XG fn mk gl kc X s) {i : Nat} {x : Str} {k e : Expr} {mk' m : ME} (hx : visB s i x = true) (hs : noSl k = true) (hd : ∀ i ∈ pops mk', i ∉ vars m) (hk : JE X C k mk') (he : JE X C e m) : JS X C (.Assign [.Subscript (.Name x p) k p2] e pos) (.sti i mk' m) := by
  obtain ⟨v1, v2, v3, v4⟩ := g.vis hx
  intro E tk hp
  have hsw : swapsWithSole [.Subscript (.Name x p) k p2] e pos.line X.env = pure false := by cases e <;> rfl
  have hw : swappedStores [.Subscript (.Name x p) k p2] e X.env = pure none := by cases e <;> rfl
  refine PS.imp (ps_asg (he E tk) (pg_sub (pe_var v1 v2 v3 v4) (hk E tk) (PSet.or set_list (set_dict (by have := g.un; omega))) (fun v => ?_)) hsw hw rfl) fun D σ H q => ?_
  · cases k <;> first | rfl | cases hs
  obtain ⟨G, S, N, r, hE, q, ok⟩ := q
  refine ⟨G, S, _, r, by rw [← hE]; exact q, fun d S1 v H1 G1 p1 rv q1 => ?_⟩
  obtain ⟨⟨d0, h0⟩, q1⟩ := q1
  have hS := getO_ow h0
  obtain ⟨b, e1, _⟩ := p1.rel.sl i _ hS
  refine ⟨_, e1, G, S1, _, p1.rel, by rw [← hE]; exact q1, fun dk S2 w H2 G2 p2 rk q2 => ?_⟩
  have p12 := (p1.trans (p2.flat (ws := [])) hd).mono (ws := vars m) (fun j hj => by simpa using hj) (fun j hj => hj)
  obtain ⟨G3, u3, r3, st3, _⟩ := p12.settleG d.hard
  have rv3 := st3 d v id (rv.up joinG_left)
  rcases q2 with ⟨ds, n, j, h1, rfl, h2, q⟩ | ⟨ks, ws, h1, h2, h3, q⟩
  · cases rk
    obtain ⟨b', us, f1, f2, f3, f4⟩ := getO_S r3 h1
    rw [e1] at f1
    cases f1
    exact .inl ⟨b, us, n, j, rfl, rfl, f2, by rw [← f3.len]; exact h2, ok.nx σ _ G3 _ u3 (r3.write (d' := .lst (ds.set j d)) f4 e1 ⟨us.set j v, upd_same, f3.set j rv3⟩) q⟩
  · have f4 := getO_ow h1
    obtain ⟨b', f1, g1, g2, kvs, f2, f3, f5⟩ := r3.sl i _ f4
    rw [e1] at f1
    cases f1
    obtain ⟨ky, rfl⟩ := isKey_ex h2
    obtain rfl := keyD_rep rk
    obtain ⟨z1, z2⟩ := putK_rep ky rv3 f3 f5
    refine .inr ⟨b, _, rfl, .inl ⟨kvs, ky, f2, rfl, ?_, rfl⟩, ok.nx σ _ G3 _ u3 (r3.write (d' := .dct _ _) f4 e1 ⟨putK kvs ky v, upd_same, z1, z2⟩) q⟩
    rw [← f3, List.length_map] at h3
    rw [lim_eq]
    exact h3
theorem Rel.lock {K : PySem.W.Frag} {G H : Hp} {σ : L2.St} {S : List Sl} (r : Rel K C G H σ S) {i : Nat} {ds : List D} {b : Addr} (h : S[i]? = some (.ow (.lst ds))) (e : σ[i]? = some (some (.ref b))) : Rel K C G H σ (S.set i (.lk b (.lst ds))) := by
  have hi := (List.getElem?_eq_some_iff.mp h).1
  have ow : Own S i := ⟨_, h, rfl⟩
  have own' : ∀ j, Own (S.set i (.lk b (.lst ds))) j → Own S j := fun j oj => by
    by_cases ej : j = i
    · subst ej; exact ow
    · exact own_set' ej oj
  refine ⟨r.sub, r.ge, r.new, r.frm, r.dom, by rw [List.length_set]; exact r.len, fun j t z => ?_, fun j k b njk oj ok => r.dis j k b njk (own' j oj) (own' k ok), fun j b oj ej z => r.hdis j b (own' j oj) ej (hs_set (fun _ _ z => by cases z) z)⟩
  by_cases ej : i = j
  · subst ej
    rw [List.getElem?_set_self hi] at z
    cases z
    obtain ⟨b', e', g1, g2, g3⟩ := r.sl i _ h
    rw [e] at e'
    cases e'
    exact ⟨e, g1, g2, g3⟩
  · rw [List.getElem?_set_ne ej] at z
    exact r.sl j t z
theorem Rel.unlock {K : PySem.W.Frag} {G H : Hp} {σ : L2.St} {S : List Sl} (r : Rel K C G H σ S) {i : Nat} {ds : List D} {b : Addr} (h : S[i]? = some (.lk b (.lst ds))) : Rel K C G H σ (S.set i (.ow (.lst ds))) := by
  have hi := (List.getElem?_eq_some_iff.mp h).1
  have ow : Own S i := ⟨_, h, rfl⟩
  have own' : ∀ j, Own (S.set i (.ow (.lst ds))) j → Own S j := fun j oj => by
    by_cases ej : j = i
    · subst ej; exact ow
    · exact own_set' ej oj
  refine ⟨r.sub, r.ge, r.new, r.frm, r.dom, by rw [List.length_set]; exact r.len, fun j t z => ?_, fun j k b njk oj ok => r.dis j k b njk (own' j oj) (own' k ok), fun j b oj ej z => r.hdis j b (own' j oj) ej (hs_set (fun _ _ z => by cases z) z)⟩
  by_cases ej : i = j
  · subst ej
    rw [List.getElem?_set_self hi] at z
    cases z
    obtain ⟨e, g1, g2, g3⟩ := r.sl i _ h
    exact ⟨b, e, g1, g2, g3⟩
  · rw [List.getElem?_set_ne ej] at z
    exact r.sl j t z
/-- the turns of a loop over known items -/
theorem fr_turns {K : PySem.W.Frag} {gt : TG} {mb : MS} {N : En} {D : Ends} {E : XS} {J : It} {items : List Mi.D} {G : Hp} {hd fin : List Sl → Prop} (hE : N.ex = E) (ok : EndOk K C N D G) {tb : TS} (htb : tb = rdS K C mb E)
    (hfin : ∀ σ2 S2 G2 H2, Same G G2 → Rel K C G2 H2 σ2 S2 → hd S2 → fin S2 → D.nx σ2 H2)
    (hst : ∀ σ2 S2 G2 H2, Same G G2 → Rel K C G2 H2 σ2 S2 → hd S2 → Steps K G2 J items ∨ (∀ (i : Nat) (d : Mi.D), items[i]? = some d → J.go i H2 ∧ ∀ x H', J.yld i H2 x H' → H' = H2 ∧ Rep K G2 d x) ∧ J.stop items.length H2)
    {σ : L2.St} {H : Hp} {S : List Sl} {G1 : Hp} (u : Same G G1) (r : Rel K C G1 H σ S) (q : frGo gt (WS mb) N hd fin items S) :
    ∃ Wt : Nat → Nat → L2.St → Hp → Prop, (∃ m, Wt 0 m σ H) ∧ ∀ i m σ H, Wt i m σ H →
      (J.stop i H ∧ D.nx σ H) ∨ (J.go i H ∧ ∃ Nn : L2.St → Hp → Prop, (∀ σ' H', Nn σ' H' → ∃ m', m' < m ∧ Wt (i + 1) m' σ' H') ∧ ∀ x H', J.yld i H x H' → rdG K C gt x σ H' fun σ2 H2 => tb { D with nx := Nn, ct := Nn, bk := D.nx } σ2 H2) := by
  subst htb
  let St5 : Nat → L2.St → Hp → Prop := fun i σ H => ∃ G2 S2, Same G G2 ∧ Rel K C G2 H σ S2 ∧ frGo gt (WS mb) N hd fin (items.drop i) S2
  refine ⟨fun i m σ H => m = items.length - i ∧ i ≤ items.length ∧ St5 i σ H, ⟨_, rfl, Nat.zero_le _, G1, S, u, r, q⟩, ?_⟩
  rintro i m σ H ⟨rfl, hi, G2, S2, u2, r2, q2⟩
  by_cases hlt : i < items.length
  · have hd' : items[i]? = some items[i] := List.getElem?_eq_getElem hlt
    rw [List.drop_eq_getElem_cons hlt] at q2
    obtain ⟨qh, q2⟩ := q2
    have body : ∀ (H' G' : Hp) (x : V), Same G2 G' → Rel K C G' H' σ S2 → Rep K G' items[i] x → rdG K C gt x σ H' fun σ2 H2 => rdS K C mb E { D with nx := fun σ' H' => i + 1 ≤ items.length ∧ St5 (i + 1) σ' H', ct := fun σ' H' => i + 1 ≤ items.length ∧ St5 (i + 1) σ' H', bk := D.nx } σ2 H2 := by
      intro H' G' x u' r' rx
      refine ⟨G', S2, _, items[i], r', rx, q2, fun σ3 S3 tg q3 => ?_⟩
      refine ⟨G', S3, { nx := frGo gt (WS mb) N hd fin (items.drop (i + 1)), rt := N.rt, bk := fun S2 => hd S2 ∧ fin S2, ct := frGo gt (WS mb) N hd fin (items.drop (i + 1)), ex := N.ex }, tg.rel, hE, q3, ⟨fun σ4 S4 G4 H4 u4 r4 q4 => ⟨hlt, G4, S4, u2.trans (u'.trans u4), r4, q4⟩, ok.rt, fun σ4 S4 G4 H4 u4 r4 q4 => hfin σ4 S4 G4 H4 (u2.trans (u'.trans u4)) r4 q4.1 q4.2, fun σ4 S4 G4 H4 u4 r4 q4 => ⟨hlt, G4, S4, u2.trans (u'.trans u4), r4, q4⟩⟩⟩
    rcases hst σ S2 G2 H u2 r2 qh with st | ⟨st, _⟩
    · refine .inr ⟨st.go i _ H r2.sub hd', fun σ' H' => i + 1 ≤ items.length ∧ St5 (i + 1) σ' H', fun σ' H' hN => ⟨items.length - (i + 1), by omega, rfl, hN.1, hN.2⟩, fun x H' y => ?_⟩
      obtain ⟨G', ug, sg, s56, ng, rx⟩ := st.yld i _ H H' x r2.sub hd' y
      refine body H' G' x ug ?_ rx
      refine (r2.grow s56).ground ug sg (fun a o h => ?_) (fun j p ow e => ?_) fun a ha => ?_
      · rcases ng a o h with h | h
        · exact r2.new a o h
        · exact .inr (r2.none_of h).1
      · cases z : G' p with
        | none => rfl
        | some o =>
          rcases ng p o z with h | h
          · rw [(r2.own_none ow e).1] at h; cases h
          · exact absurd h (r2.own_some ow e)
      · cases z : G' a with
        | none => rfl
        | some o =>
          rcases ng a o z with h | h
          · rw [r2.hs_none ha] at h; cases h
          · exact absurd h (r2.hs_some ha)
    · obtain ⟨hgo, hy⟩ := st i _ hd'
      refine .inr ⟨hgo, fun σ' H' => i + 1 ≤ items.length ∧ St5 (i + 1) σ' H', fun σ' H' hN => ⟨items.length - (i + 1), by omega, rfl, hN.1, hN.2⟩, fun x H' y => ?_⟩
      obtain ⟨rfl, rx⟩ := hy x H' y
      exact body H' G2 x (Same.refl _) r2 rx
  · have e : i = items.length := by omega
    subst e
    rw [List.drop_length] at q2
    obtain ⟨qh, qf⟩ := q2
    refine .inl ⟨?_, hfin σ S2 G2 H u2 r2 qh qf⟩
    rcases hst σ S2 G2 H u2 r2 qh with st | ⟨_, st⟩
    · exact st.stop H r2.sub
    · exact st
theorem Steps.mono {K : PySem.W.Frag} {G G2 : Hp} {J : It} {items : List Mi.D} (h : Steps K G J items) (u : Same G G2) : (∀ (i : Nat) (d : Mi.D) (H : Hp), Same G2 H → items[i]? = some d → J.go i H) ∧ ∀ H, Same G2 H → J.stop items.length H :=
  ⟨fun i d H s e => h.go i d H (u.trans s) e, fun H s => h.stop H (u.trans s)⟩
theorem Steps.up' {K : PySem.W.Frag} {G G2 : Hp} {J : It} {items : List Mi.D} (h : Steps K G J items) (u : Same G G2) : Steps K G2 J items := by
  refine ⟨fun i d H s e => h.go i d H (u.trans s) e, fun i d H H' x s e y => ?_, fun H s => h.stop H (u.trans s)⟩
  obtain ⟨G', ug, sg, s56, ng, rx⟩ := h.yld i d H H' x (u.trans s) e y
  have s2 : Same G2 H' := s.trans s56
  refine ⟨joinG G2 G', joinG_left, joinG_sub s2 sg, s56, fun a o h => ?_, rx.up (joinG_right s2 sg)⟩
  rcases joinG_cases h with h | h
  · exact .inl h
  · rcases ng a o h with h | h
    · exact .inl (u a o h)
    · exact .inr h
theorem lk_steps {K : PySem.W.Frag} {G H : Hp} {σ : L2.St} {S : List Sl} (r : Rel K C G H σ S) {i : Nat} {ds : List Mi.D} {b : Addr} (h : S[i]? = some (.lk b (.lst ds))) :
    (∀ (j : Nat) (d : Mi.D), ds[j]? = some d → (Itl K b).go j H ∧ ∀ x H', (Itl K b).yld j H x H' → H' = H ∧ Rep K G d x) ∧ (Itl K b).stop ds.length H := by
  obtain ⟨_, _, _, us, hb, ru⟩ := r.sl i _ h
  refine ⟨fun j d e => ?_, us, SqL.of hb, by rw [ru.len]; exact Nat.le_refl _⟩
  obtain ⟨v, e3, rv⟩ := ru.get e
  refine ⟨⟨us, v, SqL.of hb, e3⟩, fun x H' y => ?_⟩
  obtain ⟨rfl, y⟩ := y
  have z := y us (SqL.of hb)
  rw [e3] at z
  cases z
  exact ⟨rfl, rv⟩
def isItX : ME → Bool
  | .itX _ => true
  | _ => false
theorem js_for (g : XG fn mk gl kc X s) {tg iter : Expr} {body : List Stmt} {gt : TG} {it : ME} {mb : MS} (hx : isItX it = false) (ht : gB s gt tg = true) (hi : JI X C tg iter it) (hb : JSs X C body mb) (hf : ∀ z, foldedSetIterable iter X.env z = pure z) : JS X C (.For tg iter body [] pos) (.fr gt it mb) := by
  intro E tk hp
  refine PS.imp (ps_for hp g.calm (hi E tk) (pg_of g (C := C) ht) (hb E tk hp) hf) fun D σ H q => ?_
  obtain ⟨G, S, N, r, hE, q, ok⟩ := q
  have q' : (W it).i S (fun items S1 => frGo gt (WS mb) N (fun _ => True) N.nx items (frz (vars it) S1)) N.ex := by
    cases it <;> first | exact q | cases hx
  refine ⟨G, S, _, r, by rw [← hE]; exact q', fun items S1 J H1 G1 p1 st qq => ?_⟩
  obtain ⟨G3, u3, r3, p3⟩ := p1.frozenI (ws := vars it) (fun i hi => hi)
  exact fr_turns (J := J) (hd := fun _ => True) (fin := N.nx) hE (ok.up p3.up) rfl (fun σ2 S2 G2 H2 u r2 _ h => ok.nx σ2 S2 G2 H2 (p3.up.trans u) r2 h) (fun σ2 S2 G2 H2 u r2 _ => .inl ((st.up' u3).up' u)) (Same.refl _) r3 qq
theorem js_forX (g : XG fn mk gl kc X s) {tg : Expr} {x : Str} {body : List Stmt} {gt : TG} {i : Nat} {mb : MS} (hv : visB s i x = true) (ht : gB s gt tg = true) (hb : JSs X C body mb) : JS X C (.For tg (.Name x p) body [] pos) (.fr gt (.itX i) mb) := by
  obtain ⟨h1, h2, h3, h4⟩ := g.vis hv
  intro E tk hp
  refine PS.imp (ps_for hp g.calm (pi_seq (pe_var h1 h2 h3 h4)) (pg_of g (C := C) ht) (hb E tk hp)) fun D σ H q => ?_
  obtain ⟨G, S, N, r, hE, q, ok⟩ := q
  have q' : ∃ d, getS S i = some d ∧ iterS d fun ds => (match S[i]? with
      | some (.ow _) => ∀ p, frGo gt (WS mb) N (held (some i) (lock (some i) p S)) (fun S2 => N.nx (unlock (some i) S2)) ds (lock (some i) p S)
      | _ => frGo gt (WS mb) N (held (some i) S) N.nx ds S) := q
  obtain ⟨d, e1, q⟩ := q'
  cases hS : S[i]? with
  | none => unfold getS at e1; rw [hS] at e1; cases e1
  | some sl =>
    unfold getS at e1
    rw [hS] at e1 q
    have hi := (List.getElem?_eq_some_iff.mp hS).1
    cases sl <;> simp only [Option.some.injEq, reduceCtorEq] at e1
    · -- a value
      subst e1
      rename_i d
      obtain ⟨v, ev, rv⟩ := r.sl i _ hS
      refine ⟨v, ev, seq_steps (R := fun J H1 => ∃ W : Nat → Nat → L2.St → Hp → Prop, (∃ m, W 0 m σ H1) ∧ ∀ i m σ H, W i m σ H →
        (J.stop i H ∧ D.nx σ H) ∨ (J.go i H ∧ ∃ N : L2.St → Hp → Prop, (∀ σ' H', N σ' H' → ∃ m', m' < m ∧ W (i + 1) m' σ' H') ∧ ∀ x H', J.yld i H x H' → rdG X.K C gt x σ H' fun σ2 H2 => rdS X.K C mb E { D with nx := N, ct := N, bk := D.nx } σ2 H2)) r.sub q rv fun J ds st q => ?_⟩
      exact fr_turns (J := J) (hd := held (some i) S) (fin := N.nx) hE ok rfl (fun σ2 S2 G2 H2 u r2 hh h => ok.nx σ2 S2 G2 H2 u r2 h) (fun σ2 S2 G2 H2 u _ _ => .inl (st.up' u)) (Same.refl _) r q
    · -- a list of its own
      subst e1
      rename_i d
      cases d <;> first | exact (q : False).elim | skip
      · obtain ⟨_, _, _, _, z⟩ := r.sl i _ hS
        exact z.elim
      · rename_i ds
        obtain ⟨b, eb, g1, g2, us, hb, ru⟩ := r.sl i _ hS
        have q0 := q b
        have el : lock (some i) b S = S.set i (.lk b (.lst ds)) := by unfold lock; simp only [hS]
        rw [el] at q0
        have rl := Rel.lock r hS eb
        have hget : (S.set i (.lk b (.lst ds)))[i]? = some (.lk b (.lst ds)) := List.getElem?_set_self hi
        refine ⟨_, eb, b, rfl, .inl ⟨us, SqL.of hb, ?_⟩⟩
        refine fr_turns (J := Itl X.K b) (hd := held (some i) (S.set i (.lk b (.lst ds)))) (fin := fun S2 => N.nx (unlock (some i) S2)) hE ok rfl (fun σ2 S2 G2 H2 u r2 hh h => ?_) (fun σ2 S2 G2 H2 u r2 hh => .inr ?_) (Same.refl _) rl q0
        · have h2 : S2[i]? = some (.lk b (.lst ds)) := by rw [← hget]; exact hh
          have eu : unlock (some i) S2 = S2.set i (.ow (.lst ds)) := by unfold unlock; simp only [h2]
          rw [eu] at h
          exact ok.nx σ2 _ G2 H2 u (Rel.unlock r2 h2) h
        · have h2 : S2[i]? = some (.lk b (.lst ds)) := by rw [← hget]; exact hh
          exact lk_steps r2 h2
      · obtain ⟨_, _, _, _, z⟩ := r.sl i _ hS
        exact z.elim
    · -- a locked one
      subst e1
      rename_i b d
      cases d <;> first | exact (q : False).elim | skip
      · obtain ⟨_, _, _, z⟩ := r.sl i _ hS
        exact z.elim
      · rename_i ds
        obtain ⟨eb, g1, g2, us, hb, ru⟩ := r.sl i _ hS
        refine ⟨_, eb, b, rfl, .inl ⟨us, SqL.of hb, ?_⟩⟩
        exact fr_turns (J := Itl X.K b) (hd := held (some i) S) (fin := N.nx) hE ok rfl (fun σ2 S2 G2 H2 u r2 hh h => ok.nx σ2 S2 G2 H2 u r2 h) (fun σ2 S2 G2 H2 u r2 hh => .inr (lk_steps r2 (by rw [← hS]; exact hh))) (Same.refl _) r q
      · obtain ⟨_, _, _, z⟩ := r.sl i _ hS
        exact z.elim
theorem js_wh (g : XG fn mk gl kc X s) {c : Expr} {body : List Stmt} {mc : ME} {mb : MS} (hc : JT X C c mc) (hb : JSs X C body mb) : JS X C (.While c body [] pos) (.wh mc mb) := by
  intro E tk hp
  refine PS.imp (ps_while hp (hc E tk) (hb E tk hp)) fun D σ H q => ?_
  obtain ⟨G, S, N, r, hE, ⟨n, q⟩, ok⟩ := q
  refine ⟨fun m σ H => ∃ G2 S2, Same G G2 ∧ Rel X.K C G2 H σ S2 ∧ whGo (W mc) (WS mb) N m S2, ⟨n, G, S, Same.refl _, r, q⟩, ?_⟩
  rintro m σ H ⟨G2, S2, u2, r2, q2⟩
  cases m with
  | zero => exact q2.elim
  | succ m =>
    refine ⟨G2, S2, _, r2, by rw [← hE]; exact q2, fun k S3 H3 p3 q3 => ?_⟩
    cases k with
    | true =>
      refine ⟨fun σ' H' => ∃ G2 S2, Same G G2 ∧ Rel X.K C G2 H' σ' S2 ∧ whGo (W mc) (WS mb) N m S2, fun σ' H' h => ⟨m, Nat.lt_succ_self _, h⟩, ?_⟩
      exact ⟨G2, S3, { nx := whGo (W mc) (WS mb) N m, rt := N.rt, bk := N.nx, ct := whGo (W mc) (WS mb) N m, ex := N.ex }, p3.rel, hE, q3, ⟨fun σ4 S4 G4 H4 u4 r4 q4 => ⟨G4, S4, u2.trans u4, r4, q4⟩, ok.rt, fun σ4 S4 G4 H4 u4 r4 q4 => ok.nx σ4 S4 G4 H4 (u2.trans u4) r4 q4, fun σ4 S4 G4 H4 u4 r4 q4 => ⟨G4, S4, u2.trans u4, r4, q4⟩⟩⟩
    | false => exact ok.nx σ S3 G2 H3 u2 p3.rel q3
end
end Mi
set_option maxHeartbeats 1000000
namespace Mi
open PySem PySem.Spec L2
open PyProof.Rows hiding St
/-- terms whose container is new -/
def isFr : ME → Bool
  | .op .lst _ => true
  | .op (.blt .list) _ => true
  | .op (.blt .dict) _ => true
  | .op (.bin _) _ => true
  | .lc _ _ _ _ _ => true
  | .dsp _ _ => true
  | .ds1 _ _ => true
  | .slc _ _ _ => true
  | _ => false
def vB (s : SC) (f : Bool) (m : ME) (e : Expr) : Bool := (!f || isFr m) && (ck m).e s e
def dsjL (a b : List Nat) : Bool := a.all fun i => !b.contains i
structure CS where
  s : SC → Stmt → Bool
  l : SC → List Stmt → Bool
def noS : SC → Stmt → Bool := fun _ _ => false
def noL : SC → List Stmt → Bool := fun _ _ => false
abbrev stm (f : SC → Stmt → Bool) : CS := ⟨f, noL⟩
def isAS : Operator → Bool
  | .Add => true
  | .Sub => true
  | _ => false
def parB0 (s : SC) : List (Nat × Bool × ME) → Stmt → Bool
  | [(i, f, m)], .Assign [.Name x px] e _ => vB s f m e && ((locB s i x && noComp e) || (match m, e with
    | .lc _ _ _ _ _, .ListComp _ _ scope cpos => decide (s.N[i]? = some x) && swLc s x px cpos.line scope
    | _, _ => false))
  | [(i, f, m), (j, f2, m2)], .Assign [.Tuple [.Name x px, .Name y py] _ _] (.Tuple [a, b] _ _) _ =>
    isFunK s && (decide (s.N[i]? = some x) && (decide (s.N[j]? = some y) && (decide (i ≠ j) && (isLoc s x && (isLoc s y && (decide (swpC true (isLoc s) [.Name x px, .Name y py] [a, b] = some (some [x, y])) && (noSt a && (noSt b && (vB s f m a && (vB s f2 m2 b && dsjL (pops m2) (vars m)))))))))))
  | [(i, f, m), (j, f2, m2), (l, f3, m3)], .Assign [.Tuple [.Name x px, .Name y py, .Name z pz] _ _] (.Tuple [a, b, c] _ _) _ =>
    isFunK s && (decide (s.N[i]? = some x) && (decide (s.N[j]? = some y) && (decide (s.N[l]? = some z) && (decide (i ≠ j) && (decide (i ≠ l) && (decide (j ≠ l) && (isLoc s x && (isLoc s y && (isLoc s z && (decide (swpC true (isLoc s) [.Name x px, .Name y py, .Name z pz] [a, b, c] = some (some [x, y, z])) && (noSt a && (noSt b && (noSt c && (vB s f m a && (vB s f2 m2 b && (vB s f3 m3 c && (dsjL (pops m2 ++ pops m3) (vars m) && dsjL (pops m3) (vars m2))))))))))))))))))
  | _, _ => false
def tsB (s : SC) : List (Nat × Bool × ME) → List Expr → Bool
  | [], ts => ts.isEmpty
  | (i, _, _) :: r, t :: ts => (match t with
    | .Name x _ => locB s i x
    | _ => false) && tsB s r ts
  | _ :: _, [] => false
def esB (s : SC) : List (Nat × Bool × ME) → List Expr → Bool
  | [], es => es.isEmpty
  | (_, f, m) :: r, e :: es => noSt e && (vB s f m e && (dsjL (parPops r) (vars m) && esB s r es))
  | _ :: _, [] => false
/-- through a tuple -/
def tupB (s : SC) (l : List (Nat × Bool × ME)) : Stmt → Bool := fun st => match st with
  | .Assign [.Tuple ts _ _] (.Tuple es _ _) _ => isFunK s && ((match swpC true (isLoc s) ts es with
    | some none => true
    | _ => false) && (tsB s l ts && (esB s l es && decide (l.length ≤ 1000))))
  | _ => false
def parB (s : SC) (l : List (Nat × Bool × ME)) (st : Stmt) : Bool := parB0 s l st || tupB s l st
def ckS : MS → CS
  | .nil => ⟨noS, fun _ l => l.isEmpty⟩
  | .seq a r => ⟨noS, fun s l => match l with
    | st :: rest => (ckS a).s s st && (ckS r).l s rest
    | [] => false⟩
  | .asg gt m => stm fun s st => match st with
    | .Assign [t] e _ => gB s gt t && (swNone s t e && (ck m).e s e)
    | _ => false
  | .par l => stm fun s st => parB s l st
  | .aug i o m => stm fun s st => match st with
    | .AugAssign (.Name x _) q e _ => locB s i x && (decide (o = q) && (isAS o && (ck m).e s e))
    | _ => false
  | .exp m => stm fun s st => match st with
    | .Expr e _ => noComp e && (ck m).e s e
    | _ => false
  | .app i m => stm fun s st => match st with
    | .Expr (.Call (.Attribute (.Name x _) n apos) [y] [] pos) _ => decide (n = ("append" : Str)) && (visB s i x && ((apos.endLine == pos.line) && (noSt y && (ck m).e s y)))
    | _ => false
  | .ext i m => stm fun s st => match st with
    | .Expr (.Call (.Attribute (.Name x _) n apos) [y] [] pos) _ => decide (n = ("extend" : Str)) && (visB s i x && ((apos.endLine == pos.line) && (noSt y && (ck m).e s y)))
    | _ => false
  | .sti i k m => stm fun s st => match st with
    | .Assign [.Subscript (.Name x _) kx _] e _ => visB s i x && (noSl kx && (dsj m k && ((ck k).e s kx && (ck m).e s e)))
    | _ => false
  | .ret m => stm fun s st => match st with
    | .Return (some e) _ => (ck m).e s e
    | _ => false
  | .retn => stm fun s st => match st with
    | .Return none _ => true
    | _ => false
  | .ifs c a b => stm fun s st => match st with
    | .If cx x y _ => (ck c).t s cx && ((ckS a).l s x && (ckS b).l s y)
    | _ => false
  | .fr gt it b => stm fun s st => match st with
    | .For tg iter body [] _ => gB s gt tg && ((!needT it || isTup tg) && ((ck it).i s iter && (ckS b).l s body))
    | _ => false
  | .wh c b => stm fun s st => match st with
    | .While cx body [] _ => (ck c).t s cx && (ckS b).l s body
    | _ => false
  | .rs _ _ _ => ⟨noS, noL⟩
  | .pas => stm fun s st => match st with
    | .Pass _ => true
    | .Expr (.Constant (.str _) _ _) _ => true
    | _ => false
  | .con => stm fun s st => match st with
    | .Continue _ => true
    | _ => false
  | .brk => stm fun s st => match st with
    | .Break _ => true
    | _ => false
  | .sef _ _ => ⟨noS, noL⟩
  | .mkh _ _ => ⟨noS, noL⟩
  | .nev => stm fun _ _ => true
def UsL (fn : FSpec → Prop) (mk : CSpec → Prop) (gl : Str → D → Prop) (kc : Str → Prop) : List (Nat × Bool × ME) → Prop
  | [] => True
  | (_, _, m) :: r => Us fn mk gl kc m ∧ UsL fn mk gl kc r
def UsS (fn : FSpec → Prop) (mk : CSpec → Prop) (gl : Str → D → Prop) (kc : Str → Prop) : MS → Prop
  | .nil => True
  | .seq a r => UsS fn mk gl kc a ∧ UsS fn mk gl kc r
  | .asg _ m => Us fn mk gl kc m
  | .par l => UsL fn mk gl kc l
  | .aug _ _ m => Us fn mk gl kc m
  | .exp m => Us fn mk gl kc m
  | .app _ m => Us fn mk gl kc m
  | .ext _ m => Us fn mk gl kc m
  | .sti _ k m => Us fn mk gl kc k ∧ Us fn mk gl kc m
  | .ret m => Us fn mk gl kc m
  | .retn => True
  | .ifs c a b => Us fn mk gl kc c ∧ UsS fn mk gl kc a ∧ UsS fn mk gl kc b
  | .fr _ it b => Us fn mk gl kc it ∧ UsS fn mk gl kc b
  | .wh c b => Us fn mk gl kc c ∧ UsS fn mk gl kc b
  | .rs _ _ as => Us fn mk gl kc as
  | .pas => True
  | .con => True
  | .brk => True
  | .sef _ e => Us fn mk gl kc e
  | .mkh _ _ => True
  | .nev => True
section
variable {fn : FSpec → Prop} {mk : CSpec → Prop} {gl : Str → D → Prop} {kc : Str → Prop} {X : Cx} {C : IC} {s : SC}
theorem lcP_of (g : XG fn mk gl kc X s) {vs : List Nat} {elt : ME} {gt : TG} {it tst : ME} (u : Us fn mk gl kc (.lc vs elt gt it tst)) {e : Expr} (h : (ck (.lc vs elt gt it tst)).e s e = true) : ∃ x tg iter ifs scope pos, e = .ListComp x [⟨tg, iter, ifs, 0⟩] scope pos ∧ LcP fn mk gl kc C X s vs gt it tst elt x tg iter ifs scope := by
  simp only [ck] at h
  split at h
  · rename_i x tg iter ifs scope pos
    obtain ⟨h1, h⟩ := and_of h
    obtain ⟨h2, h⟩ := and_of h
    obtain ⟨h3, h⟩ := and_of h
    obtain ⟨h4, h⟩ := and_of h
    obtain ⟨h5, h⟩ := and_of h
    obtain ⟨h6, h⟩ := and_of h
    obtain ⟨h7, h⟩ := and_of h
    obtain ⟨h8, h9⟩ := and_of h
    have nil_of : ∀ {l : List Nat}, l.isEmpty = true → l = [] := fun {l} z => by cases l <;> first | rfl | cases z
    refine ⟨x, tg, iter, ifs, scope, pos, rfl, h1, nil_of h2, nil_of h3, fun i hi => ?_, (ck_ok it (C := C) g u.2.1).i tg iter h7 fun z => ?_, fd_of h7 X, fun X' g' ek => by rw [← ek]; exact pg_of g' h4, fun X' g' ek => ?_, fun X' g' ek => (ck_ok elt (C := C) g' u.1).e _ h8⟩
    · have z := List.all_eq_true.mp h5 i hi
      simpa using z
    · rw [z] at h6
      simpa using h6
    · split at h9
      · split at h9
        · exact jts_nil
        · cases h9
      · exact jts_one ((ck_ok tst (C := C) g' u.2.2).t _ h9)
      · cases h9
  · cases h
theorem jf_ok (g : XG fn mk gl kc X s) : ∀ {m : ME} {e : Expr}, isFr m = true → Us fn mk gl kc m → (ck m).e s e = true → JF X C e m := by
  intro m e hf u h
  cases m with
  | lc vs elt gt it tst =>
    obtain ⟨x, tg, iter, ifs, scope, pos, rfl, L⟩ := lcP_of (C := C) g u h
    exact jf_lc g L
  | ds1 a b =>
    simp only [ck] at h
    split at h
    · obtain ⟨h1, h⟩ := and_of h
      obtain ⟨h2, h3⟩ := and_of h
      exact jf_dsp1 ((ck_ok a (C := C) g u.1).e _ h2) ((ck_ok b (C := C) g u.2).e _ h3) (dsj_out h1)
    · cases h
  | dsp ks vs =>
    simp only [ck] at h
    split at h
    · exact jf_dsp
    · cases h
  | slc a lo hi =>
    have jo : ∀ {l : Option Expr} {m : ME}, (∀ e, (ck m).e s e = true → JE X C e m) → (match l with
      | some y => (ck m).e s y
      | none => isNop m) = true → JO X C l m := by
      intro l m hm h
      cases l with
      | none =>
        cases m <;> first | cases h | skip
        exact jo_none
      | some y =>
        refine jo_some ?_ (hm y h)
        cases m <;> first | rfl | cases h
    simp only [ck] at h
    split at h
    · obtain ⟨h1, h⟩ := and_of h
      obtain ⟨h2, h⟩ := and_of h
      obtain ⟨h3, h⟩ := and_of h
      obtain ⟨h4, h⟩ := and_of h
      obtain ⟨h5, h6⟩ := and_of h
      exact jf_slc (dsj_out h2) (dsj_out h3) ((ck_ok a (C := C) g u.1).e _ h1) (jo (ck_ok lo (C := C) g u.2.1).e h5) (jo (ck_ok hi (C := C) g u.2.2).e h6)
    · cases h
  | op o as =>
    have ia := (ck_ok as (C := C) g u).a
    cases o with
    | bin o =>
      cases e <;> first | exact absurd h Bool.false_ne_true | skip
      rename_i x q y p
      have h' : (decide (o = q) && (ck as).a s [x, y]) = true := h
      obtain ⟨h1, h2⟩ := and_of h'
      have e := of_decide_eq_true h1
      subst e
      exact jf_bin (ia _ h2)
    | lst =>
      cases e <;> first | exact absurd h Bool.false_ne_true | skip
      rename_i es p
      exact jf_lst (ia _ h)
    | blt b =>
      have hb : b = .list ∨ b = .dict := by cases b <;> first | exact .inl rfl | exact .inr rfl | cases hf
      cases e <;> first | exact absurd h Bool.false_ne_true | skip
      rename_i f es kws p
      cases f <;> first | exact absurd h Bool.false_ne_true | skip
      rename_i x px
      cases kws with
      | cons _ _ => exact absurd h Bool.false_ne_true
      | nil =>
        have h' : (decide (bltName b = x) && (glB s x && (!es.isEmpty && (ck as).a s es))) = true := h
        obtain ⟨h1, h⟩ := and_of h'
        obtain ⟨h2, h⟩ := and_of h
        obtain ⟨h3, h4⟩ := and_of h
        exact jf_blt g (of_decide_eq_true h1) h2 (by intro z; rw [z] at h3; cases h3) (ia _ h4) hb
    | _ => cases hf
  | _ => cases hf
theorem jv_ok (g : XG fn mk gl kc X s) {f : Bool} {m : ME} {e : Expr} (u : Us fn mk gl kc m) (h : vB s f m e = true) : JV X C f e m := by
  obtain ⟨h1, h2⟩ := and_of h
  cases f with
  | false => exact jv_e' ((ck_ok m (C := C) g u).e _ h2)
  | true => exact jv_f (jf_ok g (by simpa using h1) u h2)
theorem dsjL_out {a b : List Nat} (h : dsjL a b = true) : ∀ i ∈ a, i ∉ b := fun i hi hv => by
  have z := List.all_eq_true.mp h i hi
  simp at z
  exact z hv
theorem jp_of (g : XG fn mk gl kc X s) : ∀ {l : List (Nat × Bool × ME)} {es : List Expr}, UsL fn mk gl kc l → esB s l es = true → JP X C es l
  | [], es, u, h => by
    cases es with
    | nil => exact .nil
    | cons _ _ => cases h
  | (i, f, m) :: r, es, u, h => by
    cases es with
    | nil => cases h
    | cons e es =>
      obtain ⟨h1, h⟩ := and_of h
      obtain ⟨h2, h⟩ := and_of h
      obtain ⟨h3, h4⟩ := and_of h
      exact .cons h1 (jv_ok g u.1 h2) (dsjL_out h3) (jp_of g u.2 h4)
theorem pgs_names (g : XG fn mk gl kc X s) : ∀ {l : List (Nat × Bool × ME)} {ts : List Expr}, tsB s l ts = true → PGs X ts (fun us σ H Q => us.length = l.length ∧ Q (parSt l us σ) H) ∧ (assignEach ts X.env).length = l.length ∧ (assignEach ts X.env).findIdx? (·.1) = none
  | [], ts, h => by
    cases ts with
    | cons _ _ => cases h
    | nil =>
      refine ⟨PGs.imp pgs_nil fun us σ H Q q => ?_, rfl, rfl⟩
      obtain ⟨q1, q2⟩ := q
      cases us with
      | nil => exact ⟨rfl, q2⟩
      | cons _ _ => cases q1
  | (i, f, m) :: r, ts, h => by
    cases ts with
    | nil => cases h
    | cons t ts =>
      obtain ⟨h1, h2⟩ := and_of h
      cases t <;> first | exact absurd h1 Bool.false_ne_true | skip
      rename_i x p
      obtain ⟨l1, l2, l3⟩ := g.loc h1
      obtain ⟨i1, i2, i3⟩ := pgs_names g h2
      refine ⟨PGs.imp (pgs_cons (pg_name g.nd l1 l2 l3) i1 rfl) fun us σ H Q q => ?_, by show (assignEach ts X.env).length + 1 = _; rw [i2]; rfl, ?_⟩
      · obtain ⟨q1, q2⟩ := q
        cases us with
        | nil => cases q1
        | cons v us => exact ⟨v, us, rfl, by simpa using q1, q2⟩
      · show ((false, assign (.Name x p) X.env) :: assignEach ts X.env).findIdx? (·.1) = none
        rw [List.findIdx?_cons]
        simp [i3]
theorem js_tupl (g : XG fn mk gl kc X s) {l : List (Nat × Bool × ME)} {ts es : List Expr} {kt k2 : Nat} {p1 p2 pos : Pos} (u : UsL fn mk gl kc l) (hk : isFunK s = true) (hw : swpC true (isLoc s) ts es = some none) (h1 : tsB s l ts = true) (h2 : esB s l es = true) (h3 : l.length ≤ 1000) : JS X C (.Assign [.Tuple ts kt p1] (.Tuple es k2 p2) pos) (.par l) := by
  obtain ⟨i1, i2, i3⟩ := pgs_names g h1
  intro E tk hp
  refine PS.imp (ps_asg (pe_tup ((jp_of g u h2).pa E tk)) (pg_tup (n := l.length) g.calm i1 i2 i3) rfl (swp_g g hk hw) rfl) fun D σ H q => ?_
  obtain ⟨G, S, N, r, hE, q, ok⟩ := q
  refine ⟨G, S, _, r, by rw [← hE]; exact q, fun ds S2 us H2 G2 p vl qq => ?_⟩
  have hl := vl.len
  refine ⟨by rw [hl, lim_eq]; exact Nat.le_trans h3 (by decide), fun b hb => ⟨b, us, rfl, SqT.of upd_same, hl, hl, ?_⟩⟩
  have vl2 : Vls X.K G2 (upd H2 b (.tup us)) (fun p => H p = none ∧ Fr C G2 σ S2 p) [] l ds us := by
    have go : ∀ {l : List (Nat × Bool × ME)} {av : List Addr} {ds : List Mi.D} {us' : List V}, Vls X.K G2 H2 (fun p => H p = none ∧ Fr C G2 σ S2 p) av l ds us' → Vls X.K G2 (upd H2 b (.tup us)) (fun p => H p = none ∧ Fr C G2 σ S2 p) av l ds us' := by
      intro l
      induction l with
      | nil => intro av ds us' h; exact h
      | cons x l ih =>
        obtain ⟨i, f, m⟩ := x
        intro av ds us' h
        cases f with
        | false =>
          obtain ⟨d, ds', v, us'', e1, e2, h1, h2⟩ := h
          exact ⟨d, ds', v, us'', e1, e2, h1, ih h2⟩
        | true =>
          obtain ⟨d, ds', p, us'', e1, e2, h1, h2, h3, h4⟩ := h
          exact ⟨d, ds', p, us'', e1, e2, h1, h2, h3.up (fun o z => same_upd hb _ _ z) (Same.refl _), ih h4⟩
    exact go vl
  exact par_end (p.apart hb) vl2 qq ok
theorem par_ok (g : XG fn mk gl kc X s) {l : List (Nat × Bool × ME)} {st : Stmt} (u : UsL fn mk gl kc l) (h : parB s l st = true) : JS X C st (.par l) := by
  have hh := Bool.or_eq_true_iff.mp h
  clear h
  rcases hh with h | h
  rotate_left
  · unfold tupB at h
    split at h
    · obtain ⟨h1, h⟩ := and_of h
      obtain ⟨h2, h⟩ := and_of h
      obtain ⟨h3, h⟩ := and_of h
      obtain ⟨h4, h5⟩ := and_of h
      refine js_tupl g u h1 ?_ h3 h4 (of_decide_eq_true h5)
      split at h2
      · assumption
      · cases h2
    · cases h
  unfold parB0 at h
  split at h
  · rename_i i f m x px e pos
    obtain ⟨h1, h2⟩ := and_of h
    rcases (by simpa using h2 : (locB s i x = true ∧ noComp e = true) ∨ _) with ⟨h3, h4⟩ | h3
    · exact js_one g h3 h4 (jv_ok g u.1 h1)
    · split at h3
      · rename_i vs elt gt it tst x2 gens scope cpos
        obtain ⟨h5, h6⟩ := and_of h3
        obtain ⟨_, hv⟩ := and_of h1
        obtain ⟨x3, tg, iter, ifs, scope', pos', e, L⟩ := lcP_of (C := C) g u.1 hv
        cases e
        exact js_oneLc g L (of_decide_eq_true h5) h6
      · cases h3
  · obtain ⟨k1, h⟩ := and_of h
    obtain ⟨k2, h⟩ := and_of h
    obtain ⟨k3, h⟩ := and_of h
    obtain ⟨k4, h⟩ := and_of h
    obtain ⟨k5, h⟩ := and_of h
    obtain ⟨k6, h⟩ := and_of h
    obtain ⟨k7, h⟩ := and_of h
    obtain ⟨k8, h⟩ := and_of h
    obtain ⟨k9, h⟩ := and_of h
    obtain ⟨ka, h⟩ := and_of h
    obtain ⟨kb, kd⟩ := and_of h
    exact js_two g k1 (of_decide_eq_true k2) (of_decide_eq_true k3) (of_decide_eq_true k4) k5 k6 (of_decide_eq_true k7) (.cons k8 (jv_ok g u.1 ka) (fun i hi => dsjL_out kd i (by simpa [parPops] using hi)) (.cons k9 (jv_ok g u.2.1 kb) (fun i hi => by cases hi) .nil))
  · obtain ⟨k1, h⟩ := and_of h
    obtain ⟨k2, h⟩ := and_of h
    obtain ⟨k3, h⟩ := and_of h
    obtain ⟨k4, h⟩ := and_of h
    obtain ⟨k5, h⟩ := and_of h
    obtain ⟨k6, h⟩ := and_of h
    obtain ⟨k7, h⟩ := and_of h
    obtain ⟨k8, h⟩ := and_of h
    obtain ⟨k9, h⟩ := and_of h
    obtain ⟨ka, h⟩ := and_of h
    obtain ⟨kb, h⟩ := and_of h
    obtain ⟨kc', h⟩ := and_of h
    obtain ⟨kd, h⟩ := and_of h
    obtain ⟨ke, h⟩ := and_of h
    obtain ⟨kf, h⟩ := and_of h
    obtain ⟨kg, h⟩ := and_of h
    obtain ⟨kh, h⟩ := and_of h
    obtain ⟨ki, kj⟩ := and_of h
    exact js_three g k1 (of_decide_eq_true k2) (of_decide_eq_true k3) (of_decide_eq_true k4) (of_decide_eq_true k5) (of_decide_eq_true k6) (of_decide_eq_true k7) k8 k9 ka (of_decide_eq_true kb)
      (.cons kc' (jv_ok g u.1 kf) (fun i hi => dsjL_out ki i (by simpa [parPops] using hi)) (.cons kd (jv_ok g u.2.1 kg) (fun i hi => dsjL_out kj i (by simpa [parPops] using hi)) (.cons ke (jv_ok g u.2.2.1 kh) (fun i hi => by cases hi) .nil)))
  · cases h
structure CkSOk (fn : FSpec → Prop) (mk : CSpec → Prop) (gl : Str → D → Prop) (kc : Str → Prop) (X : Cx) (C : IC) (sc : SC) (m : MS) : Prop where
  s : ∀ st, (ckS m).s sc st = true → JS X C st m
  l : ∀ l, (ckS m).l sc l = true → JSs X C l m
theorem CkSOk.ofS {m : MS} {f : SC → Stmt → Bool} (hc : ckS m = stm f) (h : ∀ st, f s st = true → JS X C st m) : CkSOk fn mk gl kc X C s m :=
  ⟨fun st z => h st (by rw [hc] at z; exact z), fun l z => by rw [hc] at z; cases z⟩
theorem ckS_ok (g : XG fn mk gl kc X s) : ∀ (m : MS), UsS fn mk gl kc m → CkSOk fn mk gl kc X C s m := by
  intro m
  induction m with
  | nil =>
    intro u
    refine ⟨fun st h => (by cases h), fun l h => ?_⟩
    cases l with
    | nil => exact jss_nil
    | cons _ _ => cases h
  | seq a r iha ihr =>
    intro u
    refine ⟨fun st h => (by cases h), fun l h => ?_⟩
    cases l with
    | nil => cases h
    | cons st rest =>
      obtain ⟨h1, h2⟩ := and_of h
      exact jss_cons ((iha u.1).s _ h1) ((ihr u.2).l _ h2)
  | asg gt m =>
    intro u
    refine .ofS rfl fun st h => ?_
    split at h
    · obtain ⟨h1, h⟩ := and_of h
      obtain ⟨h2, h3⟩ := and_of h
      exact js_asg g h1 h2 ((ck_ok m (C := C) g u).e _ h3)
    · cases h
  | par l =>
    intro u
    exact .ofS rfl fun st h => par_ok g u h
  | aug i o m =>
    intro u
    refine .ofS rfl fun st h => ?_
    split at h
    · obtain ⟨h1, h⟩ := and_of h
      obtain ⟨h2, h⟩ := and_of h
      obtain ⟨h3, h4⟩ := and_of h
      have e := of_decide_eq_true h2
      subst e
      exact js_aug g h1 (by cases o <;> first | exact .inl rfl | exact .inr rfl | cases h3) ((ck_ok m (C := C) g u).e _ h4)
    · cases h
  | exp m =>
    intro u
    refine .ofS rfl fun st h => ?_
    split at h
    · obtain ⟨h1, h2⟩ := and_of h
      exact js_exp h1 ((ck_ok m (C := C) g u).e _ h2)
    · cases h
  | app i m =>
    intro u
    refine .ofS rfl fun st h => ?_
    split at h
    · obtain ⟨h1, h⟩ := and_of h
      obtain ⟨h2, h⟩ := and_of h
      obtain ⟨h3, h⟩ := and_of h
      obtain ⟨h4, h5⟩ := and_of h
      exact js_app g (of_decide_eq_true h1) h2 h3 h4 ((ck_ok m (C := C) g u).e _ h5)
    · cases h
  | ext i m =>
    intro u
    refine .ofS rfl fun st h => ?_
    split at h
    · obtain ⟨h1, h⟩ := and_of h
      obtain ⟨h2, h⟩ := and_of h
      obtain ⟨h3, h⟩ := and_of h
      obtain ⟨h4, h5⟩ := and_of h
      exact js_ext g (of_decide_eq_true h1) h2 h3 h4 ((ck_ok m (C := C) g u).e _ h5)
    · cases h
  | sti i k m =>
    intro u
    refine .ofS rfl fun st h => ?_
    split at h
    · obtain ⟨h1, h⟩ := and_of h
      obtain ⟨h2, h⟩ := and_of h
      obtain ⟨h3, h⟩ := and_of h
      obtain ⟨h4, h5⟩ := and_of h
      exact js_sti g h1 h2 (dsj_out h3) ((ck_ok k (C := C) g u.1).e _ h4) ((ck_ok m (C := C) g u.2).e _ h5)
    · cases h
  | ret m =>
    intro u
    refine .ofS rfl fun st h => ?_
    split at h
    · exact js_ret ((ck_ok m (C := C) g u).e _ h)
    · cases h
  | retn =>
    intro u
    refine .ofS rfl fun st h => ?_
    split at h
    · exact js_retn
    · cases h
  | ifs c a b iha ihb =>
    intro u
    refine .ofS rfl fun st h => ?_
    split at h
    · obtain ⟨h1, h⟩ := and_of h
      obtain ⟨h2, h3⟩ := and_of h
      exact js_if ((ck_ok c (C := C) g u.1).t _ h1) ((iha u.2.1).l _ h2) ((ihb u.2.2).l _ h3)
    · cases h
  | fr gt it b ihb =>
    intro u
    refine .ofS rfl fun st h => ?_
    split at h
    · rename_i tg iter bd pos
      obtain ⟨h1, h⟩ := and_of h
      obtain ⟨h2, h⟩ := and_of h
      obtain ⟨h3, h4⟩ := and_of h
      have body := (ihb u.2).l bd h4
      by_cases hx : isItX it = true
      · cases it <;> first | cases hx | skip
        rename_i i
        cases iter <;> first | exact absurd h3 Bool.false_ne_true | skip
        exact js_forX g h3 h1 body
      · exact js_for g (by simpa using hx) h1 ((ck_ok it (C := C) g u.1).i _ _ h3 fun z => by rw [z] at h2; simpa using h2) body (fd_of h3 X)
    · cases h
  | wh c b ihb =>
    intro u
    refine .ofS rfl fun st h => ?_
    split at h
    · obtain ⟨h1, h2⟩ := and_of h
      exact js_wh g ((ck_ok c (C := C) g u.1).t _ h1) ((ihb u.2).l _ h2)
    · cases h
  | rs c ns as =>
    intro u
    exact ⟨fun st h => (by cases h), fun st h => (by cases h)⟩
  | pas =>
    intro u
    refine .ofS rfl fun st h => ?_
    split at h
    · exact js_pass
    · exact js_doc
    · cases h
  | con =>
    intro u
    refine .ofS rfl fun st h => ?_
    split at h
    · exact js_con
    · cases h
  | brk =>
    intro u
    refine .ofS rfl fun st h => ?_
    split at h
    · exact js_brk
    · cases h
  | sef f e =>
    intro u
    exact ⟨fun st h => (by cases h), fun st h => (by cases h)⟩
  | mkh i j =>
    intro u
    exact ⟨fun st h => (by cases h), fun st h => (by cases h)⟩
  | nev =>
    intro u
    refine .ofS rfl fun st h => fun E tk hp => PS.imp ps_never fun D σ H q => ?_
    obtain ⟨G, S, N, r, hE, q, ok⟩ := q
    exact q
end
end Mi
set_option maxHeartbeats 1000000
namespace Mi
open PySem PySem.Spec L2
open PyProof.Rows hiding St
/-- what the defs that a body calls promise -/
structure Ctx (P : Program) (w : World) (K : PySem.W.Frag) (mg : Str → Option Value) (base : Heap) (k : Nat) (fn : FSpec → Prop) (mk : CSpec → Prop) (gl : Str → D → Prop) (kc : Str → Prop) : Prop where
  ko : KOk K mg
  fns : ∀ sp, fn sp → FnGood P w K mg base sp ∧ sp.lvl ≤ k
  mks : ∀ sp, mk sp → MkGood P w K mg base sp ∧ sp.lvl + 1 ≤ k
  gls : ∀ x d, gl x d → ∃ u v, mg x = some u ∧ RelV v u ∧ ∀ G, Rep K G d v
  kcs : ∀ c, kc c → KC K c
section
variable {P : Program} {w : World} {K : PySem.W.Frag} {mg : Str → Option Value} {base : Heap} {k : Nat} {fn : FSpec → Prop} {mk : CSpec → Prop} {gl : Str → D → Prop} {kc : Str → Prop}
theorem Ctx.xg (c : Ctx P w K mg base k fn mk gl kc) {N ps : List Str} {qual : Str} {scope : Scope} {f : Addr} {cdv : Value} {A : Around} {outer : List Env} {s : Shared} {H : Hp} {E : XK} (S : FnScope N ps scope) (hr : Room k (A.deeper (envOfC qual scope s.heap.objs.size f cdv))) :
    XG fn mk gl kc (cxOf (L2.CX P w) P w K mg base N qual scope f cdv A outer s H E) ⟨N, scope, fun _ => true⟩ :=
  ⟨rfl, rfl, rfl, rfl, S.nd, by
    show (A.deeper (envOfC qual scope s.heap.objs.size f cdv)).units + 65 < cLine
    have := hr.un
    omega, c.ko, fun sp h => ⟨(c.fns sp h).1, hr.mono (c.fns sp h).2⟩, fun sp h => ⟨(c.mks sp h).1, hr.mono (c.mks sp h).2⟩, c.gls, c.kcs⟩
/-- a body runs -/
theorem body_run (c : Ctx P w K mg base k fn mk gl kc) {N ps : List Str} {qual : Str} {scope : Scope} {f : Addr} {cdv : Value} {A : Around} {outer : List Env} {s : Shared} {H : Hp} {Ev : XK} (S : FnScope N ps scope) (hr : Room k (A.deeper (envOfC qual scope s.heap.objs.size f cdv)))
    {m : MS} {body : List Stmt} (u : UsS fn mk gl kc m) (hc : (ckS m).l ⟨N, scope, fun _ => true⟩ body = true) {C : IC} {G : Hp} {vs : List V} {S0 : List Sl} {E : XS} {Q : VK} {N0 : En} (r0 : Rel K C G H (start N vs) S0) (hE : N0.ex = E) (hw : WS m N0 S0) (ok : EndOk K C N0 { nx := fun _ H' => Q .non H', rt := Q } G)
    (hx : ∀ cls d σ H', liftX K C E cls d σ H' → Ev cls d H') :
    ∃ t, PSs (cxOf (L2.CX P w) P w K mg base N qual scope f cdv A outer s H Ev) body t ∧ t { nx := fun _ H' => Q .non H', rt := Q } (start N vs) H := by
  have g := c.xg (P := P) (w := w) (base := base) (N := N) (ps := ps) (qual := qual) (scope := scope) (f := f) (cdv := cdv) (A := A) (outer := outer) (s := s) (H := H) (E := Ev) S hr
  have tk : Takes (cxOf (L2.CX P w) P w K mg base N qual scope f cdv A outer s H Ev) (fun cls d _ H => Ev cls d H) := takes_of rfl rfl rfl rfl
  have js := ((ckS_ok g (C := C) m u).l body hc) E (tk.imp hx) (passes_of rfl)
  exact ⟨_, js, G, S0, N0, r0, hE, hw, ok⟩
theorem start_get {N : List Str} {vs : List V} {i : Nat} {v : V} (h : vs[i]? = some v) : (start N vs)[i]? = some (some v) := by
  unfold L2.start
  rw [List.getElem?_append_left (by rw [List.length_map]; exact (List.getElem?_eq_some_iff.mp h).1), List.getElem?_map, h]
  rfl
/-- the slots at the entry -/
theorem rel_start {G H : Hp} {hd : Option (Addr × Addr)} {ds : List D} {us : List V} {N : List Str} (hG : Same G H) (hr : Reps K G ds us) (hh : ∀ a c, hd = some (a, c) → HandOk G H a c ∧ G a = none) (hl : (hdV hd ++ us).length ≤ N.length) :
    Rel K ⟨H, G, fun x => ∃ c, hd = some (x, c)⟩ G H (start N (hdV hd ++ us)) (slots0 hd ds (N.length - (hdV hd ++ us).length)) := by
  have noOwn : ∀ j, ¬ Own (slots0 hd ds (N.length - (hdV hd ++ us).length)) j := by
    rintro j ⟨sl, h, o⟩
    have hm := List.mem_of_getElem? h
    unfold slots0 at hm
    rcases List.mem_append.mp hm with z | z
    · cases hd with
      | none => cases z
      | some ac => rw [List.mem_singleton.mp z] at o; cases o
    · rcases List.mem_append.mp z with z | z
      · obtain ⟨d, _, e⟩ := List.mem_map.mp z
        rw [← e] at o; cases o
      · rw [(List.mem_replicate.mp z).2] at o; cases o
  have hlen := hr.len
  refine ⟨hG, Same.refl _, fun a o h => .inl h, fun a o h _ => h, fun a h => h, ?_, fun i sl h => ?_, fun i j p _ oj => absurd oj (noOwn i), fun i p oi => absurd oi (noOwn i)⟩
  · unfold slots0 L2.start
    cases hd with
    | none => simp [hdV, hlen]
    | some ac => simp [hdV, hlen]
  · have un : ∀ {ts : List D} {n i : Nat} {sl : Sl} {x : Nat → Option (Option V)}, (ts.map Sl.va ++ List.replicate n Sl.un)[i]? = some sl → (∀ j d, ts[j]? = some d → ∃ v, x j = some (some v) ∧ Rep K G d v) → SlOk K ⟨H, G, fun x => ∃ c, hd = some (x, c)⟩ G H (x i) sl := by
      intro ts n i sl x h hx
      by_cases hi : i < ts.length
      · rw [List.getElem?_append_left (by rw [List.length_map]; exact hi), List.getElem?_map] at h
        obtain ⟨d, e1, e2⟩ := Option.map_eq_some_iff.mp h
        subst e2
        exact hx i d e1
      · rw [List.getElem?_append_right (by rw [List.length_map]; omega)] at h
        rw [(List.mem_replicate.mp (List.mem_of_getElem? h)).2]
        exact True.intro
    unfold slots0 at h
    cases hd with
    | none =>
      exact un (x := fun i => (start N us)[i]?) (by simpa using h) fun j d e => by
        obtain ⟨v, e1, e2⟩ := hr.get e
        exact ⟨v, start_get e1, e2⟩
    | some ac =>
      obtain ⟨a, c⟩ := ac
      cases i with
      | zero =>
        simp at h
        subst h
        obtain ⟨h1, h2⟩ := hh a c rfl
        exact ⟨start_get (vs := V.ref a :: us) rfl, h1, h2, .inl ⟨c, rfl⟩⟩
      | succ i =>
        exact un (x := fun i => (start N (V.ref a :: us))[i + 1]?) (by simpa using h) fun j d e => by
          obtain ⟨v, e1, e2⟩ := hr.get e
          exact ⟨v, start_get (by simpa using e1), e2⟩
/-- THE RULE: a def of the text, by its ideal body -/
theorem fnGood (c : Ctx P w K mg base k fn mk gl kc) (sp : FSpec) {x qual : Str} {params : Arguments} {body : List Stmt} {scope : Scope} {fd : FuncData} {N ps : List Str} (F : FunD K x qual params body scope [] [] (fAt K sp) fd) (S : FnScope N ps scope) (hl : sp.lvl = k + 1)
    (hb : ∀ (kV doc pm : Value) (an : Option Addr) (cdv ct : Value) (us : List Value), us.length = ps.length → bindArgs (PySem.W.fnOf x qual params body scope .none kV doc pm an cdv ct) ⟨us, []⟩ = pure (ps.zip us)) (hps : ps.length = (if sp.hd = true then 1 else 0) + sp.ar)
    (glo : sp.cls = ("" : Str) → mg sp.name = some (.ref (fAt K sp))) (met : sp.cls ≠ ("" : Str) → KC K sp.cls ∧ Meth K (He.ga K sp.cls) sp.name (fAt K sp))
    {m : MS} (u : UsS fn mk gl kc m) (hc : (ckS m).l ⟨N, scope, fun _ => true⟩ body = true)
    (hw : ∀ (hd : Option (Addr × Addr)) (ds : List D) (Q : DK) (E : XP), hd.isSome = sp.hd → ds.length = sp.ar → sp.spec ds Q E →
      WS m { nx := fun S => hst hd S ∧ Q .non, rt := fun d S => hst hd S ∧ Q d, ex := fun x S => hst hd S ∧ E x } (slots0 hd ds (N.length - ps.length))) : FnGood P w K mg base sp := by
  have len : ∀ vs H Q E, spOf K sp vs H Q E → vs.length = ps.length := by
    rintro vs H Q E ⟨G, ds, us, hd, Qd, Ed, rfl, e1, e2, _, r, _⟩
    rw [List.length_append, ← r.len, e2, hps, ← e1]
    cases hd <;> simp [hdV]
  have hpl : ps.length ≤ N.length := by have := congrArg List.length S.pre; rw [List.length_take] at this; omega
  refine ⟨⟨fd, ps, F.bindsN hb, ?_⟩, F.kp, glo, met⟩
  rw [hl]
  refine F.ok S len fun cdv A outer s H vs Q E hr hsp => ?_
  have hlen := len _ _ _ _ hsp
  obtain ⟨G, ds, us, hd, Qd, Ed, rfl, e1, e2, hG, rp, hh, q, kn, kx⟩ := hsp
  have r0 := rel_start (N := N) hG rp hh (by rw [hlen]; exact hpl)
  rw [hlen] at r0
  have w0 := hw hd ds Qd Ed e1 e2 q
  have ret : ∀ {G2 H2 : Hp} {S2 : List Sl}, Out K ⟨H, G, fun x => ∃ c, hd = some (x, c)⟩ G2 H2 S2 → hst hd S2 → Ret K G H hd G2 H2 := by
    intro G2 H2 S2 o hs
    refine ⟨o.ge, o.sub, o.new, fun a ob h n => o.frm a ob h fun ⟨c, z⟩ => n c z, fun a c e => ?_⟩
    subst e
    exact o.hnd 0 a c hs
  have retR : ∀ {G2 H2 : Hp} {σ2 : L2.St} {S2 : List Sl}, Rel K ⟨H, G, fun x => ∃ c, hd = some (x, c)⟩ G2 H2 σ2 S2 → hst hd S2 → Ret K G H hd G2 H2 := fun r hs => ret (Post.same (vs := []) (pp := []) r).out hs
  exact body_run c S hr u hc r0 rfl w0 ⟨fun σ2 S2 G2 H2 _ r2 q2 => kn .non .non H2 G2 (retR r2 q2.1) rfl q2.2, fun d v S2 G2 H2 o rv q2 => kn d v H2 G2 (ret o q2.1) rv q2.2, fun _ _ _ _ _ _ z => z.elim, fun _ _ _ _ _ _ z => z.elim⟩
    fun cls d σ H' ⟨G2, S2, x, r2, rx, z⟩ => kx x cls d H' G2 (retR r2 z.1) rx z.2
end
end Mi
set_option maxHeartbeats 1000000
namespace Mi
open PySem PySem.Spec L2
open PyProof.Rows hiding St
def sef1 (s : SC) (f : Str) (m : ME) : Stmt → Bool := fun st => match st with
  | .Assign [.Attribute (.Name y _) g _] e _ => decide (f = g) && (visB s 0 y && (ck m).e s e)
  | _ => false
def sefB (s : SC) : List (Str × ME) → List Stmt → Bool
  | [], st => st.isEmpty
  | (f, m) :: r, st :: rest => sef1 s f m st && sefB s r rest
  | _ :: _, [] => false
theorem sef1_of {s : SC} {f : Str} {m : ME} {st : Stmt} (h : sef1 s f m st = true) : ∃ y p1 p2 e p3, st = .Assign [.Attribute (.Name y p1) f p2] e p3 ∧ visB s 0 y = true ∧ (ck m).e s e = true := by
  unfold sef1 at h
  split at h
  · have z : ∀ {a b : Bool}, (a && b) = true → a = true ∧ b = true := fun {a b} h => by simpa using h
    obtain ⟨h1, h⟩ := z h
    obtain ⟨h2, h3⟩ := z h
    have e := of_decide_eq_true h1
    subst e
    exact ⟨_, _, _, _, _, rfl, h2, h3⟩
  · cases h
def initB (s : SC) : MS → List (Str × ME) → List Stmt → Bool
  | .seq a r, l, st :: rest => (ckS a).s s st && initB s r l rest
  | .nil, l, rest => sefB s l rest
  | _, _, _ => false
def UsF (fn : FSpec → Prop) (mk : CSpec → Prop) (gl : Str → D → Prop) (kc : Str → Prop) : List (Str × ME) → Prop
  | [] => True
  | (_, m) :: r => Us fn mk gl kc m ∧ UsF fn mk gl kc r
theorem Rel.exw {K : PySem.W.Frag} {C : IC} {ex' : Addr → Prop} {G H : Hp} {σ : L2.St} {S : List Sl} (r : Rel K C G H σ S) (h : ∀ a, C.ex a → ex' a) : Rel K ⟨C.He, C.Ge, ex'⟩ G H σ S := by
  refine ⟨r.sub, r.ge, r.new, fun a o e n => r.frm a o e fun z => n (h a z), r.dom, r.len, fun i s e => ?_, r.dis, r.hdis⟩
  have q := r.sl i s e
  cases s with
  | un => exact q
  | va d => exact q
  | ow d => exact q
  | lk p d => exact q
  | hn a c => exact ⟨q.1, q.2.1, q.2.2.1, q.2.2.2.imp (h a) id⟩
  | sc a ns => exact q
theorem putF_new {f : Str} {v : V} : ∀ {fl : List (Str × V)}, f ∉ fl.map (·.1) → putF f v fl = fl ++ [(f, v)]
  | [], _ => rfl
  | (g, x) :: r, h => by
    have h1 : ¬ g = f := fun z => h (by simp [z])
    have h2 : f ∉ r.map (·.1) := fun z => h (by simp only [List.map_cons]; exact List.mem_cons_of_mem _ z)
    show (if g = f then (g, v) :: r else (g, x) :: putF f v r) = _
    rw [if_neg h1, putF_new h2]
    rfl
/-- the state of an __init__: the instance at x has these attributes -/
structure InI (K : PySem.W.Frag) (C : IC) (cn : Str) (x dx : Addr) (G H : Hp) (σ : L2.St) (S : List Sl) (flds : List (Str × V)) (ws : List D) : Prop where
  rel : Rel K C G H σ S
  self : S[0]? = some (.sc x [])
  ins : H x = some (.ins (He.ga K cn) dx flds)
  reps : Reps K G ws (flds.map (·.2))
  hx : C.He x ≠ none
  gx : C.Ge x = none
theorem Rel.gex {K : PySem.W.Frag} {C : IC} {G H : Hp} {σ : L2.St} {S : List Sl} (r : Rel K C G H σ S) {x : Addr} (hx : C.He x ≠ none) (gx : C.Ge x = none) : G x = none := by
  cases z : G x with
  | none => rfl
  | some o =>
    rcases r.new x o z with h | h
    · rw [gx] at h; cases h
    · exact absurd h hx
section
variable {fn : FSpec → Prop} {mk : CSpec → Prop} {gl : Str → D → Prop} {kc : Str → Prop} {X : Cx} {s : SC} {C : IC}
def rdN (K : PySem.W.Frag) (C : IC) (cn : Str) (x dx : Addr) (l : List (Str × ME)) (E : XS) : TS := fun D σ H => ∃ (G : Hp) (S : List Sl) (flds : List (Str × V)) (ws : List Mi.D) (Q : List Mi.D → Prop), InI K C cn x dx G H σ S flds ws ∧ sefW l S (fun vs => Q (ws ++ vs)) E ∧ (flds.map (·.1) ++ l.map (·.1)).Nodup ∧ (flds.map (·.1) ++ l.map (·.1)).length ≤ 900 ∧
  (∀ f ∈ l.map (·.1), NoAttr K (He.ga K cn) f) ∧ ∀ σ2 S2 G2 H2 flds2 ws2, InI K C cn x dx G2 H2 σ2 S2 flds2 ws2 → flds2.map (·.1) = flds.map (·.1) ++ l.map (·.1) → Q ws2 → D.nx σ2 H2
theorem sef_ok (g : XG fn mk gl kc X s) {cn : Str} {x dx : Addr} (hex : C.ex x) (kcn : KC X.K cn) {E : XS} (tk : Takes X (liftX X.K C E)) : ∀ {l : List (Str × ME)} {st : List Stmt}, UsF fn mk gl kc l → sefB s l st = true → PSs X st (rdN X.K C cn x dx l E)
  | [], st, u, h => by
    cases st with
    | cons _ _ => cases h
    | nil =>
      refine PSs.imp pss_nil fun D σ H q => ?_
      obtain ⟨G, S, flds, ws, Q, i, q, _, _, _, k⟩ := q
      exact k σ S G H flds ws i (by simp) (by simpa [sefW] using q)
  | (f, m) :: r, st, u, h => by
    cases st with
    | nil => cases h
    | cons st rest =>
      obtain ⟨h0, h4⟩ := and_of h
      obtain ⟨y, p1, p2, e, p3, rfl, h2, h3⟩ := sef1_of h0
      obtain ⟨v1, v2, v3, v4⟩ := g.vis h2
      have je := (ck_ok m (C := C) g u.1).e _ h3
      have hsw : swapsWith e (some (.Attribute (.Name y p1) f p2)) p3.line X.env = pure false := by cases e <;> rfl
      refine PSs.imp (pss_cons (ps_fld (pe_var v1 v2 v3 v4) (je E tk) hsw) (sef_ok (dx := dx) g hex kcn tk u.2 h4)) fun D σ H q => ?_
      obtain ⟨G, S, flds, ws, Q, i, q, nd, nl, na, k⟩ := q
      refine ⟨G, S, _, i.rel, q, fun d S2 v H2 G2 p rv q2 => ?_⟩
      have hself : S2[0]? = some (.sc x []) := by
        have z := knd_get p.knd 0
        rw [i.self] at z
        cases w : S2[0]? with
        | none => rw [w] at z; cases z
        | some t =>
          rw [w] at z
          have e' : sk t = sk (.sc x []) := by simpa using z
          cases t <;> simp [sk] at e'
          obtain ⟨rfl, rfl⟩ := e'
          rfl
      have nhs : ∀ {G H : Hp} {S : List Sl} {o : HO}, Rel X.K C G H σ S → H x = some (.ins (He.ga X.K cn) dx flds) → ¬ hs S x := by
        rintro G H S o r hi ⟨j, c, hj⟩
        obtain ⟨_, ⟨xs, i1, r1, m1, n1, e1, _⟩, _⟩ := r.sl j _ hj
        rw [hi] at e1
        cases e1
      have nown : ∀ {G H : Hp} {S : List Sl}, Rel X.K C G H σ S → ∀ j, Own S j → σ[j]? ≠ some (some (.ref x)) := fun r j ow e => i.hx (r.own_none ow e).2
      have hx2 : H2 x = some (.ins (He.ga X.K cn) dx flds) := p.frm x _ i.ins (nhs (o := .lst []) i.rel i.ins) fun j _ ow => nown i.rel j ow
      obtain ⟨G3, u3, r3, st3, _⟩ := p.settleG d.hard
      have g3x : G3 x = none := r3.gex i.hx i.gx
      have hself3 : (thaw d.hard (vars m) S2)[0]? = some (.sc x []) := by
        have go : ∀ (vs : List Nat) (S : List Sl), S[0]? = some (.sc x []) → (frz vs S)[0]? = some (.sc x []) := fun vs => by
          induction vs with
          | nil => intro S h; exact h
          | cons v vs ih =>
            intro S h
            refine ih _ ?_
            unfold frz1
            by_cases ev : v = 0
            · subst ev
              rw [h]
              exact h
            · split
              · rw [List.getElem?_set_ne ev]; exact h
              · rw [List.getElem?_set_ne ev]; exact h
              · exact h
        unfold thaw
        cases d.hard with
        | true => exact hself
        | false => exact go _ _ hself
      have e0 : σ[0]? = some (some (.ref x)) := i.rel.sl 0 _ i.self
      have fnew : f ∉ flds.map (·.1) := fun z => by
        have := List.nodup_append.mp nd
        exact this.2.2 f z f (by simp) rfl
      refine ⟨_, e0, x, He.ga X.K cn, dx, flds, rfl, hx2, (g.ko.cls cn kcn).cls, na f (by simp), ?_, ?_⟩
      · have : (flds.map (·.1)).length ≤ 900 := by
          rw [List.length_append] at nl
          omega
        rw [List.length_map] at this
        omega
      have r4 : Rel X.K C G3 (upd H2 x (.ins (He.ga X.K cn) dx (putF f v flds))) σ (thaw d.hard (vars m) S2) := by
        refine r3.heap (fun a o h => ?_) (fun a o h n => ?_) (fun a h => ?_) (fun j b ow e o h => ?_) fun j a c h => ?_
        · rw [upd_ne (fun e => by rw [e, g3x] at h; cases h)]
          exact r3.sub a o h
        · rw [upd_ne (fun e => n (by rw [e]; exact hex))]
          exact r3.frm a o h n
        · by_cases e : a = x
          · rw [e, upd_same]; exact fun z => nomatch z
          · rw [upd_ne e]; exact r3.dom a h
        · rw [upd_ne (fun z => nown r3 j ow (by rw [← z]; exact e))]
          exact h
        · have q := (r3.sl j _ h).2.1
          refine q.up (fun o z => ?_) (Same.refl _)
          rw [upd_ne (fun ea => nhs (o := .lst []) r3 hx2 ⟨j, c, by rw [← ea]; exact h⟩)]
          exact z
      have rv3 := st3 d v id rv
      have rws : Reps X.K G3 (ws ++ [d]) ((putF f v flds).map (·.2)) := by
        rw [putF_new fnew, List.map_append]
        exact (i.reps.up u3).app (Reps.one rv3)
      refine ⟨G3, thaw d.hard (vars m) S2, putF f v flds, ws ++ [d], Q, ⟨r4, hself3, upd_same, rws, i.hx, i.gx⟩, ?_, ?_, ?_, fun f' hf' => na f' (by simp at hf' ⊢; exact .inr hf'), fun σ2 S3 G4 H4 flds2 ws2 i2 e2 q3 => k σ2 S3 G4 H4 flds2 ws2 i2 ?_ q3⟩
      · simpa using q2
      · rw [putF_new fnew]; simpa using nd
      · rw [putF_new fnew]; simpa using nl
      · rw [e2, putF_new fnew]; simp
def rdM (K : PySem.W.Frag) (C : IC) (cn : Str) (x dx : Addr) (m : MS) (l : List (Str × ME)) (E : XS) : TS := fun D σ H => ∃ G S N, Rel K C G H σ S ∧ N.ex = E ∧ WS m N S ∧ (∀ σ2 S2 G2 H2, Same G G2 → Rel K C G2 H2 σ2 S2 → N.nx S2 → rdN K ⟨C.He, C.Ge, fun a => a = x⟩ cn x dx l E D σ2 H2) ∧ (∀ d S, N.rt d S → False) ∧ (∀ S, N.bk S → False) ∧ ∀ S, N.ct S → False
theorem init_ok (g : XG fn mk gl kc X s) {cn : Str} {x dx : Addr} (hex : ∀ a, ¬ C.ex a) (kcn : KC X.K cn) {E : XS} (tk : Takes X (liftX X.K C E)) (tk2 : Takes X (liftX X.K ⟨C.He, C.Ge, fun a => a = x⟩ E)) (hp : PassesOwn (model X.prog X.w) X.A X.env X.xe) {l : List (Str × ME)} (ul : UsF fn mk gl kc l) :
    ∀ {m : MS} {st : List Stmt}, UsS fn mk gl kc m → initB s m l st = true → PSs X st (rdM X.K C cn x dx m l E) := by
  intro m
  induction m with
  | nil =>
    intro st u h
    have h' : sefB s l st = true := by cases st <;> exact h
    refine PSs.imp (sef_ok (C := ⟨C.He, C.Ge, fun a => a = x⟩) (x := x) (dx := dx) (cn := cn) g rfl kcn tk2 ul h') fun D σ H q => ?_
    obtain ⟨G, S, N, r, hE, q, k, _⟩ := q
    exact k σ S G H (Same.refl _) r q
  | seq a r _ ih =>
    intro st u h
    cases st with
    | nil => cases h
    | cons st rest =>
      obtain ⟨h1, h2⟩ := and_of h
      refine PSs.imp (pss_cons (((ckS_ok g (C := C) a u.1).s st h1) E tk hp) (ih u.2 h2)) fun D σ H q => ?_
      obtain ⟨G, S, N, rl, hE, q, k, n1, n2, n3⟩ := q
      refine ⟨G, S, { nx := fun S' => WS r N S', rt := N.rt, bk := N.bk, ct := N.ct, ex := N.ex }, rl, hE, q, ⟨fun σ2 S2 G2 H2 u2 r2 q2 => ⟨G2, S2, N, r2, hE, q2, fun σ3 S3 G3 H3 u3 r3 q3 => k σ3 S3 G3 H3 (u2.trans u3) r3 q3, n1, n2, n3⟩, fun d v S2 G2 H2 o rv z => (n1 d S2 z).elim, fun σ2 S2 G2 H2 _ _ z => (n2 S2 z).elim, fun σ2 S2 G2 H2 _ _ z => (n3 S2 z).elim⟩⟩
  | _ =>
    intro st u h
    cases st <;> cases h
end
section
variable {P : Program} {w : World} {K : PySem.W.Frag} {mg : Str → Option Value} {base : Heap} {k : Nat} {fn : FSpec → Prop} {mk : CSpec → Prop} {gl : Str → D → Prop} {kc : Str → Prop}
theorem rel_startI {G H : Hp} {x : Addr} {ds : List D} {us : List V} {N : List Str} (hG : Same G H) (hr : Reps K G ds us) (hl : us.length + 1 ≤ N.length) :
    Rel K ⟨H, G, fun _ => False⟩ G H (L2.start N (.ref x :: us)) (.sc x [] :: (ds.map Sl.va ++ List.replicate (N.length - (us.length + 1)) .un)) := by
  have r := rel_start (K := K) (N := N.tail) (hd := none) hG hr (fun _ _ z => by cases z) (by simpa [hdV] using (by omega : us.length ≤ N.length - 1))
  have e1 : L2.start N (.ref x :: us) = some (.ref x) :: L2.start N.tail us := by
    unfold L2.start
    simp
    omega
  have e2 : slots0 none ds (N.tail.length - (hdV none ++ us).length) = ds.map Sl.va ++ List.replicate (N.length - (us.length + 1)) .un := by
    unfold slots0
    have : N.tail.length - (hdV none ++ us).length = N.length - (us.length + 1) := by simp [hdV]; omega
    rw [this]
    rfl
  rw [e2] at r
  rw [e1]
  have r' : Rel K ⟨H, G, fun _ => False⟩ G H (L2.start N.tail us) (ds.map Sl.va ++ List.replicate (N.length - (us.length + 1)) .un) := r.exw fun a ⟨c, z⟩ => by cases z
  have noOwn : ∀ j, ¬ Own (.sc x [] :: (ds.map Sl.va ++ List.replicate (N.length - (us.length + 1)) .un)) j := by
    rintro j ⟨sl, h, o⟩
    rcases List.mem_cons.mp (List.mem_of_getElem? h) with z | z
    · rw [z] at o; cases o
    · rcases List.mem_append.mp z with z | z
      · obtain ⟨d, _, e⟩ := List.mem_map.mp z
        rw [← e] at o; cases o
      · rw [(List.mem_replicate.mp z).2] at o; cases o
  refine ⟨r'.sub, r'.ge, r'.new, r'.frm, r'.dom, by simp [r'.len], fun i sl h => ?_, fun i j p _ oj => absurd oj (noOwn i), fun i p oi => absurd oi (noOwn i)⟩
  cases i with
  | zero =>
    simp at h
    subst h
    rfl
  | succ i => exact r'.sl i sl (by simpa using h)
/-- THE RULE for an __init__ -/
theorem mkGood (c : Ctx P w K mg base k fn mk gl kc) (sp : CSpec) {x qual : Str} {params : Arguments} {body : List Stmt} {scope : Scope} {fd : FuncData} {N ps : List Str} {f : Addr} (F : FunD K x qual params body scope [] [] f fd) (S : FnScope N ps scope) (hl : sp.lvl = k + 1) (M : Mk K (He.ga K sp.name) f) (iok : InsOk K sp.name sp.fs)
    (hb : ∀ (kV doc pm : Value) (an : Option Addr) (cdv ct : Value) (us : List Value), us.length = ps.length → bindArgs (PySem.W.fnOf x qual params body scope .none kV doc pm an cdv ct) ⟨us, []⟩ = pure (ps.zip us)) (hps : ps.length = 1 + sp.ar)
    {m : MS} {l : List (Str × ME)} (u : UsS fn mk gl kc m) (ul : UsF fn mk gl kc l) (hc : initB ⟨N, scope, fun _ => true⟩ m l body = true) (hfs : l.map (·.1) = sp.fs) (hnd : sp.fs.Nodup) (hn9 : sp.fs.length ≤ 900)
    (hw : ∀ (x : Addr) (ds : List D) (Q : List D → Prop) (E : XP), ds.length = sp.ar → sp.spec ds Q E →
      WS m { nx := fun S => S[0]? = some (.sc x []) ∧ sefW l S Q (fun y _ => E y), rt := fun _ _ => False, ex := fun y _ => E y } (.sc x [] :: (ds.map Sl.va ++ List.replicate (N.length - ps.length) .un))) : MkGood P w K mg base sp := by
  have len : ∀ vs H Q E, spInit K sp vs H Q E → vs.length = ps.length := by
    rintro vs H Q E ⟨y, dx, G, ds, us, Qd, Ed, rfl, e2, _, _, _, _, _, r, _⟩
    rw [List.length_cons, ← r.len, e2, hps]
    omega
  have hpl : ps.length ≤ N.length := by have := congrArg List.length S.pre; rw [List.length_take] at this; omega
  refine ⟨⟨f, fd, ps, M, F.bindsN hb, ?_⟩, iok⟩
  rw [hl]
  refine F.ok S len fun cdv A outer s H vs Q E hr hsp => ?_
  have hlen := len _ _ _ _ hsp
  obtain ⟨y, dx, G, ds, us, Qd, Ed, rfl, e2, hy, hdx, hG, gy, gdx, rp, q, kn, kx⟩ := hsp
  have hul : us.length + 1 = ps.length := by simpa using hlen
  have r0 := rel_startI (K := K) (N := N) (x := y) hG rp (by omega)
  rw [hul] at r0
  have g := c.xg (P := P) (w := w) (base := base) (N := N) (ps := ps) (qual := qual) (scope := scope) (f := f) (cdv := cdv) (A := A) (outer := outer) (s := s) (H := H) (E := E) S hr
  have tk : Takes (cxOf (L2.CX P w) P w K mg base N qual scope f cdv A outer s H E) (fun cls d _ H => E cls d H) := takes_of rfl rfl rfl rfl
  have retI : ∀ {ex : Addr → Prop} {G2 H2 : Hp} {σ2 : L2.St} {S2 : List Sl}, (∀ a, ex a → a = y) → Rel K ⟨H, G, ex⟩ G2 H2 σ2 S2 → RetI K G H y G2 H2 := fun he r2 => ⟨r2.ge, r2.sub, r2.new, fun a o h n => r2.frm a o h fun z => n (he a z)⟩
  have lx : ∀ {ex : Addr → Prop}, (∀ a, ex a → a = y) → ∀ cls d σ H', liftX K ⟨H, G, ex⟩ (fun z _ => Ed z) cls d σ H' → E cls d H' := fun he cls d σ H' ⟨G2, S2, z, r2, rx, e⟩ => kx z cls d H' G2 (retI he r2) rx e
  refine ⟨_, init_ok (C := ⟨H, G, fun _ => False⟩) (cn := sp.name) (x := y) (dx := dx) g (fun a z => z) iok.1 (tk.imp (lx fun a z => z.elim)) (tk.imp (lx fun a z => z)) (passes_of rfl) ul u hc, ?_⟩
  refine ⟨G, _, _, r0, rfl, hw y ds Qd Ed e2 q, fun σ2 S2 G2 H2 _ r2 q2 => ?_, fun d S z => z, fun S z => z, fun S z => z⟩
  have hy2 : H2 y = some (.ins (He.ga K sp.name) dx []) := r2.frm y _ hy fun z => z
  refine ⟨G2, S2, [], [], Qd, ⟨r2.exw fun a z => z.elim, q2.1, hy2, rfl, (by show H y ≠ none; rw [hy]; exact fun z => nomatch z), gy⟩, by simpa using q2.2, by simpa [hfs] using hnd, by
    have e : (List.map (fun x : Str × ME => x.1) l).length ≤ 900 := by rw [hfs]; exact hn9
    simpa using e, fun f' hf' => iok.2 f' (by rw [← hfs]; exact hf'), fun σ3 S3 G3 H3 flds2 ws2 i e3 q3 => ?_⟩
  exact kn ws2 flds2 H3 G3 (retI (fun a z => z) i.rel) (by rw [e3, ← hfs]; rfl) i.reps i.ins q3
end
end Mi
set_option maxHeartbeats 1000000
namespace Mi
open PySem PySem.Spec L2
open PyProof.Rows hiding St
/-- the hand's state: cells, place, rest, mix, count; the locals that are ints -/
structure HS where
  cs : List Int
  i : Int
  r : Int
  m : Int
  n : Int
  L : Nat → Option Int
structure Hst (a c : Addr) (h : HS) (σ : L2.St) (H : Hp) : Prop where
  v : σ[0]? = some (some (.ref a))
  o : H a = some (.lst [.ref c, .int h.i, .int h.r, .int h.m, .int h.n])
  w : H c = some (.lst (h.cs.map V.int))
  ne : c ≠ a
  l : ∀ j k, h.L j = some k → σ[j]? = some (some (.int k))
  z : 5 ≤ σ.length
inductive Oc where
  | nx (h : HS) | rt (h : HS) (k : Int)
def Oc.h : Oc → HS
  | .nx h => h
  | .rt h _ => h
def tHE (f : HS → Option Int) : TE := fun σ H Q => ∃ a c h k, Hst a c h σ H ∧ f h = some k ∧ Q (.int k) H
def tHT (f : HS → Option Bool) : TT := fun σ H Q => ∃ a c h k, Hst a c h σ H ∧ f h = some k ∧ Q k H
def tHS (f : HS → Option Oc) : TS := fun D σ H => ∃ a c h o, Hst a c h σ H ∧ f h = some o ∧ (∀ σ' H', Hst a c o.h σ' H' → (∀ b, b ≠ a → H' b = H b) → σ'.length = σ.length → match o with
  | .nx _ => D.nx σ' H'
  | .rt _ k => D.rt (.int k) H')
def hget (k : Nat) (h : HS) : Option Int := match k with
  | 1 => some h.i
  | 2 => some h.r
  | 3 => some h.m
  | 4 => some h.n
  | _ => none
def hset (k : Nat) (v : Int) (h : HS) : Option HS := match k with
  | 1 => some { h with i := v }
  | 2 => some { h with r := v }
  | 3 => some { h with m := v }
  | 4 => some { h with n := v }
  | _ => none
def hloc (i : Nat) (v : Int) (h : HS) : HS := { h with L := fun j => if j = i then some v else h.L j }
def obin (o : Int → Int → Option Int) (f g : HS → Option Int) : HS → Option Int := fun h => (f h).bind fun x => (g h).bind fun y => o x y
/-- the ops, where they stay small -/
def oOf (o : Operator) (x y : Int) : Option Int := match o with
  | .Add => some (x + y)
  | .Mult => if (-(2 ^ 64) < x ∧ x < 2 ^ 64) ∨ (-(2 ^ 64) < y ∧ y < 2 ^ 64) then some (x * y) else none
  | .FloorDiv => if y ≠ 0 ∧ y.natAbs < 1073741824 then some (x.fdiv y) else none
  | .Mod => if y ≠ 0 then some (x.fmod y) else none
  | .Pow => if 0 ≤ y ∧ y ≤ 1000000 ∧ x.natAbs < 2 ^ 64 then some (x ^ y.toNat) else none
  | _ => none
def cOf (o : CmpOp) (x y : Int) : Option Bool := match o with
  | .Eq => some (x == y)
  | .Lt => some (decide (x < y))
  | .Gt => some (decide (y < x))
  | .GtE => some (decide (y ≤ x))
  | _ => none
section
variable {X : Cx} {pos p1 p2 p3 p4 : Pos}
theorem he_con {k : Int} {j : Nat} : PE X (.Constant (.int k) j pos) (tHE fun _ => some k) := PE.imp pe_int fun σ H Q q => by
  obtain ⟨a, c, h, k, _, e, q⟩ := q
  cases e
  exact q
theorem he_var {i : Nat} {x : Str} (h : PE X (.Name x pos) (tVar i)) : PE X (.Name x pos) (tHE fun h => h.L i) := PE.imp h fun σ H Q q => by
  obtain ⟨a, c, h, k, z, e, q⟩ := q
  exact ⟨_, z.l i k e, q⟩
theorem he_get {k : Nat} {kk : Int} (hk : kk = (k : Nat)) {x : Str} {j : Nat} (h : PE X (.Name x p1) (tVar 0)) : PE X (.Subscript (.Name x p1) (.Constant (.int kk) j p2) pos) (tHE (hget k)) := by
  subst hk
  refine PE.imp (pe_ix ix_list h pe_int (fun _ _ => rfl)) fun σ H Q q => ?_
  obtain ⟨a, c, h, v, z, e, q⟩ := q
  refine ⟨_, z.v, a, _, _, .int v, rfl, rfl, SqL.of z.o, ?_, q⟩
  unfold hget at e
  split at e <;> cases e <;> rfl
theorem he_len {x f : Str} {j : Nat} (hf : f = ("len" : Str)) (g : Gl X "len") (hm : X.mg "len" = none) (h : PE X (.Name x p1) (tVar 0)) : PE X (.Call (.Name f p3) [.Subscript (.Name x p1) (.Constant (.int 0) j p2) p4] [] pos) (tHE fun h => some h.cs.length) := by
  subst hf
  refine PE.imp (pe_callB call_len g hm boot_len (pa_cons (pe_ix ix_list h pe_int (fun _ _ => rfl)) pa_nil)) fun σ H Q q => ?_
  obtain ⟨a, c, h, k, z, e, q⟩ := q
  cases e
  refine ⟨_, z.v, a, _, _, .ref c, rfl, rfl, SqL.of z.o, rfl, ?_⟩
  exact ⟨_, _, rfl, .inl ⟨_, SqL.of z.w, rfl⟩, by rw [List.length_map]; exact q⟩
theorem he_cell {x : Str} {e : Expr} {j : Nat} {f : HS → Option Int} (h : PE X (.Name x p1) (tVar 0)) (he : PE X e (tHE f)) (hs : noSl e = true) : PE X (.Subscript (.Subscript (.Name x p1) (.Constant (.int 0) j p2) p4) e pos) (tHE fun h => (f h).bind fun k => if 0 ≤ k then h.cs[k.toNat]? else none) := by
  refine PE.imp (pe_ix ix_list (pe_ix ix_list h pe_int (fun _ _ => rfl)) he (ix_of hs)) fun σ H Q q => ?_
  obtain ⟨a, c, h, v, z, e, q⟩ := q
  obtain ⟨k, e1, e2⟩ := Option.bind_eq_some_iff.mp e
  split at e2
  · rename_i hk
    refine ⟨_, z.v, a, _, _, .ref c, rfl, rfl, SqL.of z.o, rfl, a, c, h, k, z, e1, c, _, k, .int v, rfl, rfl, SqL.of z.w, ?_, q⟩
    have hl := (List.getElem?_eq_some_iff.mp e2).1
    unfold atI ixN
    rw [if_pos hk, if_pos (by rw [List.length_map]; omega)]
    show (h.cs.map V.int)[k.toNat]? = _
    rw [List.getElem?_map, e2]
    rfl
  · cases e2
theorem he_bin {x y : Expr} {o : Operator} {f g : HS → Option Int} (hx : PE X x (tHE f)) (hy : PE X y (tHE g)) : PE X (.BinOp x o y pos) (tHE (obin (oOf o) f g)) := by
  refine PE.imp (pe_op (opBin X _) hx hy) fun σ H Q q => ?_
  obtain ⟨a, c, h, v, z, e, q⟩ := q
  obtain ⟨k1, e1, e⟩ := Option.bind_eq_some_iff.mp e
  obtain ⟨k2, e2, e⟩ := Option.bind_eq_some_iff.mp e
  refine ⟨a, c, h, k1, z, e1, a, c, h, k2, z, e2, ?_⟩
  unfold oOf at e
  split at e
  · cases e
    exact rb op_add ⟨_, _, rfl, rfl, q⟩
  · split at e
    · rename_i hc
      cases e
      exact rb op_mul ⟨_, _, rfl, rfl, hc, q⟩
    · cases e
  · split at e
    · rename_i hc
      cases e
      exact rb op_fdivN ⟨_, _, rfl, rfl, hc, q⟩
    · cases e
  · split at e
    · rename_i hc
      cases e
      exact rb op_modN ⟨_, _, rfl, rfl, hc, q⟩
    · cases e
  · split at e
    · rename_i hc
      cases e
      exact rb op_pow ⟨_, _, rfl, rfl, hc, q⟩
    · cases e
  · cases e
theorem he_int {e : Expr} {x : Str} {f : HS → Option Int} (hx : x = ("int" : Str)) (g : Gl X "int") (hm : X.mg "int" = none) (he : PE X e (tHE f)) (hs : noSt e = true) : PE X (.Call (.Name x p1) [e] [] pos) (tHE f) := by
  subst hx
  refine PE.imp (pe_callTy call_int1 g hm (by decide +kernel) (pa_cons he pa_nil (star_of hs)) (he := star_of hs)) fun σ H Q q => ?_
  obtain ⟨a, c, h, v, z, e, q⟩ := q
  exact ⟨a, c, h, v, z, e, .inl ⟨v, rfl, q⟩⟩
theorem ht_cmp (hu : X.A.units + 65 < cLine) {x y : Expr} {o : CmpOp} {f g : HS → Option Int} (hm : behindInMarks o y = false) (hx : PE X x (tHE f)) (hy : PE X y (tHE g)) : PT X (.Compare x [o] [y] pos) (tHT fun h => (f h).bind fun u => (g h).bind fun v => cOf o u v) := by
  refine PT.imp (pt_cmpR (opBin X _) hx hy hm) fun σ H Q q => ?_
  obtain ⟨a, c, h, v, z, e, q⟩ := q
  obtain ⟨k1, e1, e⟩ := Option.bind_eq_some_iff.mp e
  obtain ⟨k2, e2, e⟩ := Option.bind_eq_some_iff.mp e
  refine ⟨a, c, h, k1, z, e1, a, c, h, k2, z, e2, ?_⟩
  refine cmp_okH (G2 := fun _ => none) (Qd := fun d => ∃ b, d = .bl b ∧ cOf o k1 k2 = some b) hu (fun _ _ z => nomatch z) (fun b hb => ?_) (d := .int k1) (e := .int k2) rfl rfl ?_
  · obtain ⟨b', e3, e4⟩ := hb
    cases e3
    rw [e] at e4
    cases e4
    exact ⟨_, rfl, q⟩
  · unfold cOf at e ⊢
    split at e
    · exact ⟨rfl, rfl, _, rfl, rfl⟩
    · exact ⟨_, rfl, rfl⟩
    · exact ⟨_, rfl, rfl⟩
    · exact ⟨_, rfl, rfl⟩
    · cases e
theorem ht_and {x y : Expr} {f g : HS → Option Bool} (hx : PT X x (tHT f)) (hy : PT X y (tHT g)) : PT X (.BoolOp .And [x, y] pos) (tHT fun h => (f h).bind fun u => if u = true then g h else some false) := by
  refine PT.imp (pw_and hx (pw_and1 hy)).pt fun σ H Q q => ?_
  obtain ⟨a, c, h, v, z, e, q⟩ := q
  obtain ⟨k1, e1, e⟩ := Option.bind_eq_some_iff.mp e
  refine ⟨a, c, h, k1, z, e1, ?_⟩
  cases k1 with
  | true =>
    rw [if_pos rfl] at e ⊢
    exact ⟨a, c, h, v, z, e, q⟩
  | false =>
    cases e
    exact q
theorem hs_put {k : Nat} {kk : Int} (hk : kk = (k : Nat)) {x : Str} {j : Nat} {e : Expr} {f : HS → Option Int} (h : PE X (.Name x p1) (tVar 0)) (he : PE X e (tHE f)) : PS X (.Assign [.Subscript (.Name x p1) (.Constant (.int kk) j p2) p3] e pos) (tHS fun h => (f h).bind fun v => (hset k v h).map .nx) := by
  subst hk
  have hsw : swapsWithSole [.Subscript (.Name x p1) (.Constant (.int (k : Nat)) j p2) p3] e pos.line X.env = pure false := by cases e <;> rfl
  have hw : swappedStores [.Subscript (.Name x p1) (.Constant (.int (k : Nat)) j p2) p3] e X.env = pure none := by cases e <;> rfl
  refine PS.imp (ps_asg he (pg_sub h pe_int set_list) hsw hw rfl) fun D σ H q => ?_
  obtain ⟨a, c, h, o, z, e, q⟩ := q
  obtain ⟨v, e1, e⟩ := Option.bind_eq_some_iff.mp e
  obtain ⟨h', e2, rfl⟩ := Option.map_eq_some_iff.mp e
  have fin : ∀ (us : List V), upd H a (.lst us) a = some (.lst [.ref c, .int h'.i, .int h'.r, .int h'.m, .int h'.n]) → h'.cs = h.cs → h'.L = h.L → D.nx σ (upd H a (.lst us)) := fun us hu hc hL =>
    q σ _ ⟨z.v, hu, by rw [upd_ne z.ne]; show H c = some (.lst (h'.cs.map V.int)); rw [hc]; exact z.w, z.ne, fun j k e => z.l j k (by rw [← hL]; exact e), z.z⟩ (fun b hb => upd_ne hb) rfl
  refine ⟨a, c, h, v, z, e1, _, z.v, a, _, (k : Nat), k, rfl, rfl, z.o, ?_, fin _ ?_ ?_ ?_⟩
  all_goals (unfold hset at e2; split at e2 <;> cases e2 <;> first | rfl | (rw [upd_same]; rfl))
theorem hs_loc {i : Nat} {x : Str} {e : Expr} {f : HS → Option Int} (hN : X.N.Nodup) (hi : X.N[i]? = some x) (hx : L2.Loc X.env.scope x) (hf : X.fn x = true ∨ X.env.scope.names.lookup x = some .local) (h0 : 0 < i) (h5 : i < 5) (hc : noComp e = true) (he : PE X e (tHE f)) : PS X (.Assign [.Name x p1] e pos) (tHS fun h => (f h).map fun v => .nx (hloc i v h)) := by
  refine PS.imp (ps_set hN hi hx he (sw_plain hc) hf) fun D σ H q => ?_
  obtain ⟨a, c, h, o, z, e, q⟩ := q
  obtain ⟨v, e1, rfl⟩ := Option.map_eq_some_iff.mp e
  refine ⟨a, c, h, v, z, e1, q _ H ⟨?_, z.o, z.w, z.ne, fun j k e => ?_, by rw [List.length_set]; exact z.z⟩ (fun _ _ => rfl) (List.length_set ..)⟩
  · rw [List.getElem?_set_ne (by omega)]
    exact z.v
  · have hj : (if j = i then some v else h.L j) = some k := e
    by_cases ej : j = i
    · subst ej
      rw [if_pos rfl] at hj
      cases hj
      rw [List.getElem?_set_self (by have := z.z; omega)]
    · rw [if_neg ej] at hj
      rw [List.getElem?_set_ne (Ne.symm ej)]
      exact z.l j k hj
theorem hs_ret {e : Expr} {f : HS → Option Int} (he : PE X e (tHE f)) : PS X (.Return (some e) pos) (tHS fun h => (f h).map fun v => .rt h v) := by
  refine PS.imp (ps_ret he) fun D σ H q => ?_
  obtain ⟨a, c, h, o, z, e, q⟩ := q
  obtain ⟨v, e1, rfl⟩ := Option.map_eq_some_iff.mp e
  exact ⟨a, c, h, v, z, e1, q σ H z (fun _ _ => rfl) rfl⟩
def tHSs (f : HS → Option Oc) : TS := tHS f
def oseq (f g : HS → Option Oc) : HS → Option Oc := fun h => (f h).bind fun o => match o with
  | .nx h' => g h'
  | .rt h' k => some (.rt h' k)
theorem hss_nil : PSs X [] (tHS fun h => some (.nx h)) := PSs.imp pss_nil fun D σ H q => by
  obtain ⟨a, c, h, o, z, e, q⟩ := q
  cases e
  exact q σ H z (fun _ _ => rfl) rfl
theorem hss_cons {st : Stmt} {rest : List Stmt} {f g : HS → Option Oc} (h1 : PS X st (tHS f)) (h2 : PSs X rest (tHS g)) : PSs X (st :: rest) (tHS (oseq f g)) := PSs.imp (pss_cons h1 h2) fun D σ H q => by
  obtain ⟨a, c, h, o, z, e, q⟩ := q
  obtain ⟨o1, e1, e2⟩ := Option.bind_eq_some_iff.mp e
  refine ⟨a, c, h, o1, z, e1, fun σ' H' z' k' l' => ?_⟩
  cases o1 with
  | nx h' => exact ⟨a, c, h', o, z', e2, fun σ2 H2 z2 k2 l2 => q σ2 H2 z2 (fun b hb => (k2 b hb).trans (k' b hb)) (l2.trans l')⟩
  | rt h' k =>
    cases e2
    exact q σ' H' z' k' l'
theorem hs_if {e : Expr} {a b : List Stmt} {t : HS → Option Bool} {f g : HS → Option Oc} (ht : PT X e (tHT t)) (ha : PSs X a (tHS f)) (hb : PSs X b (tHS g)) : PS X (.If e a b pos) (tHS fun h => (t h).bind fun u => if u = true then f h else g h) := by
  refine PS.imp (ps_if ht ha hb) fun D σ H q => ?_
  obtain ⟨a, c, h, o, z, e, q⟩ := q
  obtain ⟨k, e1, e2⟩ := Option.bind_eq_some_iff.mp e
  refine ⟨a, c, h, k, z, e1, ?_⟩
  cases k with
  | true =>
    rw [if_pos rfl] at e2 ⊢
    exact ⟨a, c, h, o, z, e2, q⟩
  | false =>
    rw [if_neg Bool.false_ne_true] at e2 ⊢
    exact ⟨a, c, h, o, z, e2, q⟩
end
end Mi
set_option maxHeartbeats 1000000
namespace Mi
open PySem PySem.Spec L2
open PyProof.Rows hiding St
inductive HX where
  | con (k : Int) | var (i : Nat) | get (k : Nat) | len | cell (e : HX) | bin (o : Operator) (a b : HX) | int (a : HX)
def HX.f : HX → HS → Option Int
  | .con k => fun _ => some k
  | .var i => fun h => h.L i
  | .get k => hget k
  | .len => fun h => some h.cs.length
  | .cell e => fun h => (e.f h).bind fun k => if 0 ≤ k then h.cs[k.toNat]? else none
  | .bin o a b => obin (oOf o) a.f b.f
  | .int a => a.f
def HX.ck (s : SC) : HX → Expr → Bool
  | .con k => fun e => match e with
    | .Constant (.int j) _ _ => decide (k = j)
    | _ => false
  | .var i => fun e => match e with
    | .Name x _ => visB s i x
    | _ => false
  | .get k => fun e => match e with
    | .Subscript (.Name x _) (.Constant (.int j) _ _) _ => visB s 0 x && decide (j = (k : Nat))
    | _ => false
  | .len => fun e => match e with
    | .Call (.Name f _) [.Subscript (.Name x _) (.Constant (.int j) _ _) _] [] _ => decide (f = ("len" : Str)) && (glB s f && (visB s 0 x && decide (j = 0)))
    | _ => false
  | .cell m => fun e => match e with
    | .Subscript (.Subscript (.Name x _) (.Constant (.int j) _ _) _) y _ => visB s 0 x && (decide (j = 0) && (noSl y && m.ck s y))
    | _ => false
  | .bin o a b => fun e => match e with
    | .BinOp x q y _ => decide (o = q) && (a.ck s x && b.ck s y)
    | _ => false
  | .int a => fun e => match e with
    | .Call (.Name f _) [y] [] _ => decide (f = ("int" : Str)) && (glB s f && (noSt y && a.ck s y))
    | _ => false
inductive HT where
  | cmp (o : CmpOp) (a b : HX) | and (a b : HT)
def HT.f : HT → HS → Option Bool
  | .cmp o a b => fun h => (a.f h).bind fun u => (b.f h).bind fun v => cOf o u v
  | .and a b => fun h => (a.f h).bind fun u => if u = true then b.f h else some false
def HT.ck (s : SC) : HT → Expr → Bool
  | .cmp o a b => fun e => match e with
    | .Compare x [q] [y] _ => decide (o = q) && (!behindInMarks q y && (a.ck s x && b.ck s y))
    | _ => false
  | .and a b => fun e => match e with
    | .BoolOp .And [x, y] _ => a.ck s x && b.ck s y
    | _ => false
inductive HC where
  | nil | seq (a r : HC) | put (k : Nat) (e : HX) | loc (i : Nat) (e : HX) | ret (e : HX) | ifs (t : HT) (a b : HC)
def HC.f : HC → HS → Option Oc
  | .nil => fun h => some (.nx h)
  | .seq a r => oseq a.f r.f
  | .put k e => fun h => (e.f h).bind fun v => (hset k v h).map .nx
  | .loc i e => fun h => (e.f h).map fun v => .nx (hloc i v h)
  | .ret e => fun h => (e.f h).map fun v => .rt h v
  | .ifs t a b => fun h => (t.f h).bind fun u => if u = true then a.f h else b.f h
def HC.ck : HC → CS
  | .nil => ⟨noS, fun _ l => l.isEmpty⟩
  | .seq a r => ⟨noS, fun s l => match l with
    | st :: rest => a.ck.s s st && r.ck.l s rest
    | [] => false⟩
  | .put k e => stm fun s st => match st with
    | .Assign [.Subscript (.Name x _) (.Constant (.int j) _ _) _] y _ => visB s 0 x && (decide (j = (k : Nat)) && e.ck s y)
    | _ => false
  | .loc i e => stm fun s st => match st with
    | .Assign [.Name x _] y _ => locB s i x && (decide (0 < i ∧ i < 5) && (noComp y && e.ck s y))
    | _ => false
  | .ret e => stm fun s st => match st with
    | .Return (some y) _ => e.ck s y
    | _ => false
  | .ifs t a b => stm fun s st => match st with
    | .If x y z _ => t.ck s x && (a.ck.l s y && b.ck.l s z)
    | _ => false
section
variable {X : Cx} {s : SC} {fn : FSpec → Prop} {mk : CSpec → Prop} {gl : Str → D → Prop} {kc : Str → Prop}
theorem XG.pv (g : XG fn mk gl kc X s) {i : Nat} {x : Str} {pos : Pos} (h : visB s i x = true) : PE X (.Name x pos) (tVar i) := by
  obtain ⟨h1, h2, h3, h4⟩ := g.vis h
  exact pe_var h1 h2 h3 h4
theorem HX.ok (g : XG fn mk gl kc X s) : ∀ {m : HX} {e : Expr}, m.ck s e = true → PE X e (tHE m.f) := by
  intro m
  induction m with
  | con k =>
    intro e h
    unfold HX.ck at h
    split at h
    · have e := of_decide_eq_true h
      subst e
      exact he_con
    · cases h
  | var i =>
    intro e h
    unfold HX.ck at h
    split at h
    · exact he_var (g.pv h)
    · cases h
  | get k =>
    intro e h
    unfold HX.ck at h
    split at h
    · obtain ⟨h1, h2⟩ := and_of h
      exact he_get (of_decide_eq_true h2) (g.pv h1)
    · cases h
  | len =>
    intro e h
    unfold HX.ck at h
    split at h
    · obtain ⟨h1, h⟩ := and_of h
      obtain ⟨h2, h⟩ := and_of h
      obtain ⟨h3, h4⟩ := and_of h
      have e1 := of_decide_eq_true h1
      have e2 := of_decide_eq_true h4
      subst e1 e2
      exact he_len rfl (g.glo h2).1 (g.ko.blt _ (by decide)) (g.pv h3)
    · cases h
  | cell m ih =>
    intro e h
    unfold HX.ck at h
    split at h
    · obtain ⟨h1, h⟩ := and_of h
      obtain ⟨h2, h⟩ := and_of h
      obtain ⟨h3, h4⟩ := and_of h
      have e2 := of_decide_eq_true h2
      subst e2
      exact he_cell (g.pv h1) (ih h4) h3
    · cases h
  | bin o a b iha ihb =>
    intro e h
    unfold HX.ck at h
    split at h
    · obtain ⟨h1, h⟩ := and_of h
      obtain ⟨h2, h3⟩ := and_of h
      have e1 := of_decide_eq_true h1
      subst e1
      exact he_bin (iha h2) (ihb h3)
    · cases h
  | int a ih =>
    intro e h
    unfold HX.ck at h
    split at h
    · obtain ⟨h1, h⟩ := and_of h
      obtain ⟨h2, h⟩ := and_of h
      obtain ⟨h3, h4⟩ := and_of h
      have e1 := of_decide_eq_true h1
      subst e1
      exact he_int rfl (g.glo h2).1 (g.ko.blt _ (by decide)) (ih h4) h3
    · cases h
theorem HT.ok (g : XG fn mk gl kc X s) : ∀ {m : HT} {e : Expr}, m.ck s e = true → PT X e (tHT m.f) := by
  intro m
  induction m with
  | cmp o a b =>
    intro e h
    unfold HT.ck at h
    split at h
    · obtain ⟨h1, h⟩ := and_of h
      obtain ⟨h2, h⟩ := and_of h
      obtain ⟨h3, h4⟩ := and_of h
      have e1 := of_decide_eq_true h1
      subst e1
      exact ht_cmp g.un (by simpa using h2) (HX.ok g h3) (HX.ok g h4)
    · cases h
  | and a b iha ihb =>
    intro e h
    unfold HT.ck at h
    split at h
    · obtain ⟨h1, h2⟩ := and_of h
      exact ht_and (iha h1) (ihb h2)
    · cases h
theorem HC.ok (g : XG fn mk gl kc X s) : ∀ (m : HC), (∀ st, m.ck.s s st = true → PS X st (tHS m.f)) ∧ ∀ l, m.ck.l s l = true → PSs X l (tHS m.f) := by
  intro m
  induction m with
  | nil =>
    refine ⟨fun st h => (by cases h), fun l h => ?_⟩
    cases l with
    | nil => exact hss_nil
    | cons _ _ => cases h
  | seq a r iha ihr =>
    refine ⟨fun st h => (by cases h), fun l h => ?_⟩
    cases l with
    | nil => cases h
    | cons st rest =>
      obtain ⟨h1, h2⟩ := and_of h
      exact hss_cons (iha.1 _ h1) (ihr.2 _ h2)
  | put k e =>
    refine ⟨fun st h => ?_, fun l h => (by cases h)⟩
    simp only [HC.ck] at h
    split at h
    · obtain ⟨h1, h⟩ := and_of h
      obtain ⟨h2, h3⟩ := and_of h
      exact hs_put (of_decide_eq_true h2) (g.pv h1) (HX.ok g h3)
    · cases h
  | loc i e =>
    refine ⟨fun st h => ?_, fun l h => (by cases h)⟩
    simp only [HC.ck] at h
    split at h
    · obtain ⟨h1, h⟩ := and_of h
      obtain ⟨h2, h⟩ := and_of h
      obtain ⟨h3, h4⟩ := and_of h
      obtain ⟨l1, l2, l3⟩ := g.loc h1
      have hi := of_decide_eq_true h2
      exact hs_loc g.nd l1 l2 l3 hi.1 hi.2 h3 (HX.ok g h4)
    · cases h
  | ret e =>
    refine ⟨fun st h => ?_, fun l h => (by cases h)⟩
    simp only [HC.ck] at h
    split at h
    · exact hs_ret (HX.ok g h)
    · cases h
  | ifs t a b iha ihb =>
    refine ⟨fun st h => ?_, fun l h => (by cases h)⟩
    simp only [HC.ck] at h
    split at h
    · obtain ⟨h1, h⟩ := and_of h
      obtain ⟨h2, h3⟩ := and_of h
      exact hs_if (HT.ok g h1) (iha.2 _ h2) (ihb.2 _ h3)
    · cases h
end
/-- its body, with its numbers -/
def drawC (a1 a2 a3 m1 e1 b1 b2 b3 m2 c1 c2 m3 d1 d2 m4 q : Int) : HC :=
  .seq (.ifs (.and (.cmp .Eq (.get 2) (.con 0)) (.cmp .Lt (.get 1) .len))
    (.seq (.loc 2 (.cell (.get 1))) (.seq (.put 1 (.bin .Add (.get 1) (.con 1))) (.seq (.put 3 (.bin .Mod (.int (.bin .Add (.bin .Add (.bin .Mult (.get 3) (.con a1)) (.bin .Mult (.var 2) (.con a2))) (.con a3))) (.con m1)))
      (.seq (.ifs (.cmp .GtE (.var 2) (.bin .Pow (.con 10) (.con e1))) (.seq (.put 2 (.var 2)) .nil) .nil) .nil)))) .nil)
  (.seq (.ifs (.cmp .Gt (.get 2) (.con 0)) (.seq (.loc 3 (.bin .Mod (.int (.get 2)) (.var 1))) (.seq (.put 2 (.bin .FloorDiv (.get 2) (.var 1))) (.seq (.ret (.var 3)) .nil))) .nil)
  (.seq (.put 4 (.bin .Add (.get 4) (.con 1)))
  (.seq (.loc 4 (.bin .Mod (.int (.bin .Mult (.int (.bin .Add (.get 3) (.bin .Mult (.con b1) (.get 4)))) (.con b2))) (.con m2)))
  (.seq (.loc 4 (.bin .Mod (.int (.bin .Mult (.var 4) (.bin .Add (.bin .FloorDiv (.var 4) (.con c1)) (.con c2)))) (.con m3)))
  (.seq (.loc 4 (.bin .Mod (.int (.bin .Mult (.var 4) (.bin .Add (.bin .FloorDiv (.var 4) (.con d1)) (.con d2)))) (.con m4)))
  (.seq (.ret (.bin .Mod (.int (.bin .FloorDiv (.var 4) (.con q))) (.var 1))) .nil))))))
end Mi
set_option maxHeartbeats 1000000
namespace Mi
open PySem PySem.Spec L2
open PyProof.Rows hiding St
structure HGood (h : HS) : Prop where
  len : h.cs.length ≤ 63
  pos : ∀ x ∈ h.cs, 0 ≤ x
  i : 0 ≤ h.i
  r : 0 ≤ h.r
structure DrawK (a1 a2 a3 m1 e1 b1 b2 b3 m2 c1 c2 m3 d1 d2 m4 q : Int) : Prop where
  a1 : -(2 ^ 64) < a1 ∧ a1 < 2 ^ 64
  a2 : -(2 ^ 64) < a2 ∧ a2 < 2 ^ 64
  m1 : m1 ≠ 0
  e1 : 0 ≤ e1 ∧ e1 ≤ 1000000
  b1 : -(2 ^ 64) < b1 ∧ b1 < 2 ^ 64
  b2 : -(2 ^ 64) < b2 ∧ b2 < 2 ^ 64
  m2 : 0 < m2 ∧ m2 < 2 ^ 64
  c1 : c1 ≠ 0 ∧ c1.natAbs < 1073741824
  m3 : 0 < m3 ∧ m3 < 2 ^ 64
  d1 : d1 ≠ 0 ∧ d1.natAbs < 1073741824
  m4 : m4 ≠ 0
  q : q ≠ 0 ∧ q.natAbs < 1073741824
theorem fmod_lt {x m : Int} (h : 0 < m) : 0 ≤ x.fmod m ∧ x.fmod m < m := ⟨Int.fmod_nonneg_of_pos x h, Int.fmod_lt_of_pos x h⟩
theorem draw_ok {a1 a2 a3 m1 e1 b1 b2 b3 m2 c1 c2 m3 d1 d2 m4 q : Int} (D : DrawK a1 a2 a3 m1 e1 b1 b2 b3 m2 c1 c2 m3 d1 d2 m4 q) {h : HS} (g : HGood h) {many : Int} (hm : h.L 1 = some many) (h0 : 0 < many) (h1 : many < 1073741824) :
    ∃ h' k, (drawC a1 a2 a3 m1 e1 b1 b2 b3 m2 c1 c2 m3 d1 d2 m4 q).f h = some (.rt h' k) ∧ 0 ≤ k ∧ k < many ∧ HGood h' ∧ h'.cs = h.cs := by
  have add : ∀ x y : Int, oOf .Add x y = some (x + y) := fun _ _ => rfl
  have mulL : ∀ {x : Int} (y : Int), -(2 ^ 64) < x ∧ x < 2 ^ 64 → oOf .Mult x y = some (x * y) := fun y h => if_pos (.inl h)
  have mulR : ∀ (x : Int) {y : Int}, -(2 ^ 64) < y ∧ y < 2 ^ 64 → oOf .Mult x y = some (x * y) := fun y _ h => if_pos (.inr h)
  have mod' : ∀ (x : Int) {y : Int}, y ≠ 0 → oOf .Mod x y = some (x.fmod y) := fun x _ h => if_pos h
  have div' : ∀ (x : Int) {y : Int}, y ≠ 0 ∧ y.natAbs < 1073741824 → oOf .FloorDiv x y = some (x.fdiv y) := fun x _ h => if_pos h
  have hne : many ≠ 0 := by omega
  have hab : many ≠ 0 ∧ many.natAbs < 1073741824 := ⟨hne, by omega⟩
  have n2 : m2 ≠ 0 := by have := D.m2.1; omega
  have n3 : m3 ≠ 0 := by have := D.m3.1; omega
  have f2 : ∀ x : Int, -(2 ^ 64) < x.fmod m2 ∧ x.fmod m2 < 2 ^ 64 := fun x => by have := fmod_lt (x := x) D.m2.1; have := D.m2.2; omega
  have f3 : ∀ x : Int, -(2 ^ 64) < x.fmod m3 ∧ x.fmod m3 < 2 ^ 64 := fun x => by have := fmod_lt (x := x) D.m3.1; have := D.m3.2; omega
  -- the end, from any state
  have fin : ∀ (h : HS), HGood h → h.L 1 = some many → ∃ h' k, (HC.f (.seq (.ifs (.cmp .Gt (.get 2) (.con 0)) (.seq (.loc 3 (.bin .Mod (.int (.get 2)) (.var 1))) (.seq (.put 2 (.bin .FloorDiv (.get 2) (.var 1))) (.seq (.ret (.var 3)) .nil))) .nil)
  (.seq (.put 4 (.bin .Add (.get 4) (.con 1)))
  (.seq (.loc 4 (.bin .Mod (.int (.bin .Mult (.int (.bin .Add (.get 3) (.bin .Mult (.con b1) (.get 4)))) (.con b2))) (.con m2)))
  (.seq (.loc 4 (.bin .Mod (.int (.bin .Mult (.var 4) (.bin .Add (.bin .FloorDiv (.var 4) (.con c1)) (.con c2)))) (.con m3)))
  (.seq (.loc 4 (.bin .Mod (.int (.bin .Mult (.var 4) (.bin .Add (.bin .FloorDiv (.var 4) (.con d1)) (.con d2)))) (.con m4)))
  (.seq (.ret (.bin .Mod (.int (.bin .FloorDiv (.var 4) (.con q))) (.var 1))) .nil)))))) h = some (.rt h' k)) ∧ 0 ≤ k ∧ k < many ∧ HGood h' ∧ h'.cs = h.cs := by
    intro h g hm
    by_cases hr : 0 < h.r
    · refine ⟨{ hloc 3 (h.r.fmod many) h with r := h.r.fdiv many }, h.r.fmod many, ?_, (fmod_lt h0).1, (fmod_lt h0).2, ⟨g.len, g.pos, g.i, Int.fdiv_nonneg g.r (by omega)⟩, rfl⟩
      have c1' : cOf .Gt h.r 0 = some true := by simp [cOf, hr]
      simp [HC.f, oseq, HT.f, HX.f, obin, hget, hset, hloc, c1', hm, mod' _ hne, div' _ hab]
    · have c1' : cOf .Gt h.r 0 = some false := by simp [cOf]; omega
      obtain ⟨x1, hx1⟩ : ∃ x, x = ((h.m + b1 * (h.n + 1)) * b2).fmod m2 := ⟨_, rfl⟩
      obtain ⟨x2, hx2⟩ : ∃ x, x = (x1 * (x1.fdiv c1 + c2)).fmod m3 := ⟨_, rfl⟩
      obtain ⟨x3, hx3⟩ : ∃ x, x = (x2 * (x2.fdiv d1 + d2)).fmod m4 := ⟨_, rfl⟩
      have g1 : -(2 ^ 64) < x1 ∧ x1 < 2 ^ 64 := by rw [hx1]; exact f2 _
      have g2 : -(2 ^ 64) < x2 ∧ x2 < 2 ^ 64 := by rw [hx2]; exact f3 _
      refine ⟨hloc 4 x3 (hloc 4 x2 (hloc 4 x1 { h with n := h.n + 1 })), (x3.fdiv q).fmod many, ?_, (fmod_lt h0).1, (fmod_lt h0).2, ⟨g.len, g.pos, g.i, g.r⟩, rfl⟩
      have hm' : (if (1 : Nat) = 4 then some x3 else if (1 : Nat) = 4 then some x2 else if (1 : Nat) = 4 then some x1 else h.L 1) = some many := hm
      simp only [HC.f, oseq, HT.f, HX.f, obin, hget, hset, hloc, c1', hm, add, mulL _ D.b1, mulR _ D.b2, mod' _ n2, ← hx1, mulL _ g1, mod' _ n3, ← hx2, mulL _ g2, mod' _ D.m4, ← hx3, div' _ D.c1, div' _ D.d1, div' _ D.q, mod' _ hne, Option.bind_some, Option.map_some, if_true, Bool.false_eq_true, if_false, hm', reduceCtorEq, Nat.reduceEqDiff]
  have first : ∃ h1, HC.f (.ifs (.and (.cmp .Eq (.get 2) (.con 0)) (.cmp .Lt (.get 1) .len))
    (.seq (.loc 2 (.cell (.get 1))) (.seq (.put 1 (.bin .Add (.get 1) (.con 1))) (.seq (.put 3 (.bin .Mod (.int (.bin .Add (.bin .Add (.bin .Mult (.get 3) (.con a1)) (.bin .Mult (.var 2) (.con a2))) (.con a3))) (.con m1)))
      (.seq (.ifs (.cmp .GtE (.var 2) (.bin .Pow (.con 10) (.con e1))) (.seq (.put 2 (.var 2)) .nil) .nil) .nil)))) .nil) h = some (.nx h1) ∧ HGood h1 ∧ h1.L 1 = some many ∧ h1.cs = h.cs := by
    by_cases hr : h.r = 0
    · have c1' : cOf .Eq h.r 0 = some true := by simp [cOf, hr]
      by_cases hi : h.i < (h.cs.length : Int)
      · have c2' : cOf .Lt h.i (h.cs.length : Int) = some true := by simp [cOf, hi]
        have hlt : h.i.toNat < h.cs.length := by have := g.i; omega
        have hget' : h.cs[h.i.toNat]? = some h.cs[h.i.toNat] := List.getElem?_eq_getElem hlt
        obtain ⟨y, hy⟩ : ∃ y, y = h.cs[h.i.toNat] := ⟨_, rfl⟩
        rw [← hy] at hget'
        have hy0 : 0 ≤ y := by rw [hy]; exact g.pos _ (List.getElem_mem hlt)
        have pw : oOf .Pow 10 e1 = some (10 ^ e1.toNat) := if_pos ⟨D.e1.1, D.e1.2, by decide⟩
        have hL : (if (1 : Nat) = 2 then some y else h.L 1) = some many := hm
        obtain ⟨z, hz⟩ : ∃ z, z = (h.m * a1 + y * a2 + a3).fmod m1 := ⟨_, rfl⟩
        by_cases big : (10 : Int) ^ e1.toNat ≤ y
        · have c3 : cOf .GtE y ((10 : Int) ^ e1.toNat) = some true := by simp [cOf, big]
          refine ⟨{ hloc 2 y h with i := h.i + 1, m := z, r := y }, ?_, ⟨g.len, g.pos, by have := g.i; show 0 ≤ h.i + 1; omega, hy0⟩, hL, rfl⟩
          simp only [HC.f, oseq, HT.f, HX.f, obin, hget, hset, hloc, c1', c2', c3, add, mulR _ D.a1, mulR _ D.a2, mod' _ D.m1, ← hz, pw, if_pos g.i, hget', Option.bind_some, Option.map_some, if_true, Bool.false_eq_true, if_false]
        · have c3 : cOf .GtE y ((10 : Int) ^ e1.toNat) = some false := by simp [cOf, big]
          refine ⟨{ hloc 2 y h with i := h.i + 1, m := z }, ?_, ⟨g.len, g.pos, by have := g.i; show 0 ≤ h.i + 1; omega, g.r⟩, hL, rfl⟩
          simp only [HC.f, oseq, HT.f, HX.f, obin, hget, hset, hloc, c1', c2', c3, add, mulR _ D.a1, mulR _ D.a2, mod' _ D.m1, ← hz, pw, if_pos g.i, hget', Option.bind_some, Option.map_some, if_true, Bool.false_eq_true, if_false]
      · have c2' : cOf .Lt h.i (h.cs.length : Int) = some false := by simp [cOf, hi]
        exact ⟨h, by simp only [HC.f, HT.f, HX.f, hget, c1', c2', Option.bind_some, if_true, Bool.false_eq_true, if_false], g, hm, rfl⟩
    · have c1' : cOf .Eq h.r 0 = some false := by simp [cOf, hr]
      exact ⟨h, by simp only [HC.f, HT.f, HX.f, hget, c1', Option.bind_some, Bool.false_eq_true, if_false], g, hm, rfl⟩
  obtain ⟨h1', e1', g1, l1, cs1⟩ := first
  obtain ⟨h2, k, e2, k0, k1, g2, cs2⟩ := fin h1' g1 l1
  refine ⟨h2, k, ?_, k0, k1, g2, cs2.trans cs1⟩
  unfold drawC
  show (HC.f _ h).bind _ = _
  rw [e1']
  exact e2
def spDraw (lvl : Nat) : FSpec := ⟨"_law_draw", "", lvl, 1, true, fun ds Q _ => ∃ many : Int, ds = [.int many] ∧ 0 < many ∧ many < 1073741824 ∧ ∀ k : Int, 0 ≤ k → k < many → Q (.int k)⟩
section
variable {P : Program} {w : World} {K : PySem.W.Frag} {mg : Str → Option Value} {base : Heap} {k : Nat} {fn : FSpec → Prop} {mk : CSpec → Prop} {gl : Str → D → Prop} {kc : Str → Prop}
/-- THE DRAW keeps its promise -/
theorem drawGood (c : Ctx P w K mg base k fn mk gl kc) {x qual : Str} {params : Arguments} {body : List Stmt} {scope : Scope} {fd : FuncData} (F : FunD K x qual params body scope [] [] (fAt K (spDraw (k + 1))) fd) (S : FnScope ["hand", "many", "cell", "digit", "number"] ["hand", "many"] scope)
    (hb : ∀ (kV doc pm : Value) (an : Option Addr) (cdv ct : Value) (us : List Value), us.length = 2 → bindArgs (PySem.W.fnOf x qual params body scope .none kV doc pm an cdv ct) ⟨us, []⟩ = pure ((["hand", "many"] : List Str).zip us))
    (glo : mg "_law_draw" = some (.ref (fAt K (spDraw (k + 1))))) {a1 a2 a3 m1 e1 b1 b2 b3 m2 c1 c2 m3 d1 d2 m4 q : Int} (D : DrawK a1 a2 a3 m1 e1 b1 b2 b3 m2 c1 c2 m3 d1 d2 m4 q)
    (hc : (drawC a1 a2 a3 m1 e1 b1 b2 b3 m2 c1 c2 m3 d1 d2 m4 q).ck.l ⟨["hand", "many", "cell", "digit", "number"], scope, fun _ => true⟩ body = true) : FnGood P w K mg base (spDraw (k + 1)) := by
  have len : ∀ vs H Q E, spOf K (spDraw (k + 1)) vs H Q E → vs.length = 2 := by
    rintro vs H Q E ⟨G, ds, us, hd, Qd, Ed, rfl, e1, e2, _, r, _⟩
    rw [List.length_append, ← r.len, e2]
    cases hd with
    | none => cases e1
    | some ac => rfl
  refine ⟨⟨fd, ["hand", "many"], F.bindsN hb, ?_⟩, F.kp, fun _ => glo, fun z => absurd rfl z⟩
  refine F.ok S len fun cdv A outer s H vs Q E hr hsp => ?_
  obtain ⟨G, ds, us, hd, Qd, Ed, rfl, eh, e2, hG, rp, hh, ⟨many, rfl, h0, h1, qk⟩, kn, kx⟩ := hsp
  cases hd with
  | none => cases eh
  | some ac =>
    obtain ⟨a, cc⟩ := ac
    obtain ⟨v, us', rfl, rv, rn⟩ := rp
    cases rv
    have rn' : us' = [] := rn
    subst rn'
    have g := c.xg (P := P) (w := w) (base := base) (N := ["hand", "many", "cell", "digit", "number"]) (ps := ["hand", "many"]) (qual := qual) (scope := scope) (f := fAt K (spDraw (k + 1))) (cdv := cdv) (A := A) (outer := outer) (s := s) (H := H) (E := E) S hr
    refine ⟨_, (HC.ok g (drawC a1 a2 a3 m1 e1 b1 b2 b3 m2 c1 c2 m3 d1 d2 m4 q)).2 body hc, ?_⟩
    obtain ⟨⟨xs, i, r, m, n, o1, o2, o3, o4, o5, o6⟩, ga⟩ := hh a cc rfl
    have ne : cc ≠ a := fun z => by rw [z, ga] at o2; cases o2
    obtain ⟨h', kk, ef, k0, k1, g', ecs⟩ := draw_ok D (h := ⟨xs, i, r, m, n, fun j => if j = 1 then some many else none⟩) ⟨o3, o4, o5, o6⟩ rfl h0 h1
    refine ⟨a, cc, ⟨xs, i, r, m, n, fun j => if j = 1 then some many else none⟩, _, ⟨rfl, o1, hG _ _ o2, ne, fun j z e => ?_, by simp [L2.start, hdV]⟩, ef, fun σ' H' z kp _ => ?_⟩
    · by_cases ej : j = 1
      · subst ej
        have : some many = some z := e
        cases this
        rfl
      · have : (none : Option Int) = some z := by simpa [ej] using e
        cases this
    · have sub : Same G H' := fun b o h => by rw [kp b (fun z => by rw [z, ga] at h; cases h)]; exact hG b o h
      refine kn (.int kk) (.int kk) H' G ⟨Same.refl _, sub, fun b o h => .inl h, fun b o h n => by rw [kp b fun z => n cc (by rw [z])]; exact h, fun b c' e => ?_⟩ rfl (qk kk k0 k1)
      cases e
      refine ⟨⟨h'.cs, h'.i, h'.r, h'.m, h'.n, z.o, ?_, g'.len, g'.pos, g'.i, g'.r⟩, ga⟩
      rw [ecs]
      exact o2
end
end Mi
set_option maxHeartbeats 1000000
namespace Mi
open PySem PySem.Spec L2
open PyProof.Rows hiding St
def handM1 : ME := .lc [2] (.op (.blt .abs) (.acons (.op (.blt .int) (.acons (.var 2) .anil)) .anil)) (.nm 2) (.itS (.slc (.var 0) .nop (.con (.int 63)))) (.con (.bl true))
def handM2 (a b : Int) : ME := .op .lst (.acons (.var 1) (.acons (.con (.int 0)) (.acons (.con (.int 0)) (.acons (.op (.bin .Add) (.acons (.con (.int a)) (.acons (.op (.bin .Mult) (.acons (.con (.int b)) (.acons (.op (.blt .len) (.acons (.var 1) .anil)) .anil))) .anil))) (.acons (.con (.int 0)) .anil)))))
theorem lcGo_map0 {f : D → (Option D → Prop) → Prop} {g : D → D} : ∀ {items acc : List D} {Q : List D → Prop}, (∀ d ∈ items, ∀ K : Option D → Prop, K (some (g d)) → f d K) → Q (acc ++ items.map g) → lcGo f items acc Q
  | [], acc, Q, _, q => by simpa [lcGo] using q
  | d :: items, acc, Q, h, q => by
    refine h d List.mem_cons_self _ (lcGo_map0 (fun e he => h e (List.mem_cons_of_mem _ he)) ?_)
    simpa using q
theorem hardAll_ints : ∀ (ns : List Int), hardAll (ns.map D.int) = true
  | [] => rfl
  | n :: r => by simp [hardAll, D.hard, hardAll_ints r]
theorem intsOf_ints : ∀ (ns : List Int), intsOf (ns.map D.int) = some ns
  | [] => rfl
  | n :: r => by simp [intsOf, intsOf_ints r]
def iabs (i : Int) : Int := if i < 0 then -i else i
theorem iabs_nonneg (i : Int) : 0 ≤ iabs i := by unfold iabs; split <;> omega
theorem hand_ws {ns : List Int} {N : En} (hN : ∀ cs : List Int, cs.length ≤ 63 → (∀ x ∈ cs, 0 ≤ x) → N.nx [.va (.scr ns), .ow (.lst (cs.map .int)), .un]) : WS (.par [(1, true, handM1)]) N [.va (.scr ns), .un, .un] := by
  have hl : (((ns.map D.int).drop 0).take (min 63 (ns.map D.int).length - 0)).length ≤ 63 := by
    rw [List.length_take]; omega
  refine ⟨_, rfl, none, rfl, some 63, rfl, Nat.le_trans hl (by decide), rfl, ?_⟩
  refine lcGo_map0 (g := fun d => match d with
    | .int i => .int (iabs i)
    | d => d) (fun d hd K k => ?_) ?_
  · have hm := List.mem_of_mem_take hd
    obtain ⟨i, _, rfl⟩ := List.mem_map.mp (List.mem_of_mem_drop hm)
    exact ⟨_, rfl, k⟩
  · refine ⟨fun _ => rfl, ?_⟩
    obtain ⟨cs, e1, e2⟩ : ∃ cs : List Int, ((ns.map D.int).drop 0).take (min 63 (ns.map D.int).length - 0) = cs.map .int ∧ cs.length ≤ 63 := by
      refine ⟨(ns.drop 0).take (min 63 (ns.map D.int).length - 0), ?_, ?_⟩
      · rw [List.map_take, List.map_drop]
      · rw [List.length_take]; omega
    have e3 : ([] : List D) ++ ((((ns.map D.int).drop 0).take (min 63 (ns.map D.int).length - 0)).map fun d => match d with
        | .int i => .int (iabs i)
        | d => d) = (cs.map iabs).map D.int := by
      rw [e1, List.nil_append, List.map_map, List.map_map]
      rfl
    have hg := hN (cs.map iabs) (by rw [List.length_map]; exact e2) (fun x hx => by
      obtain ⟨y, _, rfl⟩ := List.mem_map.mp hx
      exact iabs_nonneg y)
    have key : ∀ ys : List D, ys = (cs.map iabs).map D.int → N.nx (parSet [(1, true, handM1)] [.lst ys] (thaw (parOk [(1, true, handM1)] [.lst ys]) (parVars [(1, true, handM1)]) [.va (.scr ns), .un, .un])) := by
      rintro ys rfl
      have : parOk [(1, true, handM1)] [.lst ((cs.map iabs).map D.int)] = true := by
        show (hardAll ((cs.map iabs).map D.int) && true) = true
        rw [hardAll_ints]
        rfl
      rw [this]
      exact hg
    exact key _ e3
def spHand (K : PySem.W.Frag) : Sp := fun vs H Qv _ => ∃ (G : Hp) (ns : List Int) (v : V), vs = [v] ∧ Rep K G (.scr ns) v ∧ Same G H ∧ ∀ b c H2 G2, Same G G2 → Same G2 H2 → (∀ a o, G2 a = some o → G a = some o ∨ H a = none) → (∀ a o, H a = some o → H2 a = some o) → HandOk G2 H2 b c → G2 b = none → H b = none → Qv (.ref b) H2
section
variable {P : Program} {w : World} {K : PySem.W.Frag} {mg : Str → Option Value} {base : Heap} {k : Nat} {fn : FSpec → Prop} {mk : CSpec → Prop} {gl : Str → D → Prop} {kc : Str → Prop}
theorem handOkFn (c : Ctx P w K mg base k fn mk gl kc) {x qual : Str} {params : Arguments} {st1 : Stmt} {e2 : Expr} {rp : Pos} {scope : Scope} {fd : FuncData} {f : Addr} {a b : Int} (F : FunD K x qual params [st1, .Return (some e2) rp] scope [] [] f fd) (S : FnScope ["script", "cells", "cell"] ["script"] scope)
    (h1 : (ckS (.par [(1, true, handM1)])).s ⟨["script", "cells", "cell"], scope, fun _ => true⟩ st1 = true) (h2 : (ck (handM2 a b)).e ⟨["script", "cells", "cell"], scope, fun _ => true⟩ e2 = true) (hb : -(2 ^ 64) < b ∧ b < 2 ^ 64) : FnOk P w K mg base (L2.CX P w) (k + 1) f fd ["script"] (spHand K) := by
  refine F.ok S (fun vs H Q E h => ?_) fun cdv A outer s H vs Q E hr hsp => ?_
  · obtain ⟨_, _, _, rfl, _⟩ := h
    rfl
  obtain ⟨G, ns, v, rfl, rv, hG, kn⟩ := hsp
  have g := c.xg (P := P) (w := w) (base := base) (N := ["script", "cells", "cell"]) (ps := ["script"]) (qual := qual) (scope := scope) (f := f) (cdv := cdv) (A := A) (outer := outer) (s := s) (H := H) (E := E) S hr
  have tk : Takes (cxOf (L2.CX P w) P w K mg base ["script", "cells", "cell"] qual scope f cdv A outer s H E) (fun cls d _ H => E cls d H) := takes_of rfl rfl rfl rfl
  have r0 := rel_start (K := K) (N := ["script", "cells", "cell"]) (hd := none) (ds := [.scr ns]) (us := [v]) hG ⟨v, [], rfl, rv, rfl⟩ (fun _ _ z => by cases z) (by simp [hdV])
  have tkx : Takes (cxOf (L2.CX P w) P w K mg base ["script", "cells", "cell"] qual scope f cdv A outer s H E) (liftX K ⟨H, G, fun x => ∃ c, (none : Option (Addr × Addr)) = some (x, c)⟩ noX) := takes_noX
  have j1 := ((ckS_ok g (C := ⟨H, G, fun x => ∃ c, (none : Option (Addr × Addr)) = some (x, c)⟩) (.par [(1, true, handM1)]) (by simp [UsS, UsL, Us, handM1])).s st1 h1) noX tkx (passes_of rfl)
  have j2 := (jf_ok g (C := ⟨H, G, fun x => ∃ c, (none : Option (Addr × Addr)) = some (x, c)⟩) (m := handM2 a b) rfl (by simp [Us, handM2]) h2) noX tkx
  refine ⟨_, pss_cons j1 (pss_one (ps_ret j2)), ?_⟩
  refine ⟨G, _, { nx := fun S' => ∃ cs : List Int, cs.length ≤ 63 ∧ (∀ x ∈ cs, 0 ≤ x) ∧ S' = [.va (.scr ns), .ow (.lst (cs.map .int)), .un], rt := fun _ _ => False, ex := noX }, r0, rfl, hand_ws fun cs z1 z2 => ⟨cs, z1, z2, rfl⟩, ⟨fun σ2 S2 G2 H2 u r2 ⟨cs, z1, z2, e⟩ => ?_, fun _ _ _ _ _ _ _ z => z.elim, fun _ _ _ _ _ _ z => z.elim, fun _ _ _ _ _ _ z => z.elim⟩⟩
  subst e
  refine ⟨G2, _, fun d S3 => ∃ z, d = .lst [.lst (cs.map .int), .int 0, .int 0, .int z, .int 0], r2, ?_, fun d S3 p H3 G3 ps hp gp np nh ce ⟨z, e⟩ => ?_⟩
  · have hlen : (cs.map D.int).length ≤ lim := by rw [List.length_map]; exact Nat.le_trans z1 (by decide)
    exact ⟨_, rfl, _, rfl, _, rfl, hlen, .inl hb, (by show (5 : Nat) ≤ 1000; decide), rfl, _, rfl⟩
  · subst e
    obtain ⟨us, e1, e2⟩ := ce
    obtain ⟨v1, _, rfl, q1, v2, _, rfl, q2, v3, _, rfl, q3, v4, _, rfl, q4, v5, _, rfl, q5, q6⟩ := e2
    cases q2
    cases q3
    cases q4
    cases q5
    have q6' : _ = [] := q6
    subst q6'
    obtain ⟨cc, ws, rfl, q7, q8⟩ := q1
    have e9 := ints_rep (intsOf_ints cs) q8
    subst e9
    refine kn p cc H3 G3 (u.trans ps.up) ps.sub (fun a' o h => ?_) (fun a' o h => ?_) ⟨cs, 0, 0, z, 0, e1, q7, z1, z2, Int.le_refl _, Int.le_refl _⟩ gp ?_
    · exact ps.new a' o h
    · exact ps.rel.frm a' o h fun ⟨c, z⟩ => by cases z
    · exact (r2.none_of hp).1
/-- THE LAW'S DEF: hand = _law_hand(script), then the rest -/
theorem lawOkFn (c : Ctx P w K mg base k fn mk gl kc) {x qual : Str} {params : Arguments} {rest : List Stmt} {hx fx sx : Str} {px pf ps pc pos : Pos} {scope : Scope} {fd fdh : FuncData} {f fh : Addr} {N : List Str} {i kh : Nat} {m : MS}
    (F : FunD K x qual params (.Assign [.Name hx px] (.Call (.Name fx pf) [.Name sx ps] [] pc) pos :: rest) scope [] [] f fd) (S : FnScope N ["script"] scope)
    (Fh : FnOk P w K mg base (L2.CX P w) kh fh fdh ["script"] (spHand K)) (hk : kh ≤ k) (bh : Binds K fdh ["script"] []) (kph : PySem.W.keepIn K (.ref fh) = true) (mgh : mg "_law_hand" = some (.ref fh))
    (hc1 : locB ⟨N, scope, fun _ => true⟩ i hx = true) (hc2 : visB ⟨N, scope, fun _ => true⟩ 0 sx = true) (hc3 : fx = ("_law_hand" : Str)) (hc4 : glB ⟨N, scope, fun _ => true⟩ fx = true) (hi : 0 < i)
    (u : UsS fn mk gl kc m) (hc : (ckS m).l ⟨N, scope, fun _ => true⟩ rest = true)
    (hw : ∀ (a cc : Addr) (ns : List Int), WS m { nx := fun _ => False, rt := fun d _ => d = .bl true, ex := noX } ((.va (.scr ns) :: List.replicate (N.length - 1) .un).set i (.hn a cc))) :
    FnOk P w K mg base (L2.CX P w) (k + 1) f fd ["script"] (fun vs H Q _ => ∃ (a : Addr) (ns : List Int), vs = [.ref a] ∧ SqL K H a (ns.map V.int) ∧ ∀ H', Q (.bl true) H') := by
  subst hc3
  refine F.ok S (fun vs H Q E h => ?_) fun cdv A outer s H vs Q E hr hsp => ?_
  · obtain ⟨_, _, rfl, _⟩ := h
    rfl
  obtain ⟨a, ns, rfl, hS, hQ⟩ := hsp
  have g := c.xg (P := P) (w := w) (base := base) (N := N) (ps := ["script"]) (qual := qual) (scope := scope) (f := f) (cdv := cdv) (A := A) (outer := outer) (s := s) (H := H) (E := E) S hr
  obtain ⟨G, hG, hGS⟩ : ∃ G : Hp, Same G H ∧ SqL K G a (ns.map V.int) := by
    refine ⟨fun b => if b = a then H b else none, fun b o h => ?_, ?_⟩
    · by_cases e : b = a
      · simpa [e] using h
      · simp [e] at h
    · rcases hS with (h | ⟨o, h⟩) | h
      · exact .inl (.inl (by simpa using h))
      · exact .inl (.inr ⟨o, by simpa using h⟩)
      · exact .inr h
  have hpl : 1 ≤ N.length := by have := congrArg List.length S.pre; rw [List.length_take] at this; simp at this; omega
  have r0 := rel_start (K := K) (N := N) (hd := none) (ds := [.scr ns]) (us := [.ref a]) hG ⟨.ref a, [], rfl, ⟨a, rfl, hGS⟩, rfl⟩ (fun _ _ z => by cases z) (by simpa [hdV] using hpl)
  obtain ⟨l1, l2, l3⟩ := g.loc hc1
  obtain ⟨v1, v2, v3, v4⟩ := g.vis hc2
  obtain ⟨g1, g2, g3⟩ := g.glo hc4
  have tkx : Takes (cxOf (L2.CX P w) P w K mg base N qual scope f cdv A outer s H E) (liftX K ⟨H, G, fun x => ∃ c, (none : Option (Addr × Addr)) = some (x, c)⟩ noX) := takes_noX
  have js := ((ckS_ok g (C := ⟨H, G, fun x => ∃ c, (none : Option (Addr × Addr)) = some (x, c)⟩) m u).l rest hc) noX tkx (passes_of rfl)
  have pc := pe_callS (X := cxOf (L2.CX P w) P w K mg base N qual scope f cdv A outer s H E) (p := pf) (pos := pc) Fh (hr.mono hk) g1 mgh kph bh (fun σ => passAt tkx σ) (pa_cons (pe_var v1 v2 v3 v4 (pos := ps)) pa_nil rfl) g2 rfl rfl
  refine ⟨_, pss_cons (ps_set (pos' := px) (pos := pos) g.nd l1 l2 pc (sw_plain rfl) l3) js, ?_⟩
  refine ⟨_, rfl, G, ns, _, rfl, ⟨a, rfl, hGS⟩, hG, fun b cc H2 G2 u2 s2 nw fr ho gb hb => ?_⟩
  have es : slots0 none [.scr ns] (N.length - (hdV none ++ [V.ref a]).length) = .va (.scr ns) :: List.replicate (N.length - 1) .un := by
    unfold slots0
    simp [hdV]
  rw [es] at r0
  have noOwn : ∀ j, ¬ Own ((.va (.scr ns) :: List.replicate (N.length - 1) .un).set i (.hn b cc)) j := by
    rintro j ⟨sl, h, o⟩
    rcases List.mem_or_eq_of_mem_set (List.mem_of_getElem? h) with z | z
    · rcases List.mem_cons.mp z with z | z
      · rw [z] at o; cases o
      · rw [(List.mem_replicate.mp z).2] at o; cases o
    · rw [z] at o; cases o
  have hiN : i < N.length := by
    have := (List.getElem?_eq_some_iff.mp l1).1
    exact this
  have r2 : Rel K ⟨H, G, fun x => ∃ c, (none : Option (Addr × Addr)) = some (x, c)⟩ G2 H2 ((L2.start N [.ref a]).set i (some (.ref b))) ((.va (.scr ns) :: List.replicate (N.length - 1) .un).set i (.hn b cc)) := by
    refine ⟨s2, u2, nw, fun x o h _ => fr x o h, fun x h => ?_, ?_, fun j sl h => ?_, fun j l p _ oj => absurd oj (noOwn j), fun j p oj => absurd oj (noOwn j)⟩
    · obtain ⟨o, ho⟩ := Option.ne_none_iff_exists'.mp h
      rw [fr x o ho]
      exact fun z => nomatch z
    · have := r0.len
      rw [List.length_set, List.length_set]
      exact this
    · by_cases ej : i = j
      · subst ej
        have hl : i < (Sl.va (.scr ns) :: List.replicate (N.length - 1) .un).length := by simp; omega
        rw [List.getElem?_set_self hl] at h
        cases h
        have hσ : i < (L2.start N [.ref a]).length := by
          have := r0.len
          have e : (L2.start N (hdV none ++ [V.ref a])).length = (L2.start N [.ref a]).length := rfl
          rw [e] at this
          rw [← this]
          exact hl
        exact ⟨by rw [List.getElem?_set_self hσ], ho, gb, .inr hb⟩
      · rw [List.getElem?_set_ne ej] at h
        rw [List.getElem?_set_ne ej]
        have q := r0.sl j sl h
        rcases List.mem_cons.mp (List.mem_of_getElem? h) with z | z
        · subst z
          obtain ⟨v, e1, e2⟩ := q
          exact ⟨v, e1, e2.up u2⟩
        · rw [(List.mem_replicate.mp z).2]
          exact True.intro
  exact ⟨G2, _, _, r2, rfl, hw b cc ns, ⟨fun _ _ _ _ _ _ z => z.elim, fun d v S2 G3 H3 o rv z => by
    subst z
    cases rv
    exact hQ H3, fun _ _ _ _ _ _ z => z.elim, fun _ _ _ _ _ _ z => z.elim⟩⟩
end
end Mi
set_option maxHeartbeats 1000000
namespace Mi
open PySem PySem.Spec L2
open PyProof.Rows hiding St
def clsB (K : PySem.W.Frag) (cs : List Str) (c : Str) : Bool :=
  (He.Fa.glo c).ok K && (He.eqO (PySem.W.findIn K (.ref (He.ga K c)) "__ne__") (some (some (.builtin "object.__ne__"))) && ((He.Fa.cls c).ok K && (He.eqO (PySem.W.findIn K (.ref (He.ga K c)) "__class__") (some (some (.builtin "object.__class__"))) && (He.eqO (PySem.W.specialIn K (.builtin "object.__class__") "__get__") (some (some (.builtin "getset_descriptor.__get__"))) &&
    (decide (PySem.W.takesIn K (.builtin "object.__class__") = some true) && (decide (PySem.W.mroIn K (He.ga K c) (.type "object") = some true) && (tyNames.all (fun n => decide (PySem.W.kitOne K (.type n) (.ref (He.ga K c)) = some false)) &&
    (tyAsk.all (fun n => decide (PySem.W.kitOne K (.ref (He.ga K c)) (.type n) = some false)) && cs.all fun x => decide (PySem.W.kitOne K (.ref (He.ga K c)) (.ref (He.ga K x)) = some (decide (c = x))))))))))) 
def kokB (K : PySem.W.Frag) (cs : List Str) : Bool :=
  bltNames.all (fun b => (He.Fa.free b).ok K) && allCls.all fun c => if cs.contains c = true then clsB K cs c else (He.Fa.free c).ok K
theorem kok_of {K : PySem.W.Frag} {h : Heap} {mg : Str → Option Value} {cs : List Str} (X : K.In h) (G : h.Ns mainGlobals mg) (c : kokB K cs = true) : KOk K mg := by
  obtain ⟨c1, c2⟩ := and_of c
  have inCs : ∀ x, KC K x → x ∈ cs ∧ clsB K cs x = true := by
    rintro x ⟨h1, h2⟩
    have z := List.all_eq_true.mp c2 x h1
    by_cases hc : cs.contains x = true
    · rw [if_pos hc] at z
      exact ⟨by simpa using hc, z⟩
    · rw [if_neg hc] at z
      have e := He.eqO_ok z
      rw [h2] at e
      cases e
  refine ⟨fun b hb => He.free_ok X G (List.all_eq_true.mp c1 b hb), fun x hx => ?_, fun n hn x hx => ?_, fun x hx n hn => ?_, fun x y hx hy => ?_⟩
  · obtain ⟨_, z⟩ := inCs x hx
    obtain ⟨z1, z⟩ := and_of z
    obtain ⟨z0, z⟩ := and_of z
    obtain ⟨z2, z⟩ := and_of z
    obtain ⟨z3, z⟩ := and_of z
    obtain ⟨z4, z⟩ := and_of z
    obtain ⟨z5, z⟩ := and_of z
    obtain ⟨z6, z⟩ := and_of z
    exact ⟨He.cls_ok z2, He.eqO_ok z3, He.eqO_ok z4, of_decide_eq_true z5, of_decide_eq_true z6, He.glo_ok X G z1, He.eqO_ok z0⟩
  · obtain ⟨_, z⟩ := inCs x hx
    obtain ⟨z1, z⟩ := and_of z
    obtain ⟨z0, z⟩ := and_of z
    obtain ⟨z2, z⟩ := and_of z
    obtain ⟨z3, z⟩ := and_of z
    obtain ⟨z4, z⟩ := and_of z
    obtain ⟨z5, z⟩ := and_of z
    obtain ⟨z6, z⟩ := and_of z
    obtain ⟨z7, z⟩ := and_of z
    exact of_decide_eq_true (List.all_eq_true.mp z7 n hn)
  · obtain ⟨_, z⟩ := inCs x hx
    obtain ⟨z1, z⟩ := and_of z
    obtain ⟨z0, z⟩ := and_of z
    obtain ⟨z2, z⟩ := and_of z
    obtain ⟨z3, z⟩ := and_of z
    obtain ⟨z4, z⟩ := and_of z
    obtain ⟨z5, z⟩ := and_of z
    obtain ⟨z6, z⟩ := and_of z
    obtain ⟨z7, z⟩ := and_of z
    obtain ⟨z8, z⟩ := and_of z
    exact of_decide_eq_true (List.all_eq_true.mp z8 n hn)
  · obtain ⟨_, z⟩ := inCs x hx
    obtain ⟨hy', _⟩ := inCs y hy
    obtain ⟨z1, z⟩ := and_of z
    obtain ⟨z0, z⟩ := and_of z
    obtain ⟨z2, z⟩ := and_of z
    obtain ⟨z3, z⟩ := and_of z
    obtain ⟨z4, z⟩ := and_of z
    obtain ⟨z5, z⟩ := and_of z
    obtain ⟨z6, z⟩ := and_of z
    obtain ⟨z7, z⟩ := and_of z
    obtain ⟨z8, z⟩ := and_of z
    exact of_decide_eq_true (List.all_eq_true.mp z y hy')
abbrev AlM : Type := Bool × He.AlD
def obsM (fa : List He.Fa) (cs : List Str) (fn : List He.DefD) (K : PySem.W.Frag) : AlM := (kokB K cs, He.obsD fa fn K)
def valM (fn : List He.DefD) : AlM := (true, He.valD fn)
def SaysM (fa : List He.Fa) (cs : List Str) (fn : List He.DefD) (K : PySem.W.Frag) : Prop := obsM fa cs fn K = valM fn
def obsMG (n : Nat) (fa : List He.Fa) (cs : List Str) (fn : List He.DefD) (g : Addr → Option Obj) : AlM := obsM fa cs fn (He.frG g (He.asD g n))
def hookM (n : Nat) (fa : List He.Fa) (cs : List Str) (fn : List He.DefD) : PySem.W.Hook where
  α := AlM
  obs := fun s => obsMG n fa cs fn s.heap.get?
  val := fun _ => valM fn
  says := fun _ h => ∃ K : PySem.W.Frag, K.In h ∧ SaysM fa cs fn K
  of := fun _ _ e => ⟨_, He.frG_in, e⟩
  keeps := fun _ _ _ ⟨K, hK, c⟩ k => ⟨K, PySem.W.Frag.In.keeps hK k, c⟩
theorem obsMG_eq {n : Nat} {fa : List He.Fa} {cs : List Str} {fn : List He.DefD} {g : Addr → Option Obj} {s : Shared} (h : ∀ a, g a = s.heap.get? a) : obsMG n fa cs fn g = (hookM n fa cs fn).obs s := by
  have e : g = s.heap.get? := funext h
  rw [e] <;> rfl
theorem SaysM.d {fa : List He.Fa} {cs : List Str} {fn : List He.DefD} {K : PySem.W.Frag} (c : SaysM fa cs fn K) : He.SaysD fa fn K := congrArg (fun z : AlM => z.2) c
theorem SaysM.k {fa : List He.Fa} {cs : List Str} {fn : List He.DefD} {K : PySem.W.Frag} (c : SaysM fa cs fn K) : kokB K cs = true := congrArg (fun z : AlM => z.1) c
/-- the way from the facts to the promises -/
theorem KC_of {K : PySem.W.Frag} {c : Str} (h : c ∈ allCls) (f : (He.Fa.glo c).ok K = true) : KC K c := ⟨h, He.eqO_ok f⟩
theorem fAt_g {K : PySem.W.Frag} {sp : FSpec} (h : sp.cls = ("" : Str)) : fAt K sp = He.ga K sp.name := if_pos h
theorem fAt_m {K : PySem.W.Frag} {sp : FSpec} (h : sp.cls ≠ ("" : Str)) : fAt K sp = He.ma K (He.ga K sp.cls) sp.name := if_neg h
end Mi
set_option maxHeartbeats 1000000
namespace Mi
open PySem
theorem gS_va (d : D) (S : List Sl) : getS (.va d :: S) 0 = some d := rfl
theorem gS_ow (d : D) (S : List Sl) : getS (.ow d :: S) 0 = some d := rfl
theorem gS_lk (p : Nat) (d : D) (S : List Sl) : getS (.lk p d :: S) 0 = some d := rfl
theorem gS_s (s : Sl) (S : List Sl) (i : Nat) : getS (s :: S) (i + 1) = getS S i := rfl
theorem gO_ow (d : D) (S : List Sl) : getO (.ow d :: S) 0 = some d := rfl
theorem gO_s (s : Sl) (S : List Sl) (i : Nat) : getO (s :: S) (i + 1) = getO S i := rfl
theorem f1_va (d : D) (S : List Sl) : frz1 (.va d :: S) 0 = .va d :: S := rfl
theorem f1_ow (d : D) (S : List Sl) : frz1 (.ow d :: S) 0 = .va d :: S := rfl
theorem f1_lk (p : Nat) (d : D) (S : List Sl) : frz1 (.lk p d :: S) 0 = .va d :: S := rfl
theorem f1_hn (a c : Nat) (S : List Sl) : frz1 (.hn a c :: S) 0 = .hn a c :: S := rfl
theorem f1_sc (a : Nat) (ns : List Int) (S : List Sl) : frz1 (.sc a ns :: S) 0 = .sc a ns :: S := rfl
theorem f1_un (S : List Sl) : frz1 (.un :: S) 0 = .un :: S := rfl
theorem f1_s (s : Sl) (S : List Sl) (i : Nat) : frz1 (s :: S) (i + 1) = s :: frz1 S i := by
  unfold frz1
  simp only [List.getElem?_cons_succ, List.set_cons_succ]
  split <;> rfl
theorem f1_nil (i : Nat) : frz1 [] i = [] := rfl
theorem frz_nil (S : List Sl) : frz [] S = S := rfl
theorem frz_cons (i : Nat) (r : List Nat) (S : List Sl) : frz (i :: r) S = frz r (frz1 S i) := rfl
theorem wip_nil (S : List Sl) : wip [] S = S := rfl
theorem wip_cons (i : Nat) (r : List Nat) (S : List Sl) : wip (i :: r) S = (wip r S).set i .un := rfl
theorem thaw_t (vs : List Nat) (S : List Sl) : thaw true vs S = S := rfl
theorem thaw_f (vs : List Nat) (S : List Sl) : thaw false vs S = frz vs S := rfl
theorem set_z (s t : Sl) (S : List Sl) : (s :: S).set 0 t = t :: S := rfl
theorem set_s (s t : Sl) (S : List Sl) (i : Nat) : (s :: S).set (i + 1) t = s :: S.set i t := rfl
theorem lock_n (p : Nat) (S : List Sl) : lock none p S = S := rfl
/-- what zip of two walks -/
def zipS (d e : D) (P : List D → Prop) : Prop := ∃ ds es, ((d = .lst ds ∧ e = .lst es) ∨ (d = .tup ds ∧ e = .tup es)) ∧ P (zipT ds es)
theorem zs_tt (a b : List D) (P : List D → Prop) : zipS (.tup a) (.tup b) P = P (zipT a b) := by
  refine propext ⟨?_, fun h => ⟨a, b, .inr ⟨rfl, rfl⟩, h⟩⟩
  rintro ⟨ds, es, (⟨h1, h2⟩ | ⟨h1, h2⟩), h⟩
  · cases h1
  · cases h1; cases h2; exact h
theorem zs_ll (a b : List D) (P : List D → Prop) : zipS (.lst a) (.lst b) P = P (zipT a b) := by
  refine propext ⟨?_, fun h => ⟨a, b, .inl ⟨rfl, rfl⟩, h⟩⟩
  rintro ⟨ds, es, (⟨h1, h2⟩ | ⟨h1, h2⟩), h⟩
  · cases h1; cases h2; exact h
  · cases h1
/-- a store by a key -/
def stiS (o : Option D) (x d : D) (f : D → Prop) : Prop := (∃ ds n j, o = some (.lst ds) ∧ x = .int n ∧ ixAt ds.length n = some j ∧ f (.lst (ds.set j d))) ∨
      (∃ ks vs, o = some (.dct ks vs) ∧ x.isKey = true ∧ ks.length < lim ∧ f (.dct (putKey x d ks vs).1 (putKey x d ks vs).2))
theorem st_lst (ds : List D) (n : Int) (d : D) (f : D → Prop) : stiS (some (.lst ds)) (.int n) d f = ∃ j, ixAt ds.length n = some j ∧ f (.lst (ds.set j d)) := by
  refine propext ⟨?_, fun ⟨j, h1, h2⟩ => .inl ⟨ds, n, j, rfl, rfl, h1, h2⟩⟩
  rintro (⟨ds', n', j, h1, h2, h3⟩ | ⟨ks, vs, h1, _⟩)
  · cases h1; cases h2; exact ⟨j, h3⟩
  · cases h1
theorem st_dct (ks vs : List D) (x d : D) (f : D → Prop) : stiS (some (.dct ks vs)) x d f = (x.isKey = true ∧ ks.length < lim ∧ f (.dct (putKey x d ks vs).1 (putKey x d ks vs).2)) := by
  refine propext ⟨?_, fun h => .inr ⟨ks, vs, rfl, h⟩⟩
  rintro (⟨ds', n', j, h1, _⟩ | ⟨ks, vs, h1, h2⟩)
  · cases h1
  · cases h1; exact h2
/-- no hand stands there -/
def nhn : Option Sl → Bool
  | some (.hn _ _) => false
  | _ => true
theorem noHn_nil (S : List Sl) : noHn [] S = true := rfl
theorem noHn_cons (i : Nat) (vs : List Nat) (S : List Sl) : noHn (i :: vs) S = (nhn S[i]? && noHn vs S) := by
  unfold noHn
  rw [List.all_cons]
  rfl
theorem nhn_va (d : D) : nhn (some (.va d)) = true := rfl
theorem nhn_ow (d : D) : nhn (some (.ow d)) = true := rfl
theorem nhn_lk (p : Nat) (d : D) : nhn (some (.lk p d)) = true := rfl
theorem nhn_un : nhn (some .un) = true := rfl
theorem nhn_sc (a : Nat) (ns : List Int) : nhn (some (.sc a ns)) = true := rfl
section
variable {S : List Sl} {Q : D → List Sl → Prop} {T : Bool → List Sl → Prop} {A : List D → List Sl → Prop} {E : XS}
theorem w_var (i : Nat) : (W (.var i)).v S Q E = ∃ d, getS S i = some d ∧ Q d S := rfl
theorem w_con (d : D) : (W (.con d)).v S Q E = Q d S := rfl
theorem w_glo (x : Str) (d : D) : (W (.glo x d)).v S Q E = Q d S := rfl
theorem w_op (o : Op) (as : ME) : (W (.op o as)).v S Q E = (W as).a S (fun ds S' => o.sem ds fun d => Q d S') E := rfl
theorem w_bm (m : BM) (o as : ME) : (W (.bm m o as)).v S Q E = (W o).v S (fun d S1 => m.hd d = true ∧ (W as).a S1 (fun ds S' => bmSem m (d :: ds) fun d => Q d S') E) E := rfl
theorem w_chn (o1 o2 : CmpOp) (a b c : ME) : (W (.chn o1 o2 a b c)).v S Q E = (W a).v S (fun d1 S1 => (W b).v S1 (fun d2 S2 => cmpSem o1 d1 d2 fun r => ∃ k, r = .bl k ∧
      if k = true then (W c).v S2 (fun d3 S3 => cmpSem o2 d2 d3 fun r => Q r S3) E else Q (.bl false) S2) E) E := rfl
theorem w_and (a b : ME) : (W (.and a b)).v S Q E = (W a).v S (fun d S1 => truW d fun k => if k = true then (W b).v S1 Q E else Q d S1) E := rfl
theorem w_or (a b : ME) : (W (.or a b)).v S Q E = (W a).v S (fun d S1 => truW d fun k => if k = true then Q d S1 else (W b).v S1 Q E) E := rfl
theorem w_not (a : ME) : (W (.not a)).v S Q E = (W a).v S (fun d S1 => truW d fun k => Q (.bl (!k)) S1) E := rfl
theorem w_ife (c a b : ME) : (W (.ife c a b)).v S Q E = (W c).t S (fun k S1 => if k = true then (W a).v S1 Q E else (W b).v S1 Q E) E := rfl
theorem w_isi (ts : List Ty) (a : ME) : (W (.isi ts a)).v S Q E = (W a).v S (fun d S1 => d.tyd = true ∧ Q (.bl (ts.any fun t => d.isTy t)) S1) E := rfl
theorem w_call (sp : FSpec) (as : ME) : (W (.call sp as)).v S Q E = (W as).a S (fun ds S' => ds.length = sp.ar ∧ sp.spec ds (fun d => Q d S') fun x => E x S') E := rfl
theorem w_callh (sp : FSpec) (h : Nat) (as : ME) : (W (.callh sp h as)).v S Q E = ((∃ a c, S[h]? = some (.hn a c)) ∧ (W as).a S (fun ds S' => ds.length = sp.ar ∧ sp.spec ds (fun d => Q d S') fun x => E x S') E) := rfl
theorem w_meth (sp : FSpec) (o as : ME) : (W (.meth sp o as)).v S Q E = (W o).v S (fun d S1 => (∃ fs ds, d = .ins sp.cls fs ds ∧ sp.name ∉ fs) ∧ (W as).a S1 (fun ds S' => (d :: ds).length = sp.ar ∧ sp.spec (d :: ds) (fun d => Q d S') fun x => E x S') E) E := rfl
theorem w_eqo (neg : Bool) (sp : FSpec) (as : ME) : (W (.eqo neg sp as)).v S Q E = (W as).a S (fun ds S' => (∃ fs d1 gs e1, ds = [.ins sp.cls fs d1, .ins sp.cls gs e1]) ∧ ds.length = sp.ar ∧ sp.spec ds (fun d => ∃ r, d = .bl r ∧ Q (.bl (r != neg)) S') fun _ => False) E := rfl
theorem w_lz (a b : ME) : (W (.lz a b)).v S Q E = (W a).v S (fun d S1 => (W b).v S1 (fun e S2 => ∃ ds es, d = .tup ds ∧ e = .tup es ∧ min ds.length es.length ≤ lim ∧ Q (.lst (zipT ds es)) S2) E) E := rfl
theorem w_ds1 (a b : ME) : (W (.ds1 a b)).v S Q E = (W a).v S (fun d1 S1 => (W b).v S1 (fun d2 S2 => d1.isKey = true ∧ Q (.dct [d1] [d2]) S2) E) E := rfl
theorem w_ss (b : Bool) (a : ME) : (W (.ss b a)).v S Q E = (W a).v S (fun d S1 => ∃ ds ns, d = .tup ds ∧ intsOf ds = some ns ∧ ns.length ≤ 60 ∧ ∀ out : List Int, out.Nodup → (∀ k, k ∈ out ↔ k ∈ ns) → (b = true → out.Pairwise (· < ·)) → Q (if b = true then .lst (out.map D.int) else .int out.length) S1) E := rfl
theorem w_make (sp : CSpec) (as : ME) : (W (.make sp as)).v S Q E = (W as).a S (fun ds S' => ds.length = sp.ar ∧ sp.spec ds (fun vs => vs.length = sp.fs.length ∧ Q (.ins sp.name sp.fs vs) S') fun x => E x S') E := rfl
theorem w_slc (a lo hi : ME) : (W (.slc a lo hi)).v S Q E = (W a).v S (fun d S1 => (W lo).v S1 (fun l S2 => ∃ l', partOf lo l = some l' ∧ (W hi).v S2 (fun h S3 => ∃ h', partOf hi h = some h' ∧ slcSem d l' h' fun r => Q r S3) E) E) E := rfl
theorem w_nop : (W .nop).v S Q E = Q .non S := rfl
theorem w_lc (vs : List Nat) (elt : ME) (g : TG) (it tst : ME) : (W (.lc vs elt g it tst)).v S Q E = (W it).i S (fun items S1 => items.length ≤ lim ∧ noHn vs S1 = true ∧ lcGo (lcF g vs (frz (vars it ++ (vars tst ++ vars elt)) S1) (W tst) (W elt)) items [] fun ys => Q (.lst ys) S1) E := rfl
theorem w_dsp (ks vs : ME) : (W (.dsp ks vs)).v S Q E = (W ks).a S (fun a S1 => (W vs).a S1 (fun b S2 => a = [] ∧ b = [] ∧ Q (.dct [] []) S2) E) E := rfl
theorem w_pop (i : Nat) : (W (.pop i)).v S Q E = ∃ ds d, getO S i = some (.lst ds) ∧ ds.getLast? = some d ∧ Q d (S.set i (.ow (.lst ds.dropLast))) := rfl
theorem w_popAt (i : Nat) (e : ME) : (W (.popAt i e)).v S Q E = ((∃ ds, getO S i = some (.lst ds)) ∧ (W e).v S (fun d S1 => ∃ k ds j x, d = .int k ∧ getO S1 i = some (.lst ds) ∧ -(2 ^ 63) ≤ k ∧ k < 2 ^ 63 ∧ ixAt ds.length k = some j ∧ ds[j]? = some x ∧ Q x (S1.set i (.ow (.lst (ds.eraseIdx j))))) E) := rfl
theorem w_anil : (W .anil).a S A E = A [] S := rfl
theorem w_acons (a r : ME) : (W (.acons a r)).a S A E = (W a).v S (fun d S1 => (W r).a S1 (fun ds S2 => A (d :: ds) S2) E) E := rfl
theorem w_itS (a : ME) : (W (.itS a)).i S A E = (W a).v S (fun d S1 => iterS d fun ds => A ds S1) E := rfl
theorem w_itX (i : Nat) : (W (.itX i)).i S A E = ∃ d, getS S i = some d ∧ iterS d fun ds => A ds S := rfl
theorem w_itR (as : ME) : (W (.itR as)).i S A E = (W as).a S (fun ds S1 => rngSem ds fun xs => A xs S1) E := rfl
theorem w_itE (a : ME) : (W (.itE a)).i S A E = (W a).v S (fun d S1 => ∃ ds, seqOf d = some ds ∧ A (enumFrom 0 ds) S1) E := rfl
theorem w_itZ (a b : ME) : (W (.itZ a b)).i S A E = (W a).v S (fun d S1 => (W b).v S1 (fun e S2 => zipS d e fun ds => A ds S2) E) E := rfl
theorem t_and (a b : ME) : (W (.and a b)).t S T E = (W a).t S (fun k S1 => if k = true then (W b).t S1 T E else T false S1) E := rfl
theorem t_or (a b : ME) : (W (.or a b)).t S T E = (W a).t S (fun k S1 => if k = true then T true S1 else (W b).t S1 T E) E := rfl
theorem t_not (a : ME) : (W (.not a)).t S T E = (W a).t S (fun k S1 => T (!k) S1) E := rfl
theorem t_var (i : Nat) : (W (.var i)).t S T E = (W (.var i)).v S (fun d S1 => truW d fun k => T k S1) E := rfl
theorem t_con (d : D) : (W (.con d)).t S T E = truW d fun k => T k S := rfl
theorem t_op (o : Op) (as : ME) : (W (.op o as)).t S T E = (W (.op o as)).v S (fun d S1 => truW d fun k => T k S1) E := rfl
theorem t_chn (o1 o2 : CmpOp) (a b c : ME) : (W (.chn o1 o2 a b c)).t S T E = (W (.chn o1 o2 a b c)).v S (fun d S1 => truW d fun k => T k S1) E := rfl
theorem t_isi (ts : List Ty) (a : ME) : (W (.isi ts a)).t S T E = (W (.isi ts a)).v S (fun d S1 => truW d fun k => T k S1) E := rfl
theorem t_call (sp : FSpec) (as : ME) : (W (.call sp as)).t S T E = (W (.call sp as)).v S (fun d S1 => truW d fun k => T k S1) E := rfl
theorem t_callh (sp : FSpec) (h : Nat) (as : ME) : (W (.callh sp h as)).t S T E = (W (.callh sp h as)).v S (fun d S1 => truW d fun k => T k S1) E := rfl
theorem t_meth (sp : FSpec) (o as : ME) : (W (.meth sp o as)).t S T E = (W (.meth sp o as)).v S (fun d S1 => truW d fun k => T k S1) E := rfl
theorem t_eqo (neg : Bool) (sp : FSpec) (as : ME) : (W (.eqo neg sp as)).t S T E = (W (.eqo neg sp as)).v S (fun d S1 => truW d fun k => T k S1) E := rfl
end
theorem hn_ex (a c : Nat) : (∃ a' c', Sl.hn a c = Sl.hn a' c') = True := by simp
/-- what get tells -/
def dgot (o : Option Nat) (vs : List D) (z : D) : D := match o with
  | some j => vs.getD j z
  | none => z
section
variable {Q : DK} {R : Bool → Prop}
theorem tr_bl (b : Bool) : truW (.bl b) R = R b := rfl
theorem tr_int (i : Int) : truW (.int i) R = R (i != 0) := rfl
theorem tr_non : truW .non R = R false := rfl
theorem tr_tup (ds : List D) : truW (.tup ds) R = R (!ds.isEmpty) := rfl
theorem tr_lst (ds : List D) : truW (.lst ds) R = R (!ds.isEmpty) := rfl
theorem o_bin (o : Operator) (a b : D) : (Op.bin o).sem [a, b] Q = binSem o a b Q := rfl
theorem o_cmp (o : CmpOp) (a b : D) : (Op.cmp o).sem [a, b] Q = cmpSem o a b Q := rfl
theorem o_neg (i : Int) : Op.neg.sem [.int i] Q = Q (.int (-i)) := rfl
theorem o_tup (ds : List D) : Op.tup.sem ds Q = (ds.length ≤ 1000 ∧ Q (.tup ds)) := rfl
theorem o_lst (ds : List D) : Op.lst.sem ds Q = (ds.length ≤ 1000 ∧ Q (.lst ds)) := rfl
theorem o_idx (a b : D) : Op.idx.sem [a, b] Q = idxSem a b Q := rfl
theorem o_fld (f : Str) (a : D) : (Op.fld f).sem [a] Q = fldSem f a Q := rfl
theorem o_blt (b : Blt) (ds : List D) : (Op.blt b).sem ds Q = bltSem b ds Q := rfl
theorem b_add (i j : Int) : binSem .Add (.int i) (.int j) Q = Q (.int (i + j)) := rfl
theorem b_addT (a b : List D) : binSem .Add (.tup a) (.tup b) Q = (a.length + b.length ≤ lim ∧ Q (.tup (a ++ b))) := rfl
theorem b_addL (a b : List D) : binSem .Add (.lst a) (.lst b) Q = (a.length + b.length ≤ lim ∧ Q (.lst (a ++ b))) := rfl
theorem b_addS (a b : Str) : binSem .Add (.str a) (.str b) Q = (a.length + b.length ≤ lim ∧ Q (.str (a ++ b))) := rfl
theorem b_sub (i j : Int) : binSem .Sub (.int i) (.int j) Q = Q (.int (i - j)) := rfl
theorem b_mul (i j : Int) : binSem .Mult (.int i) (.int j) Q = (mulOk i j ∧ Q (.int (i * j))) := rfl
theorem b_mulT (a : List D) (j : Int) : binSem .Mult (.tup a) (.int j) Q = (a ≠ [] ∧ 2 ≤ j ∧ j ≤ 1000 ∧ a.length ≤ 1000 ∧ Q (.tup (List.replicate j.toNat a).flatten)) := rfl
theorem b_mulL (a : List D) (j : Int) : binSem .Mult (.lst a) (.int j) Q = (j < 2 ^ 63 ∧ -(2 ^ 63) ≤ j ∧ a.length * j.toNat ≤ lim ∧ Q (.lst (List.replicate j.toNat a).flatten)) := rfl
theorem b_div (i j : Int) : binSem .FloorDiv (.int i) (.int j) Q = (divOk j ∧ Q (.int (i.fdiv j))) := rfl
theorem b_mod (i j : Int) : binSem .Mod (.int i) (.int j) Q = (j ≠ 0 ∧ Q (.int (i.fmod j))) := rfl
theorem b_pow (i j : Int) : binSem .Pow (.int i) (.int j) Q = (0 ≤ j ∧ j ≤ 1000000 ∧ i.natAbs < 2 ^ 64 ∧ Q (.int (i ^ j.toNat))) := rfl
theorem c_eq (d e : D) : cmpSem .Eq d e Q = (d.shp = true ∧ e.shp = true ∧ Q (.bl (D.eqv d e))) := rfl
theorem c_ne (d e : D) : cmpSem .NotEq d e Q = (d.shp = true ∧ e.shp = true ∧ Q (.bl (!D.eqv d e))) := rfl
theorem c_lt (i j : Int) : cmpSem .Lt (.int i) (.int j) Q = Q (.bl (decide (i < j))) := rfl
theorem c_le (i j : Int) : cmpSem .LtE (.int i) (.int j) Q = Q (.bl (decide (i ≤ j))) := rfl
theorem c_gt (i j : Int) : cmpSem .Gt (.int i) (.int j) Q = Q (.bl (decide (j < i))) := rfl
theorem c_ge (i j : Int) : cmpSem .GtE (.int i) (.int j) Q = Q (.bl (decide (j ≤ i))) := rfl
theorem c_is (d : D) : cmpSem .Is d .non Q = Q (.bl d.isNon) := rfl
theorem c_isn (d : D) : cmpSem .IsNot d .non Q = Q (.bl (!d.isNon)) := rfl
theorem c_isB (d : D) (c : Bool) : cmpSem .Is d (.bl c) Q = Q (.bl (isBl d c)) := rfl
theorem c_isnB (d : D) (c : Bool) : cmpSem .IsNot d (.bl c) Q = Q (.bl (!isBl d c)) := rfl
theorem isBl_t (a : Bool) : isBl (.bl a) true = a := by cases a <;> rfl
theorem isBl_f (a : Bool) : isBl (.bl a) false = !a := by cases a <;> rfl
theorem c_inL (d : D) (ds : List D) : cmpSem .In d (.lst ds) Q = (d.shp = true ∧ (D.lst ds).shp = true ∧ Q (.bl (inAny d ds))) := rfl
theorem c_inT (d : D) (ds : List D) : cmpSem .In d (.tup ds) Q = (d.flat = true ∧ ds.all D.flat = true ∧ Q (.bl (inAny d ds))) := rfl
theorem c_inD (d : D) (ks vs : List D) : cmpSem .In d (.dct ks vs) Q = (d.isKey = true ∧ Q (.bl (keyAt d ks).isSome)) := rfl
theorem c_niL (d : D) (ds : List D) : cmpSem .NotIn d (.lst ds) Q = (d.shp = true ∧ (D.lst ds).shp = true ∧ Q (.bl (!inAny d ds))) := rfl
theorem c_niT (d : D) (ds : List D) : cmpSem .NotIn d (.tup ds) Q = (d.flat = true ∧ ds.all D.flat = true ∧ Q (.bl (!inAny d ds))) := rfl
theorem c_niD (d : D) (ks vs : List D) : cmpSem .NotIn d (.dct ks vs) Q = (d.isKey = true ∧ Q (.bl (keyAt d ks).isNone)) := rfl
theorem x_lst (ds : List D) (i : Int) : idxSem (.lst ds) (.int i) Q = ∃ j d, ixAt ds.length i = some j ∧ ds[j]? = some d ∧ Q d := rfl
theorem x_tup (ds : List D) (i : Int) : idxSem (.tup ds) (.int i) Q = ∃ j d, ixAt ds.length i = some j ∧ ds[j]? = some d ∧ Q d := rfl
theorem x_dct (ks vs : List D) (k : D) : idxSem (.dct ks vs) k Q = (k.isKey = true ∧ ∃ j d, keyAt k ks = some j ∧ vs[j]? = some d ∧ Q d) := rfl
theorem fl_ins (f c : Str) (fs : List Str) (ds : List D) : fldSem f (.ins c fs ds) Q = ∃ d, fldAt f fs ds = some d ∧ Q d := rfl
theorem bl_len (d : D) : bltSem .len [d] Q = ∃ n, lenOf d = some n ∧ n ≤ lim ∧ Q (.int n) := rfl
theorem bl_all (ds : List D) : bltSem .all [.lst ds] Q = ∃ bs, boolsOf ds = some bs ∧ Q (.bl (bs.all id)) := rfl
theorem bl_any (ds : List D) : bltSem .any [.lst ds] Q = ∃ bs, boolsOf ds = some bs ∧ Q (.bl (bs.any id)) := rfl
theorem bl_sum (ds : List D) : bltSem .sum [.lst ds] Q = ∃ ns, intsOf ds = some ns ∧ Q (.int ns.sum) := rfl
theorem bl_tupL (ds : List D) : bltSem .tuple [.lst ds] Q = Q (.tup ds) := by
  show (∃ es, seqOf (.lst ds) = some es ∧ Q (.tup es)) = _
  simp [seqOf]
theorem bl_tupT (ds : List D) : bltSem .tuple [.tup ds] Q = Q (.tup ds) := by
  show (∃ es, seqOf (.tup ds) = some es ∧ Q (.tup es)) = _
  simp [seqOf]
theorem bl_lstR (lo hi : Int) : bltSem .list [.rng lo hi] Q = (-(2 ^ 62) ≤ lo ∧ lo < 2 ^ 62 ∧ -(2 ^ 62) ≤ hi ∧ hi < 2 ^ 62 ∧ (hi - lo).toNat ≤ lim ∧ Q (.lst ((List.range (hi - lo).toNat).map fun (k : Nat) => D.int (lo + k)))) := rfl
theorem bl_lstL (ds : List D) : bltSem .list [.lst ds] Q = Q (.lst ds) := by
  show (∃ es, seqOf (.lst ds) = some es ∧ Q (.lst es)) = _
  simp [seqOf]
theorem bl_lstT (ds : List D) : bltSem .list [.tup ds] Q = Q (.lst ds) := by
  show (∃ es, seqOf (.tup ds) = some es ∧ Q (.lst es)) = _
  simp [seqOf]
theorem bl_int (i : Int) : bltSem .int [.int i] Q = Q (.int i) := rfl
theorem bl_intB (b : Bool) : bltSem .int [.bl b] Q = Q (.int (if b then 1 else 0)) := rfl
theorem bl_abs (i : Int) : bltSem .abs [.int i] Q = Q (.int (if i < 0 then -i else i)) := rfl
theorem bl_min2 (i j : Int) : bltSem .min2 [.int i, .int j] Q = Q (.int (if j < i then j else i)) := rfl
theorem bl_max2 (i j : Int) : bltSem .max2 [.int i, .int j] Q = Q (.int (if j > i then j else i)) := rfl
theorem bl_dict (ds : List D) : bltSem .dict [.lst ds] Q = ∃ ks vs, fromPairs ds [] [] = some (ks, vs) ∧ Q (.dct ks vs) := rfl
theorem bl_rng (i : Int) : bltSem .range1 [.int i] Q = Q (.rng 0 i) := rfl
theorem bl_srt (d : D) : bltSem .sorted [d] Q = ∃ ds ns, seqOf d = some ds ∧ intsOf ds = some ns ∧ ∀ out : List Int, out.Perm ns → out.Pairwise (· ≤ ·) → Q (.lst (out.map D.int)) := rfl
theorem ln_lst (ds : List D) : lenOf (.lst ds) = some ds.length := rfl
theorem ln_tup (ds : List D) : lenOf (.tup ds) = some ds.length := rfl
theorem ln_dct (ks vs : List D) : lenOf (.dct ks vs) = some ks.length := rfl
theorem sq_lst (ds : List D) : seqOf (.lst ds) = some ds := rfl
theorem sq_tup (ds : List D) : seqOf (.tup ds) = some ds := rfl
theorem m_get2 (ks vs : List D) (k z : D) : bmSem .dget2 [.dct ks vs, k, z] Q = (k.isKey = true ∧ Q (dgot (keyAt k ks) vs z)) := by
  show (k.isKey = true ∧ Q (match keyAt k ks with
    | some j => vs.getD j z
    | none => z)) = _
  cases keyAt k ks <;> rfl
theorem m_get1 (ks vs : List D) (k : D) : bmSem .dget1 [.dct ks vs, k] Q = (k.isKey = true ∧ Q (dgot (keyAt k ks) vs .non)) := by
  show (k.isKey = true ∧ Q (match keyAt k ks with
    | some j => vs.getD j .non
    | none => .non)) = _
  cases keyAt k ks <;> rfl
theorem m_ix (ds : List D) (d : D) : bmSem .lindex [.lst ds, d] Q = ((D.lst ds).shp = true ∧ d.shp = true ∧ ∃ j, (ds.findIdx? fun e => D.eqv e d) = some j ∧ Q (.int j)) := rfl
theorem h_get2 (ks vs : List D) : BM.dget2.hd (.dct ks vs) = true := rfl
theorem h_get1 (ks vs : List D) : BM.dget1.hd (.dct ks vs) = true := rfl
theorem h_ix (ds : List D) : BM.lindex.hd (.lst ds) = true := rfl
end
section
variable {A : List D → Prop}
theorem i_lst (ds : List D) : iterS (.lst ds) A = A ds := rfl
theorem i_tup (ds : List D) : iterS (.tup ds) A = A ds := rfl
theorem i_rng (lo hi : Int) : iterS (.rng lo hi) A = (rngOk lo hi ∧ A ((List.range (hi - lo).toNat).map fun (k : Nat) => D.int (lo + k))) := rfl
theorem r_one (j : Int) : rngSem [.int j] A = (rngOk 0 j ∧ A ((List.range j.toNat).map fun (k : Nat) => D.int (0 + k))) := rfl
theorem r_two (i j : Int) : rngSem [.int i, .int j] A = (rngOk i j ∧ A ((List.range (j - i).toNat).map fun (k : Nat) => D.int (i + k))) := rfl
end
section
variable {S : List Sl} {Q : List Sl → Prop}
theorem g_nm (i : Nat) (d : D) : tgW (.nm i) d S Q = Q (S.set i (.va d)) := rfl
theorem g_tp (g : TG) (ds : List D) : tgW (.tp g) (.tup ds) S Q = (ds.length = glen g ∧ tgsW g ds S Q) := by
  show (∃ es, D.tup ds = .tup es ∧ es.length = glen g ∧ tgsW g es S Q) = _
  simp
theorem g_nil : tgsW .gnil [] S Q = Q S := by
  show (([] : List D) = [] ∧ Q S) = _
  simp
theorem g_cons (a r : TG) (d : D) (ds : List D) : tgsW (.gcons a r) (d :: ds) S Q = tgW a d S fun S' => tgsW r ds S' Q := by
  refine propext ⟨?_, fun h => ⟨d, ds, rfl, h⟩⟩
  rintro ⟨d', rest, e, h⟩
  cases e
  exact h
theorem gl_nil : glen .gnil = 0 := rfl
theorem gl_cons (a r : TG) : glen (.gcons a r) = glen r + 1 := rfl
end
theorem ty_non_int  : D.isTy .non (.bt "int") = false := by simp [D.isTy]
theorem ty_non_bool  : D.isTy .non (.bt "bool") = false := by simp [D.isTy]
theorem ty_non_tuple  : D.isTy .non (.bt "tuple") = false := by simp [D.isTy]
theorem ty_non_list  : D.isTy .non (.bt "list") = false := by simp [D.isTy]
theorem ty_non_str  : D.isTy .non (.bt "str") = false := by simp [D.isTy]
theorem ty_non_dict  : D.isTy .non (.bt "dict") = false := by simp [D.isTy]
theorem tyd_non  : D.tyd .non = true := rfl
theorem ty_non_own  (x : Str) : D.isTy .non (.own x) = false := rfl
theorem isn_non  : D.isNon .non = true := rfl
theorem con_non  : D.isCon .non = false := rfl
theorem ty_bl_int (b : Bool) : D.isTy (.bl b) (.bt "int") = true := by simp [D.isTy]
theorem ty_bl_bool (b : Bool) : D.isTy (.bl b) (.bt "bool") = true := by simp [D.isTy]
theorem ty_bl_tuple (b : Bool) : D.isTy (.bl b) (.bt "tuple") = false := by simp [D.isTy]
theorem ty_bl_list (b : Bool) : D.isTy (.bl b) (.bt "list") = false := by simp [D.isTy]
theorem ty_bl_str (b : Bool) : D.isTy (.bl b) (.bt "str") = false := by simp [D.isTy]
theorem ty_bl_dict (b : Bool) : D.isTy (.bl b) (.bt "dict") = false := by simp [D.isTy]
theorem tyd_bl (b : Bool) : D.tyd (.bl b) = true := rfl
theorem ty_bl_own (b : Bool) (x : Str) : D.isTy (.bl b) (.own x) = false := rfl
theorem isn_bl (b : Bool) : D.isNon (.bl b) = false := rfl
theorem con_bl (b : Bool) : D.isCon (.bl b) = false := rfl
theorem ty_int_int (i : Int) : D.isTy (.int i) (.bt "int") = true := by simp [D.isTy]
theorem ty_int_bool (i : Int) : D.isTy (.int i) (.bt "bool") = false := by simp [D.isTy]
theorem ty_int_tuple (i : Int) : D.isTy (.int i) (.bt "tuple") = false := by simp [D.isTy]
theorem ty_int_list (i : Int) : D.isTy (.int i) (.bt "list") = false := by simp [D.isTy]
theorem ty_int_str (i : Int) : D.isTy (.int i) (.bt "str") = false := by simp [D.isTy]
theorem ty_int_dict (i : Int) : D.isTy (.int i) (.bt "dict") = false := by simp [D.isTy]
theorem tyd_int (i : Int) : D.tyd (.int i) = true := rfl
theorem ty_int_own (i : Int) (x : Str) : D.isTy (.int i) (.own x) = false := rfl
theorem isn_int (i : Int) : D.isNon (.int i) = false := rfl
theorem con_int (i : Int) : D.isCon (.int i) = false := rfl
theorem ty_str_int (s : Str) : D.isTy (.str s) (.bt "int") = false := by simp [D.isTy]
theorem ty_str_bool (s : Str) : D.isTy (.str s) (.bt "bool") = false := by simp [D.isTy]
theorem ty_str_tuple (s : Str) : D.isTy (.str s) (.bt "tuple") = false := by simp [D.isTy]
theorem ty_str_list (s : Str) : D.isTy (.str s) (.bt "list") = false := by simp [D.isTy]
theorem ty_str_str (s : Str) : D.isTy (.str s) (.bt "str") = true := by simp [D.isTy]
theorem ty_str_dict (s : Str) : D.isTy (.str s) (.bt "dict") = false := by simp [D.isTy]
theorem tyd_str (s : Str) : D.tyd (.str s) = true := rfl
theorem ty_str_own (s : Str) (x : Str) : D.isTy (.str s) (.own x) = false := rfl
theorem isn_str (s : Str) : D.isNon (.str s) = false := rfl
theorem con_str (s : Str) : D.isCon (.str s) = false := rfl
theorem ty_tup_int (ds : List D) : D.isTy (.tup ds) (.bt "int") = false := by simp [D.isTy]
theorem ty_tup_bool (ds : List D) : D.isTy (.tup ds) (.bt "bool") = false := by simp [D.isTy]
theorem ty_tup_tuple (ds : List D) : D.isTy (.tup ds) (.bt "tuple") = true := by simp [D.isTy]
theorem ty_tup_list (ds : List D) : D.isTy (.tup ds) (.bt "list") = false := by simp [D.isTy]
theorem ty_tup_str (ds : List D) : D.isTy (.tup ds) (.bt "str") = false := by simp [D.isTy]
theorem ty_tup_dict (ds : List D) : D.isTy (.tup ds) (.bt "dict") = false := by simp [D.isTy]
theorem tyd_tup (ds : List D) : D.tyd (.tup ds) = true := rfl
theorem ty_tup_own (ds : List D) (x : Str) : D.isTy (.tup ds) (.own x) = false := rfl
theorem isn_tup (ds : List D) : D.isNon (.tup ds) = false := rfl
theorem con_tup (ds : List D) : D.isCon (.tup ds) = false := rfl
theorem ty_lst_int (ds : List D) : D.isTy (.lst ds) (.bt "int") = false := by simp [D.isTy]
theorem ty_lst_bool (ds : List D) : D.isTy (.lst ds) (.bt "bool") = false := by simp [D.isTy]
theorem ty_lst_tuple (ds : List D) : D.isTy (.lst ds) (.bt "tuple") = false := by simp [D.isTy]
theorem ty_lst_list (ds : List D) : D.isTy (.lst ds) (.bt "list") = true := by simp [D.isTy]
theorem ty_lst_str (ds : List D) : D.isTy (.lst ds) (.bt "str") = false := by simp [D.isTy]
theorem ty_lst_dict (ds : List D) : D.isTy (.lst ds) (.bt "dict") = false := by simp [D.isTy]
theorem tyd_lst (ds : List D) : D.tyd (.lst ds) = true := rfl
theorem ty_lst_own (ds : List D) (x : Str) : D.isTy (.lst ds) (.own x) = false := rfl
theorem isn_lst (ds : List D) : D.isNon (.lst ds) = false := rfl
theorem con_lst (ds : List D) : D.isCon (.lst ds) = true := rfl
theorem ty_dct_int (ks vs : List D) : D.isTy (.dct ks vs) (.bt "int") = false := by simp [D.isTy]
theorem ty_dct_bool (ks vs : List D) : D.isTy (.dct ks vs) (.bt "bool") = false := by simp [D.isTy]
theorem ty_dct_tuple (ks vs : List D) : D.isTy (.dct ks vs) (.bt "tuple") = false := by simp [D.isTy]
theorem ty_dct_list (ks vs : List D) : D.isTy (.dct ks vs) (.bt "list") = false := by simp [D.isTy]
theorem ty_dct_str (ks vs : List D) : D.isTy (.dct ks vs) (.bt "str") = false := by simp [D.isTy]
theorem ty_dct_dict (ks vs : List D) : D.isTy (.dct ks vs) (.bt "dict") = true := by simp [D.isTy]
theorem tyd_dct (ks vs : List D) : D.tyd (.dct ks vs) = true := rfl
theorem ty_dct_own (ks vs : List D) (x : Str) : D.isTy (.dct ks vs) (.own x) = false := rfl
theorem isn_dct (ks vs : List D) : D.isNon (.dct ks vs) = false := rfl
theorem con_dct (ks vs : List D) : D.isCon (.dct ks vs) = true := rfl
theorem ty_ins_int (c : Str) (fs : List Str) (ds : List D) : D.isTy (.ins c fs ds) (.bt "int") = false := by simp [D.isTy]
theorem ty_ins_bool (c : Str) (fs : List Str) (ds : List D) : D.isTy (.ins c fs ds) (.bt "bool") = false := by simp [D.isTy]
theorem ty_ins_tuple (c : Str) (fs : List Str) (ds : List D) : D.isTy (.ins c fs ds) (.bt "tuple") = false := by simp [D.isTy]
theorem ty_ins_list (c : Str) (fs : List Str) (ds : List D) : D.isTy (.ins c fs ds) (.bt "list") = false := by simp [D.isTy]
theorem ty_ins_str (c : Str) (fs : List Str) (ds : List D) : D.isTy (.ins c fs ds) (.bt "str") = false := by simp [D.isTy]
theorem ty_ins_dict (c : Str) (fs : List Str) (ds : List D) : D.isTy (.ins c fs ds) (.bt "dict") = false := by simp [D.isTy]
theorem tyd_ins (c : Str) (fs : List Str) (ds : List D) : D.tyd (.ins c fs ds) = true := rfl
theorem ty_ins_own (c : Str) (fs : List Str) (ds : List D) (x : Str) : D.isTy (.ins c fs ds) (.own x) = decide (c = x) := rfl
theorem isn_ins (c : Str) (fs : List Str) (ds : List D) : D.isNon (.ins c fs ds) = false := rfl
theorem con_ins (c : Str) (fs : List Str) (ds : List D) : D.isCon (.ins c fs ds) = false := rfl
theorem hin_lst (ds : List D) : D.hardIn (.lst ds) = hardAll ds := rfl
theorem hin_dct (ks vs : List D) : D.hardIn (.dct ks vs) = (hardAll ks && hardAll vs) := rfl
theorem fla_non  : D.flat .non = true := rfl
theorem fla_bl (b : Bool) : D.flat (.bl b) = true := rfl
theorem fla_int (i : Int) : D.flat (.int i) = true := rfl
theorem fla_str (s : Str) : D.flat (.str s) = true := rfl
theorem key_int (i : Int) : D.isKey (.int i) = true := rfl
theorem key_str (i : Str) : D.isKey (.str i) = true := rfl
theorem po_nop (d : D) : partOf .nop d = some none := rfl
theorem po_var (k : Nat) (i : Int) : partOf (.var k) (.int i) = some (some i) := rfl
theorem po_con (c : D) (i : Int) : partOf (.con c) (.int i) = some (some i) := rfl
theorem po_op (o : Op) (as : ME) (i : Int) : partOf (.op o as) (.int i) = some (some i) := rfl
theorem sl_tup {Q : DK} (ds : List D) (lo hi : Option Int) : slcSem (.tup ds) lo hi Q = Q (.tup ((ds.drop (cutIx ds.length 0 lo)).take (cutIx ds.length ds.length hi - cutIx ds.length 0 lo))) := rfl
theorem sl_lst {Q : DK} (ds : List D) (lo hi : Option Int) : slcSem (.lst ds) lo hi Q = Q (.lst ((ds.drop (cutIx ds.length 0 lo)).take (cutIx ds.length ds.length hi - cutIx ds.length 0 lo))) := rfl
section
variable {S : List Sl} {E : En}
theorem s_nil : WS .nil E S = E.nx S := rfl
theorem s_seq (s r : MS) : WS (.seq s r) E S = WS s { nx := fun S' => WS r E S', rt := E.rt, bk := E.bk, ct := E.ct, ex := E.ex } S := rfl
theorem s_asg (g : TG) (e : ME) : WS (.asg g e) E S = (W e).v S (fun d S' => tgW g d (thaw d.hard (vars e) S') E.nx) E.ex := rfl
theorem s_par (l : List (Nat × Bool × ME)) : WS (.par l) E S = parW l S (fun ds S' => E.nx (parSet l ds (thaw (parOk l ds) (parVars l) S'))) E.ex := rfl
theorem s_aug (i : Nat) (o : Operator) (e : ME) : WS (.aug i o e) E S = ∃ x, getS S i = some x ∧ (W e).v S (fun y S' => binSem o x y fun r => (∃ n, r = .int n) ∧ E.nx (S'.set i (.va r))) E.ex := rfl
theorem s_exp (e : ME) : WS (.exp e) E S = (W e).v S (fun _ S' => E.nx S') E.ex := rfl
theorem s_app (i : Nat) (e : ME) : WS (.app i e) E S = ((∃ ds, getO S i = some (.lst ds)) ∧ (W e).v S (fun d S' => ∃ ds, getO (thaw d.hard (vars e) S') i = some (.lst ds) ∧ ds.length < lim ∧ E.nx ((thaw d.hard (vars e) S').set i (.ow (.lst (ds ++ [d]))))) E.ex) := rfl
theorem s_ext (i : Nat) (e : ME) : WS (.ext i e) E S = ((∃ ds, getO S i = some (.lst ds)) ∧ (W e).v S (fun d S' => ∃ es ds, d = .lst es ∧ getO (thaw (hardAll es) (vars e) S') i = some (.lst ds) ∧ ds.length + es.length ≤ lim ∧ E.nx ((thaw (hardAll es) (vars e) S').set i (.ow (.lst (ds ++ es))))) E.ex) := rfl
theorem s_sti (i : Nat) (k e : ME) : WS (.sti i k e) E S = (W e).v S (fun d S1 => (∃ d', getO S1 i = some d') ∧ (W k).v S1 (fun x S2 => stiS (getO (thaw d.hard (vars e) S2) i) x d fun c => E.nx ((thaw d.hard (vars e) S2).set i (.ow c))) E.ex) E.ex := rfl
theorem s_ret (e : ME) : WS (.ret e) E S = (W e).v S (fun d S' => E.rt d S') E.ex := rfl
theorem s_retn : WS .retn E S = E.rt .non S := rfl
theorem s_ifs (c : ME) (a b : MS) : WS (.ifs c a b) E S = (W c).t S (fun k S' => if k = true then WS a E S' else WS b E S') E.ex := rfl
theorem s_wh (c : ME) (b : MS) : WS (.wh c b) E S = ∃ n, whGo (W c) (WS b) E n S := rfl
theorem s_rs (c : Str) (ns : List Str) (as : ME) : WS (.rs c ns as) E S = (W as).a S (fun ds S' => ds.length = ns.length ∧ hardAll ds = true ∧ E.ex ⟨c, ns, ds⟩ S') E.ex := rfl
theorem s_pas : WS .pas E S = E.nx S := rfl
theorem s_con : WS .con E S = E.ct S := rfl
theorem s_brk : WS .brk E S = E.bk S := rfl
theorem s_nev : WS .nev E S = False := rfl
theorem s_mkh (i j : Nat) : WS (.mkh i j) E S = ((∃ ns, S[j]? = some (.va (.scr ns))) ∧ ∀ a c, E.nx (S.set i (.hn a c))) := rfl
theorem s_frX (g : TG) (i : Nat) (b : MS) : WS (.fr g (.itX i) b) E S = ∃ d, getS S i = some d ∧ iterS d fun items => match S[i]? with
      | some (.ow _) => ∀ p, frGo g (WS b) E (held (some i) (lock (some i) p S)) (fun S2 => E.nx (unlock (some i) S2)) items (lock (some i) p S)
      | _ => frGo g (WS b) E (held (some i) S) E.nx items S := rfl
theorem s_fr (g : TG) (it : ME) (b : MS) (h : itSlot it = none) : WS (.fr g it b) E S = (W it).i S (fun items S1 => frGo g (WS b) E (fun _ => True) E.nx items (frz (vars it) S1)) E.ex := by
  show (W it).i S (fun items S1 => match itSlot it with
    | some i => (match S1[i]? with
      | some (.ow _) => ∀ p, frGo g (WS b) E (held (some i) (lock (some i) p S1)) (fun S2 => E.nx (unlock (some i) S2)) items (lock (some i) p S1)
      | _ => frGo g (WS b) E (held (some i) S1) E.nx items S1)
    | none => frGo g (WS b) E (fun _ => True) E.nx items (frz (vars it) S1)) E.ex = _
  rw [h]
end
section
variable {S : List Sl} {E : En}
theorem s_frS (g : TG) (a : ME) (b : MS) : WS (.fr g (.itS a) b) E S = (W (.itS a)).i S (fun items S1 => frGo g (WS b) E (fun _ => True) E.nx items (frz (vars (.itS a)) S1)) E.ex := rfl
theorem s_frR (g : TG) (a : ME) (b : MS) : WS (.fr g (.itR a) b) E S = (W (.itR a)).i S (fun items S1 => frGo g (WS b) E (fun _ => True) E.nx items (frz (vars (.itR a)) S1)) E.ex := rfl
theorem s_frE (g : TG) (a : ME) (b : MS) : WS (.fr g (.itE a) b) E S = (W (.itE a)).i S (fun items S1 => frGo g (WS b) E (fun _ => True) E.nx items (frz (vars (.itE a)) S1)) E.ex := rfl
theorem s_frZ (g : TG) (a c : ME) (b : MS) : WS (.fr g (.itZ a c) b) E S = (W (.itZ a c)).i S (fun items S1 => frGo g (WS b) E (fun _ => True) E.nx items (frz (vars (.itZ a c)) S1)) E.ex := rfl
end
section
variable {S : List Sl} {Q : List D → List Sl → Prop} {E : XS}
theorem p_nil : parW [] S Q E = Q [] S := rfl
theorem p_cons (i : Nat) (f : Bool) (m : ME) (r : List (Nat × Bool × ME)) : parW ((i, f, m) :: r) S Q E = (W m).v S (fun d S1 => (f = true → d.isCon = true) ∧ parW r S1 (fun ds S2 => Q (d :: ds) S2) E) E := rfl
theorem ps_nil (S : List Sl) : parSet [] [] S = S := rfl
theorem ps_cons (i : Nat) (f : Bool) (m : ME) (r : List (Nat × Bool × ME)) (d : D) (ds : List D) (S : List Sl) : parSet ((i, f, m) :: r) (d :: ds) S = parSet r ds (S.set i (mkSl f d)) := rfl
theorem po_nil : parOk [] [] = true := rfl
theorem po_cons (i : Nat) (f : Bool) (m : ME) (r : List (Nat × Bool × ME)) (d : D) (ds : List D) : parOk ((i, f, m) :: r) (d :: ds) = (okSl f d && parOk r ds) := rfl
theorem pv_nil : parVars [] = [] := rfl
theorem pv_cons (i : Nat) (f : Bool) (m : ME) (r : List (Nat × Bool × ME)) : parVars ((i, f, m) :: r) = vars m ++ parVars r := rfl
theorem ok_t (d : D) : okSl true d = d.hardIn := rfl
theorem ok_f (d : D) : okSl false d = d.hard := rfl
theorem mk_t (d : D) : mkSl true d = .ow d := rfl
theorem mk_f (d : D) : mkSl false d = .va d := rfl
end
section
variable {S : List Sl} {Q : List D → Prop} {E : XS}
theorem sef_nil : sefW [] S Q E = Q [] := rfl
theorem sef_cons (f : Str) (m : ME) (r : List (Str × ME)) : sefW ((f, m) :: r) S Q E = (W m).v S (fun d S1 => sefW r (thaw d.hard (vars m) S1) (fun ds => Q (d :: ds)) E) E := rfl
end
/-- each item gives one -/
theorem lcGo_map {f : D → (Option D → Prop) → Prop} (g : D → D) : ∀ {items acc : List D} {Q : List D → Prop}, (∀ d ∈ items, ∀ K : Option D → Prop, K (some (g d)) → f d K) → Q (acc ++ items.map g) → lcGo f items acc Q
  | [], acc, Q, _, q => by simpa [lcGo] using q
  | d :: items, acc, Q, h, q => by
    refine h d List.mem_cons_self _ (lcGo_map g (fun e he => h e (List.mem_cons_of_mem _ he)) ?_)
    simpa using q
/-- each item of a mapped list gives one -/
theorem lcGo_mapF {α : Type} {e : α → D} {f : D → (Option D → Prop) → Prop} (h : α → D) : ∀ {xs : List α} {acc : List D} {Q : List D → Prop}, (∀ x ∈ xs, ∀ K : Option D → Prop, K (some (h x)) → f (e x) K) → Q (acc ++ xs.map h) → lcGo f (xs.map e) acc Q
  | [], acc, Q, _, q => by simpa [lcGo] using q
  | x :: xs, acc, Q, k, q => by
    refine k x List.mem_cons_self _ (lcGo_mapF h (fun y hy => k y (List.mem_cons_of_mem _ hy)) ?_)
    simpa using q
/-- each item gives one or none -/
theorem lcGo_fm {f : D → (Option D → Prop) → Prop} (g : D → Option D) : ∀ {items acc : List D} {Q : List D → Prop}, (∀ d ∈ items, ∀ K : Option D → Prop, K (g d) → f d K) → Q (acc ++ items.filterMap g) → lcGo f items acc Q
  | [], acc, Q, _, q => by simpa [lcGo] using q
  | d :: items, acc, Q, h, q => by
    refine h d List.mem_cons_self _ (lcGo_fm g (fun e he => h e (List.mem_cons_of_mem _ he)) ?_)
    rw [List.filterMap_cons] at q
    cases z : g d with
    | none => rw [z] at q; simpa [z] using q
    | some y => rw [z] at q; simpa [z] using q
/-- each item gives one that keeps a promise -/
theorem lcGo_ex {f : D → (Option D → Prop) → Prop} (R : D → D → Prop) : ∀ {items acc : List D} {Q : List D → Prop}, (∀ d ∈ items, ∀ K : Option D → Prop, (∀ y, R d y → K (some y)) → f d K) →
    (∀ ys : List D, ys.length = items.length → (∀ (i : Nat) d y, items[i]? = some d → ys[i]? = some y → R d y) → Q (acc ++ ys)) → lcGo f items acc Q
  | [], acc, Q, _, q => by
    have := q [] rfl (fun i d y h _ => by simp at h)
    simpa [lcGo] using this
  | d :: items, acc, Q, h, q => by
    refine h d List.mem_cons_self _ fun y hy => lcGo_ex R (fun e he => h e (List.mem_cons_of_mem _ he)) fun ys hl hr => ?_
    have := q (y :: ys) (by simp [hl]) fun i e z h1 h2 => by
      cases i with
      | zero =>
        simp at h1 h2
        rw [← h1, ← h2]
        exact hy
      | succ i => exact hr i e z (by simpa using h1) (by simpa using h2)
    simpa using this
/-- some of the items give one that keeps a promise -/
theorem lcGo_any {f : D → (Option D → Prop) → Prop} (R : D → Prop) : ∀ {items acc : List D} {Q : List D → Prop}, (∀ d ∈ items, ∀ K : Option D → Prop, (∀ o, (∀ y, o = some y → R y) → K o) → f d K) →
    (∀ ys : List D, ys.length ≤ items.length → (∀ y ∈ ys, R y) → Q (acc ++ ys)) → lcGo f items acc Q
  | [], acc, Q, _, q => by
    have := q [] (Nat.le_refl _) (fun y h => by cases h)
    simpa [lcGo] using this
  | d :: items, acc, Q, h, q => by
    refine h d List.mem_cons_self _ fun o ho => lcGo_any R (fun e he => h e (List.mem_cons_of_mem _ he)) fun ys hl hr => ?_
    cases o with
    | none => exact q ys (Nat.le_succ_of_le hl) hr
    | some y =>
      have := q (y :: ys) (Nat.succ_le_succ hl) fun z hz => by
        rcases List.mem_cons.mp hz with e | hz
        · rw [e]; exact ho y rfl
        · exact hr z hz
      simpa using this
/-- a for, by what holds of the items that are left -/
theorem frGo_inv {g : TG} {b : En → List Sl → Prop} {E : En} {hd fin : List Sl → Prop} (I : List D → List Sl → Prop)
    (step : ∀ d ds S (N : List Sl → Prop), I (d :: ds) S → (∀ S', I ds S' → N S') → hd S ∧ tgW g d S fun S' => b { nx := N, rt := E.rt, bk := fun S2 => hd S2 ∧ fin S2, ct := N, ex := E.ex } S')
    (done : ∀ S, I [] S → hd S ∧ fin S) : ∀ {items S}, I items S → frGo g b E hd fin items S
  | [], S, i => done S i
  | d :: ds, S, i => step d ds S _ i fun S' i' => frGo_inv I step done i'
/-- a for, by what holds behind the items that are done -/
theorem frGo_pre {g : TG} {b : En → List Sl → Prop} {E : En} {hd fin : List Sl → Prop} (I : List D → List Sl → Prop) {items : List D} {S : List Sl}
    (i0 : I [] S)
    (step : ∀ pre d post S (N : List Sl → Prop), items = pre ++ d :: post → I pre S → (∀ S', I (pre ++ [d]) S' → N S') → hd S ∧ tgW g d S fun S' => b { nx := N, rt := E.rt, bk := fun S2 => hd S2 ∧ fin S2, ct := N, ex := E.ex } S')
    (done : ∀ S, I items S → hd S ∧ fin S) : frGo g b E hd fin items S := by
  refine frGo_inv (fun rest S => ∃ pre, items = pre ++ rest ∧ I pre S) (fun d ds S N ⟨pre, e, i⟩ k => step pre d ds S N e i fun S' i' => k S' ⟨pre ++ [d], by simp [e], i'⟩) (fun S ⟨pre, e, i⟩ => done S (by simpa [e] using i)) ⟨[], rfl, i0⟩
/-- a for, by the number of items that are done -/
theorem frGo_ix {g : TG} {b : En → List Sl → Prop} {E : En} {hd fin : List Sl → Prop} (I : Nat → List Sl → Prop) {items : List D} {S : List Sl}
    (i0 : I 0 S)
    (step : ∀ (m : Nat) d S (N : List Sl → Prop), items[m]? = some d → I m S → (∀ S', I (m + 1) S' → N S') → hd S ∧ tgW g d S fun S' => b { nx := N, rt := E.rt, bk := fun S2 => hd S2 ∧ fin S2, ct := N, ex := E.ex } S')
    (done : ∀ S, I items.length S → hd S ∧ fin S) : frGo g b E hd fin items S := by
  refine frGo_pre (fun pre S => I pre.length S) i0 (fun pre d post S N e i k => step pre.length d S N (by rw [e]; simp) i fun S' i' => k S' (by simpa using i')) done
/-- a for over range(n) -/
theorem frGo_rng {g : TG} {b : En → List Sl → Prop} {E : En} {hd fin : List Sl → Prop} (I : Nat → List Sl → Prop) {n : Nat} {S : List Sl}
    (i0 : I 0 S)
    (step : ∀ (m : Nat) S (N : List Sl → Prop), m < n → I m S → (∀ S', I (m + 1) S' → N S') → hd S ∧ tgW g (.int m) S fun S' => b { nx := N, rt := E.rt, bk := fun S2 => hd S2 ∧ fin S2, ct := N, ex := E.ex } S')
    (done : ∀ S, I n S → hd S ∧ fin S) : frGo g b E hd fin ((List.range n).map fun (k : Nat) => D.int k) S := by
  refine frGo_ix I i0 (fun m d S N e i k => ?_) fun S i => done S (by simpa using i)
  rw [List.getElem?_map] at e
  obtain ⟨j, h1, h2⟩ := Option.map_eq_some_iff.mp e
  have h3 : m < n := by
    have := (List.getElem?_eq_some_iff.mp h1).1
    rwa [List.length_range] at this
  rw [List.getElem?_range h3] at h1
  cases h1
  subst h2
  exact step m S N h3 i k
/-- a while, by a number that falls -/
theorem whGo_inv {c : WT} {b : En → List Sl → Prop} {E : En} (I : List Sl → Prop) (μ : List Sl → Nat)
    (step : ∀ S (N : List Sl → Prop), I S → (∀ S', I S' → μ S' < μ S → N S') → c.t S (fun k S1 => if k = true then b { nx := N, rt := E.rt, bk := E.nx, ct := N, ex := E.ex } S1 else E.nx S1) E.ex) {S : List Sl} (i0 : I S) : ∃ n, whGo c b E n S := by
  have go : ∀ n S, I S → μ S < n → whGo c b E n S := by
    intro n
    induction n with
    | zero => intro S _ h; omega
    | succ n ih => exact fun S i h => step S _ i fun S' i' h' => ih S' i' (by omega)
  exact ⟨μ S + 1, go _ S i0 (Nat.lt_succ_self _)⟩
/-- a while, by a number told beside the state -/
theorem whGo_f {c : WT} {b : En → List Sl → Prop} {E : En} (I : Nat → List Sl → Prop)
    (step : ∀ f S (N : List Sl → Prop), I f S → (∀ S' f', f' < f → I f' S' → N S') → c.t S (fun k S1 => if k = true then b { nx := N, rt := E.rt, bk := E.nx, ct := N, ex := E.ex } S1 else E.nx S1) E.ex) {f : Nat} {S : List Sl} (i0 : I f S) : ∃ n, whGo c b E n S := by
  have go : ∀ n f S, I f S → f < n → whGo c b E n S := by
    intro n
    induction n with
    | zero => intro f S _ h; omega
    | succ n ih => exact fun f S i h => step f S _ i fun S' f' h' i' => ih f' S' i' (by omega)
  exact ⟨f + 1, go _ f S i0 (Nat.lt_succ_self _)⟩
theorem lim_eq' : lim = 16777216 := rfl
/-- the end of a def -/
abbrev enQ (hst : List Sl → Prop) (Q : DK) (E : XP) : En := { nx := fun S => hst S ∧ Q .non, rt := fun d S => hst S ∧ Q d, ex := fun x S => hst S ∧ E x }
end Mi
set_option maxHeartbeats 1000000
namespace Mi
open PySem
theorem ix_nat {n k : Nat} (h : k < n) : ixAt n (k : Int) = some k := by
  unfold ixAt
  rw [if_pos (by omega), if_pos (by omega)]
  simp
theorem ix_neg {n k : Nat} (h : 0 < k) (h2 : k ≤ n) : ixAt n (-(k : Int)) = some (n - k) := by
  unfold ixAt
  rw [if_neg (by omega), if_pos (by omega)]
  congr 1
  omega
/-- an item of a list, a tuple -/
theorem x_lstN {Q : DK} {ds : List D} {k : Nat} {d : D} (h : ds[k]? = some d) : idxSem (.lst ds) (.int k) Q = Q d := by
  rw [x_lst]
  have hk : k < ds.length := (List.getElem?_eq_some_iff.mp h).1
  simp [ix_nat hk, h]
theorem x_tupN {Q : DK} {ds : List D} {k : Nat} {d : D} (h : ds[k]? = some d) : idxSem (.tup ds) (.int k) Q = Q d := by
  rw [x_tup]
  have hk : k < ds.length := (List.getElem?_eq_some_iff.mp h).1
  simp [ix_nat hk, h]
theorem x_lstM {Q : DK} {α : Type} {f : α → D} {xs : List α} {k : Nat} (h : k < xs.length) : idxSem (.lst (xs.map f)) (.int k) Q = Q (f xs[k]) := x_lstN (by simp [h])
theorem x_tupM {Q : DK} {α : Type} {f : α → D} {xs : List α} {k : Nat} (h : k < xs.length) : idxSem (.tup (xs.map f)) (.int k) Q = Q (f xs[k]) := x_tupN (by simp [h])
theorem x_pair0 {Q : DK} (a b : D) : idxSem (.tup [a, b]) (.int 0) Q = Q a := x_tupN (k := 0) rfl
theorem x_pair1 {Q : DK} (a b : D) : idxSem (.tup [a, b]) (.int 1) Q = Q b := x_tupN (k := 1) rfl
class Enc (α : Type) where
  enc : α → D
  dep : Nat
  hard : ∀ a, (enc a).hard = true
  lay : ∀ a, (enc a).py.canLay0 = true
  dle : ∀ a, (enc a).py.depth ≤ dep
  eqv : ∀ a b, D.eqv (enc a) (enc b) = true ↔ a = b
open Enc (enc)
theorem pyAll_eq : ∀ ds : List D, pyAll ds = ds.map D.py
  | [] => rfl
  | d :: ds => by rw [pyAll, pyAll_eq ds]; rfl
theorem hardAll_eq : ∀ ds : List D, hardAll ds = ds.all D.hard
  | [] => rfl
  | d :: ds => by rw [hardAll, hardAll_eq ds]; rfl
theorem eqv_int (i j : Int) : D.eqv (.int i) (.int j) = decide (i = j) := by
  simp only [D.eqv, D.py, PyData.eqv]
  by_cases h : i = j <;> simp [h]
theorem eqv_bl (i j : Bool) : D.eqv (.bl i) (.bl j) = (i == j) := by
  simp only [D.eqv, D.py, PyData.eqv]
theorem eqv_str (i j : Str) : D.eqv (.str i) (.str j) = decide (i = j) := by
  simp only [D.eqv, D.py, PyData.eqv]
  by_cases h : i = j <;> simp [h]
theorem eqv_nn : D.eqv .non .non = true := by simp only [D.eqv, D.py, PyData.eqv]
theorem eqv_tn (ds : List D) : D.eqv (.tup ds) .non = false := by simp only [D.eqv, D.py, PyData.eqv]
theorem eqv_nt (ds : List D) : D.eqv .non (.tup ds) = false := by simp only [D.eqv, D.py, PyData.eqv]
theorem eqv_in (i : Int) : D.eqv (.int i) .non = false := by simp only [D.eqv, D.py, PyData.eqv]
theorem eqv_ni (i : Int) : D.eqv .non (.int i) = false := by simp only [D.eqv, D.py, PyData.eqv]
theorem eqv_sn (i : Str) : D.eqv (.str i) .non = false := by simp only [D.eqv, D.py, PyData.eqv]
theorem eqv_ns (i : Str) : D.eqv .non (.str i) = false := by simp only [D.eqv, D.py, PyData.eqv]
theorem eqv_lst (as bs : List D) : D.eqv (.lst as) (.lst bs) = D.eqv (.tup as) (.tup bs) := by simp only [D.eqv, D.py, PyData.eqv]
theorem eqv_tnil : D.eqv (.tup []) (.tup []) = true := by simp only [D.eqv, D.py, pyAll, PyData.eqv, PyData.eqvAll]
theorem eqv_tcons (a b : D) (as bs : List D) : D.eqv (.tup (a :: as)) (.tup (b :: bs)) = (D.eqv a b && D.eqv (.tup as) (.tup bs)) := by simp only [D.eqv, D.py, pyAll, PyData.eqv, PyData.eqvAll]
theorem eqv_tnc (b : D) (bs : List D) : D.eqv (.tup []) (.tup (b :: bs)) = false := by simp only [D.eqv, D.py, pyAll, PyData.eqv, PyData.eqvAll]
theorem eqv_tcn (b : D) (bs : List D) : D.eqv (.tup (b :: bs)) (.tup []) = false := by simp only [D.eqv, D.py, pyAll, PyData.eqv, PyData.eqvAll]
section
variable {α β : Type} [Enc α] [Enc β]
theorem enc_refl (a : α) : D.eqv (enc a) (enc a) = true := (Enc.eqv a a).mpr rfl
theorem enc_inj {a b : α} : enc a = enc b ↔ a = b := ⟨fun h => (Enc.eqv a b).mp (by rw [h]; exact enc_refl b), fun h => by rw [h]⟩
theorem enc_eqv [DecidableEq α] (a b : α) : D.eqv (enc a) (enc b) = decide (a = b) := by
  rw [Bool.eq_iff_iff, Enc.eqv, decide_eq_true_eq]
theorem shp_of {d : D} (h1 : d.py.canLay0 = true) (h2 : d.py.depth ≤ 64) : d.shp = true := by
  unfold D.shp SeqAt.shaped
  rw [h1, decide_eq_true h2]
  rfl
theorem enc_shp (a : α) (h : Enc.dep α ≤ 64) : (enc a).shp = true := shp_of (Enc.lay a) (Nat.le_trans (Enc.dle a) h)
theorem lay_map : ∀ xs : List α, PyData.canLayAll0 (pyAll (xs.map enc)) = true
  | [] => rfl
  | x :: xs => by
    rw [List.map_cons, pyAll, PyData.canLayAll0, Enc.lay, lay_map xs]
    rfl
theorem dle_map : ∀ xs : List α, PyData.depthAll (pyAll (xs.map enc)) ≤ Enc.dep α
  | [] => Nat.zero_le _
  | x :: xs => by
    rw [List.map_cons, pyAll, PyData.depthAll]
    exact Nat.max_le.mpr ⟨Enc.dle x, dle_map xs⟩
theorem hard_map (xs : List α) : hardAll (xs.map enc) = true := by
  rw [hardAll_eq, List.all_map, List.all_eq_true]
  exact fun x _ => Enc.hard x
theorem eqv_map : ∀ xs ys : List α, D.eqv (.tup (xs.map enc)) (.tup (ys.map enc)) = true ↔ xs = ys
  | [], [] => by simp [eqv_tnil]
  | [], y :: ys => by simp [eqv_tnc]
  | x :: xs, [] => by simp [eqv_tcn]
  | x :: xs, y :: ys => by
    rw [List.map_cons, List.map_cons, eqv_tcons, Bool.and_eq_true, Enc.eqv, eqv_map xs ys, List.cons.injEq]
instance : Enc Int where
  enc i := .int i
  dep := 0
  hard _ := rfl
  lay _ := rfl
  dle _ := Nat.le_refl _
  eqv a b := by rw [eqv_int, decide_eq_true_eq]
instance : Enc Nat where
  enc i := .int i
  dep := 0
  hard _ := rfl
  lay _ := rfl
  dle _ := Nat.le_refl _
  eqv a b := by rw [eqv_int, decide_eq_true_eq]; omega
instance : Enc Bool where
  enc i := .bl i
  dep := 0
  hard _ := rfl
  lay _ := rfl
  dle _ := Nat.le_refl _
  eqv a b := by rw [eqv_bl, beq_iff_eq]
instance : Enc (List α) where
  enc xs := .tup (xs.map enc)
  dep := Enc.dep α + 1
  hard xs := hard_map xs
  lay xs := lay_map xs
  dle xs := Nat.succ_le_succ (dle_map xs)
  eqv := eqv_map
instance : Enc (α × β) where
  enc p := .tup [enc p.1, enc p.2]
  dep := max (Enc.dep α) (Enc.dep β) + 1
  hard p := by simp [D.hard, hardAll, Enc.hard]
  lay p := by
    show PyData.canLayAll0 (pyAll [enc p.1, enc p.2]) = true
    simp [pyAll, PyData.canLayAll0, Enc.lay]
  dle p := by
    show PyData.depthAll (pyAll [enc p.1, enc p.2]) + 1 ≤ _
    refine Nat.succ_le_succ ?_
    simp only [pyAll, PyData.depthAll]
    have h1 := Enc.dle p.1
    have h2 := Enc.dle p.2
    omega
  eqv p q := by
    rw [eqv_tcons, eqv_tcons, eqv_tnil, Bool.and_true, Bool.and_eq_true, Enc.eqv, Enc.eqv]
    exact ⟨fun h => Prod.ext h.1 h.2, fun h => by rw [h]; exact ⟨rfl, rfl⟩⟩
theorem enc_int (i : Int) : enc i = .int i := rfl
theorem enc_nat (i : Nat) : enc i = .int i := rfl
theorem enc_bool (b : Bool) : enc b = .bl b := rfl
theorem enc_pair (p : α × β) : enc p = .tup [enc p.1, enc p.2] := rfl
theorem enc_list (xs : List α) : enc xs = .tup (xs.map enc) := rfl
theorem eqv_tup [DecidableEq α] (xs ys : List α) : D.eqv (.tup (xs.map enc)) (.tup (ys.map enc)) = decide (xs = ys) := by
  rw [Bool.eq_iff_iff, eqv_map, decide_eq_true_eq]
theorem inAny_map [DecidableEq α] (x : α) (xs : List α) : inAny (enc x) (xs.map enc) = decide (x ∈ xs) := by
  unfold inAny
  rw [List.any_map, Bool.eq_iff_iff, List.any_eq_true, decide_eq_true_eq]
  exact ⟨fun ⟨y, h1, h2⟩ => ((Enc.eqv y x).mp h2) ▸ h1, fun h => ⟨x, h, (Enc.eqv x x).mpr rfl⟩⟩
theorem keyAt_map [DecidableEq α] (x : α) : ∀ xs : List α, keyAt (enc x) (xs.map enc) = xs.findIdx? (· = x)
  | [] => rfl
  | y :: xs => by
    rw [List.map_cons, keyAt, List.findIdx?_cons, keyAt_map x xs]
    by_cases h : y = x
    · rw [if_pos ((Enc.eqv y x).mpr h)]; simp [h]
    · rw [if_neg (fun z => h ((Enc.eqv y x).mp z))]; simp [h]
theorem shp_lstE (xs : List α) (h : Enc.dep α + 1 ≤ 64) : (D.lst (xs.map enc)).shp = true := shp_of (lay_map xs) (Nat.le_trans (Nat.succ_le_succ (dle_map xs)) h)
theorem eqv_lst_nil (ds : List D) : D.eqv (.lst ds) (.lst []) = ds.isEmpty := by
  rw [eqv_lst]
  cases ds with
  | nil => rw [eqv_tnil]; rfl
  | cons d ds => rw [eqv_tcn]; rfl
theorem shp_lst_nil : (D.lst []).shp = true := rfl
theorem ln_enc (xs : List α) : lenOf (enc xs) = some xs.length := by rw [enc_list, ln_tup, List.length_map]
theorem i_enc {A : List D → Prop} (xs : List α) : iterS (enc xs) A = A (xs.map enc) := rfl
theorem sq_enc (xs : List α) : seqOf (enc xs) = some (xs.map enc) := rfl
theorem enc_hard (a : α) : (enc a).hard = true := Enc.hard a
theorem tr_enc {R : Bool → Prop} (xs : List α) : truW (enc xs) R = R (!xs.isEmpty) := by
  rw [enc_list, tr_tup]; cases xs <;> rfl
theorem ty_enc_tuple (xs : List α) : (enc xs).isTy (.bt "tuple") = true := by rw [enc_list, ty_tup_tuple]
theorem ty_enc_list (xs : List α) : (enc xs).isTy (.bt "list") = false := by rw [enc_list, ty_tup_list]
theorem ty_enc_int (xs : List α) : (enc xs).isTy (.bt "int") = false := by rw [enc_list, ty_tup_int]
theorem ty_enc_bool (xs : List α) : (enc xs).isTy (.bt "bool") = false := by rw [enc_list, ty_tup_bool]
theorem tyd_enc (xs : List α) : (enc xs).tyd = true := rfl
theorem isn_enc (xs : List α) : (enc xs).isNon = false := rfl
theorem zs_ee {β : Type} [Enc β] (xs : List α) (ys : List β) (P : List D → Prop) : zipS (enc xs) (enc ys) P = P (zipT (xs.map enc) (ys.map enc)) := zs_tt _ _ P
theorem b_enc {Q : DK} (xs ys : List α) : binSem .Add (enc xs) (enc ys) Q = (xs.length + ys.length ≤ lim ∧ Q (enc (xs ++ ys))) := by
  rw [enc_list, enc_list, b_addT, enc_list, List.map_append, List.length_map, List.length_map]
theorem x_enc {Q : DK} {xs : List α} {k : Nat} (h : k < xs.length) : idxSem (enc xs) (.int k) Q = Q (enc xs[k]) := x_tupM h
theorem x_encP0 {β : Type} [Enc β] {Q : DK} (p : α × β) : idxSem (enc p) (.int 0) Q = Q (enc p.1) := x_pair0 _ _
theorem x_encP1 {β : Type} [Enc β] {Q : DK} (p : α × β) : idxSem (enc p) (.int 1) Q = Q (enc p.2) := x_pair1 _ _
theorem x_last {Q : DK} {xs : List α} (h : xs ≠ []) : idxSem (enc xs) (.int (-1)) Q = Q (enc (xs.getLast h)) := by
  have hl : 0 < xs.length := List.length_pos_iff.mpr h
  rw [enc_list, x_tup]
  have e : ixAt (xs.map enc).length (-1) = some (xs.length - 1) := by
    rw [List.length_map]
    exact ix_neg (k := 1) (by omega) hl
  rw [e]
  have hg : xs[xs.length - 1]? = some xs[xs.length - 1] := List.getElem?_eq_getElem (by omega)
  simp [List.getLast_eq_getElem, hg]
end
theorem keyAt_any (k : D) : ∀ ks : List D, keyAt k ks = none ↔ (ks.any fun x => D.eqv x k) = false
  | [] => by simp [keyAt]
  | x :: ks => by
    rw [keyAt, List.any_cons]
    by_cases h : D.eqv x k = true
    · simp [h]
    · rw [if_neg h, Option.map_eq_none_iff, keyAt_any k ks]
      simp [h]
theorem putKey_new {k v : D} {ks vs : List D} (h : keyAt k ks = none) : putKey k v ks vs = (ks ++ [k], vs ++ [v]) := by
  unfold putKey
  rw [if_neg (by rw [(keyAt_any k ks).mp h]; exact Bool.false_ne_true)]
def optD {α : Type} [Enc α] : Option α → D
  | none => .non
  | some a => enc a
theorem b_snoc {Q : DK} (xs : List Nat) (l : Nat) : binSem .Add (enc xs) (.tup [.int l]) Q = (xs.length + 1 ≤ lim ∧ Q (enc (xs ++ [l]))) := by
  rw [enc_list, b_addT, enc_list, List.map_append, List.length_map]
  rfl
theorem rngOk_nat {n : Nat} (h : n ≤ 1000000) : rngOk 0 n := ⟨by decide, by decide, by omega, by omega⟩
theorem hard_nats (xs : List Nat) : hardAll (xs.map fun (k : Nat) => D.int k) = true := hard_map xs
theorem hard_ints (xs : List Int) : hardAll (xs.map D.int) = true := hard_map xs
theorem tup_nats (xs : List Nat) : D.tup (xs.map fun (k : Nat) => D.int k) = enc xs := rfl
theorem shp_int (i : Int) : (D.int i).shp = true := rfl
theorem shp_non : D.non.shp = true := rfl
theorem shp_bl (b : Bool) : (D.bl b).shp = true := rfl
theorem lcF_eq (g : TG) (vs : List Nat) (S1 : List Sl) (t elt : WT) (d : D) (K : Option D → Prop) : lcF g vs S1 t elt d K = tgW g d (wip vs S1) fun S2 => t.t S2 (fun b _ => if b = true then elt.v S2 (fun y _ => K (some y)) noX else K none) noX := rfl
theorem bools_map {α : Type} (f : α → Bool) : ∀ xs : List α, boolsOf (xs.map fun x => .bl (f x)) = some (xs.map f)
  | [] => rfl
  | x :: xs => by rw [List.map_cons, boolsOf, bools_map f xs]; rfl
theorem ints_map {α : Type} (f : α → Int) : ∀ xs : List α, intsOf (xs.map fun x => .int (f x)) = some (xs.map f)
  | [] => rfl
  | x :: xs => by rw [List.map_cons, intsOf, ints_map f xs]; rfl
theorem zipT_map {α β : Type} (f : α → D) (g : β → D) : ∀ (xs : List α) (ys : List β), zipT (xs.map f) (ys.map g) = (xs.zip ys).map fun p => .tup [f p.1, g p.2]
  | [], _ => by simp [zipT]
  | _ :: _, [] => by simp [zipT]
  | x :: xs, y :: ys => by simp [zipT, zipT_map f g xs ys]
theorem enum_map {α : Type} (f : α → D) : ∀ (xs : List α) (n : Nat), enumFrom n (xs.map f) = (xs.zipIdx n).map fun p => .tup [.int p.2, f p.1]
  | [], _ => rfl
  | x :: xs, n => by simp [enumFrom, enum_map f xs (n + 1)]
theorem len_map' {α : Type} (f : α → D) (xs : List α) : (xs.map f).length = xs.length := List.length_map f
end Mi
set_option maxHeartbeats 1000000
namespace Pk
open PySem Mi
open Mi.Enc (enc)
local macro_rules | `(tactic| walk_at "ws") => `(tactic| simp only [↓gS_va, ↓gS_ow, ↓gS_lk, ↓gS_s, ↓gO_ow, ↓gO_s, ↓f1_va, ↓f1_ow, ↓f1_lk, ↓f1_hn, ↓f1_sc, ↓f1_un, ↓f1_s, ↓f1_nil, ↓frz_nil, ↓frz_cons, ↓wip_nil, ↓wip_cons, ↓thaw_t, ↓thaw_f, ↓set_z, ↓set_s, ↓lock_n, ↓zs_tt, ↓zs_ll, ↓st_lst, ↓st_dct, ↓noHn_nil, ↓noHn_cons, ↓nhn_va, ↓nhn_ow, ↓nhn_lk, ↓nhn_un, ↓nhn_sc, ↓w_var, ↓w_con, ↓w_glo, ↓w_op, ↓w_bm, ↓w_chn, ↓w_and, ↓w_or, ↓w_not, ↓w_ife, ↓w_isi, ↓w_call, ↓w_callh, ↓w_meth, ↓w_eqo, ↓w_lz, ↓w_ds1, ↓w_ss, ↓w_make, ↓w_slc, ↓w_nop, ↓w_lc, ↓w_dsp, ↓w_pop, ↓w_popAt, ↓w_anil, ↓w_acons, ↓w_itS, ↓w_itX, ↓w_itR, ↓w_itE, ↓w_itZ, ↓t_and, ↓t_or, ↓t_not, ↓t_var, ↓t_con, ↓t_op, ↓t_chn, ↓t_isi, ↓t_call, ↓t_callh, ↓t_meth, ↓t_eqo, ↓hn_ex, ↓tr_bl, ↓tr_int, ↓tr_non, ↓tr_tup, ↓tr_lst, ↓o_bin, ↓o_cmp, ↓o_neg, ↓o_tup, ↓o_lst, ↓o_idx, ↓o_fld, ↓o_blt, ↓b_add, ↓b_addT, ↓b_addL, ↓b_addS, ↓b_sub, ↓b_mul, ↓b_mulT, ↓b_mulL, ↓b_div, ↓b_mod, ↓b_pow, ↓c_eq, ↓c_ne, ↓c_lt, ↓c_le, ↓c_gt, ↓c_ge, ↓c_is, ↓c_isn, ↓c_isB, ↓c_isnB, ↓isBl_t, ↓isBl_f, ↓c_inL, ↓c_inT, ↓c_inD, ↓c_niL, ↓c_niT, ↓c_niD, ↓x_dct, ↓fl_ins, ↓bl_len, ↓bl_all, ↓bl_any, ↓bl_sum, ↓bl_tupL, ↓bl_tupT, ↓bl_lstR, ↓bl_lstL, ↓bl_lstT, ↓bl_int, ↓bl_intB, ↓bl_abs, ↓bl_min2, ↓bl_max2, ↓bl_dict, ↓bl_rng, ↓bl_srt, ↓ln_lst, ↓ln_tup, ↓ln_dct, ↓sq_lst, ↓sq_tup, ↓m_get2, ↓m_get1, ↓m_ix, ↓h_get2, ↓h_get1, ↓h_ix, ↓i_lst, ↓i_tup, ↓i_rng, ↓r_one, ↓r_two, ↓g_nm, ↓g_tp, ↓g_nil, ↓g_cons, ↓gl_nil, ↓gl_cons, ↓ty_non_int, ↓ty_non_bool, ↓ty_non_tuple, ↓ty_non_list, ↓ty_non_str, ↓ty_non_dict, ↓tyd_non, ↓ty_non_own, ↓isn_non, ↓con_non, ↓ty_bl_int, ↓ty_bl_bool, ↓ty_bl_tuple, ↓ty_bl_list, ↓ty_bl_str, ↓ty_bl_dict, ↓tyd_bl, ↓ty_bl_own, ↓isn_bl, ↓con_bl, ↓ty_int_int, ↓ty_int_bool, ↓ty_int_tuple, ↓ty_int_list, ↓ty_int_str, ↓ty_int_dict, ↓tyd_int, ↓ty_int_own, ↓isn_int, ↓con_int, ↓ty_str_int, ↓ty_str_bool, ↓ty_str_tuple, ↓ty_str_list, ↓ty_str_str, ↓ty_str_dict, ↓tyd_str, ↓ty_str_own, ↓isn_str, ↓con_str, ↓ty_tup_int, ↓ty_tup_bool, ↓ty_tup_tuple, ↓ty_tup_list, ↓ty_tup_str, ↓ty_tup_dict, ↓tyd_tup, ↓ty_tup_own, ↓isn_tup, ↓con_tup, ↓ty_lst_int, ↓ty_lst_bool, ↓ty_lst_tuple, ↓ty_lst_list, ↓ty_lst_str, ↓ty_lst_dict, ↓tyd_lst, ↓ty_lst_own, ↓isn_lst, ↓con_lst, ↓ty_dct_int, ↓ty_dct_bool, ↓ty_dct_tuple, ↓ty_dct_list, ↓ty_dct_str, ↓ty_dct_dict, ↓tyd_dct, ↓ty_dct_own, ↓isn_dct, ↓con_dct, ↓ty_ins_int, ↓ty_ins_bool, ↓ty_ins_tuple, ↓ty_ins_list, ↓ty_ins_str, ↓ty_ins_dict, ↓tyd_ins, ↓ty_ins_own, ↓isn_ins, ↓con_ins, ↓hin_lst, ↓hin_dct, ↓fla_non, ↓fla_bl, ↓fla_int, ↓fla_str, ↓key_int, ↓key_str, ↓po_nop, ↓po_var, ↓po_con, ↓po_op, ↓sl_tup, ↓sl_lst, ↓s_nil, ↓s_seq, ↓s_asg, ↓s_par, ↓s_aug, ↓s_exp, ↓s_app, ↓s_ext, ↓s_sti, ↓s_ret, ↓s_retn, ↓s_ifs, ↓s_wh, ↓s_rs, ↓s_pas, ↓s_con, ↓s_brk, ↓s_nev, ↓s_mkh, ↓s_frX, ↓s_frS, ↓s_frR, ↓s_frE, ↓s_frZ, ↓p_nil, ↓p_cons, ↓ps_nil, ↓ps_cons, ↓po_nil, ↓po_cons, ↓pv_nil, ↓pv_cons, ↓ok_t, ↓ok_f, ↓mk_t, ↓mk_f, ↓sef_nil, ↓sef_cons, hard_ints, hard_map, hard_nats, Int.reduceToNat, eqv_lst_nil, shp_lst_nil, x_encP0, x_encP1,  ↓List.forall_mem_map,  List.isEmpty_map, Int.reduceLT, Int.reduceLE, ln_enc, i_enc, sq_enc, enc_hard, tr_enc, ty_enc_tuple, ty_enc_list, ty_enc_int, ty_enc_bool, tyd_enc, isn_enc, b_enc, eqv_int, eqv_bl, eqv_str, eqv_nn, eqv_tn, eqv_nt, eqv_in, eqv_ni, eqv_sn, eqv_ns, x_pair0, x_pair1, shp_int, shp_non, shp_bl, lcF_eq, enc_int, enc_nat, enc_bool, decide_eq_true_eq, Bool.not_eq_true', decide_eq_false_iff_not, Bool.not_not, ite_not, List.length_map, Option.some.injEq, exists_eq_left', exists_eq_left, exists_eq_right, exists_eq_right', and_true, true_and, true_implies, List.length_cons, List.length_nil, if_true, if_false, ite_true, ite_false, Bool.false_eq_true, reduceCtorEq, false_implies, List.cons_append, List.nil_append, vars, gvars, D.hard, hardAll, Bool.and_true, Bool.true_and, Bool.not_true, Bool.not_false, List.any_cons, List.any_nil, List.all_cons, List.all_nil, Bool.or_false, Bool.or_true, Bool.false_or, Bool.true_or, Bool.and_false, Bool.false_and, beq_self_eq_true, itSlot, List.getElem?_cons_succ, List.getElem?_cons_zero, D.bl.injEq, fldAt, exists_const, false_or, or_false, false_and, and_false, exists_false, Int.sub_zero, Int.toNat_natCast, Int.zero_add, zs_tt, zs_ll, zs_ee, st_lst, st_dct, exists_eq', D.lst.injEq, D.int.injEq, Option.isNone_none, Option.isNone_some, List.set_cons_zero, b_snoc, Nat.reduceAdd, Nat.reduceLeDiff, Nat.reduceSub, enQ])
def FW (sp : FSpec) (b : MS) (n : Nat) : Prop := ∀ (hd : Option (Nat × Nat)) (ds : List D) (Q : DK) (E : XP), hd.isSome = sp.hd → ds.length = sp.ar → sp.spec ds Q E → WS b (enQ (hst hd) Q E) (slots0 hd ds n)
theorem FW.of {sp : FSpec} {b : MS} {n : Nat} (h0 : sp.hd = false) (h : ∀ (ds : List D) (Q : DK) (E : XP), sp.spec ds Q E → WS b (enQ (fun _ => True) Q E) (ds.map Sl.va ++ List.replicate n .un)) : FW sp b n := by
  intro hd ds Q E e1 e2 hs
  rw [h0] at e1
  cases hd with
  | some _ => cases e1
  | none => exact h ds Q E hs
theorem FW.hd {sp : FSpec} {b : MS} {n : Nat} (h0 : sp.hd = true) (h : ∀ (a c : Nat) (ds : List D) (Q : DK) (E : XP), sp.spec ds Q E → WS b (enQ (fun S => S[0]? = some (.hn a c)) Q E) (.hn a c :: (ds.map Sl.va ++ List.replicate n .un))) : FW sp b n := by
  intro hd ds Q E e1 e2 hs
  rw [h0] at e1
  cases hd with
  | none => cases e1
  | some ac => exact h ac.1 ac.2 ds Q E hs
def isI : D → Bool
  | .int _ => true
  | _ => false
def within (a b : Int) : D → Bool
  | .int i => decide (a ≤ i ∧ i ≤ b)
  | _ => false
mutual
def thg : D → Bool
  | .non => true
  | .bl _ => true
  | .int _ => true
  | .str _ => true
  | .tup ds => decide (ds.length ≤ 1000) && thgs ds
  | .lst ds => decide (ds.length ≤ 1000) && thgs ds
  | .dct ks vs => decide (ks.length ≤ 1000) && (thgs ks && thgs vs)
  | _ => false
def thgs : List D → Bool
  | [] => true
  | d :: ds => thg d && thgs ds
end
theorem thgs_all : ∀ ds : List D, thgs ds = ds.all thg
  | [] => rfl
  | d :: ds => by rw [thgs, thgs_all ds]; rfl
theorem tyd_of {d : D} (h : thg d = true) : d.tyd = true := by cases d <;> first | rfl | simp [thg] at h
def s_is_int : FSpec := ⟨"is_int", "", 1, 1, false, fun ds Q _ => ∃ d : D, ds = [d] ∧ d.tyd = true ∧ Q (.bl (isI d))⟩
theorem a_is_int : s_is_int.ar = 1 := rfl
theorem c_is_int (d : D) (Q : DK) (E : XP) : s_is_int.spec [d] Q E = (d.tyd = true ∧ Q (.bl (isI d))) := by simp [s_is_int]
def n_is_int : List Str := ["thing"]
def p_is_int : List Str := ["thing"]
def b_is_int : MS := (.seq (.ret (.and (.isi [.bt "int"] (.var 0)) (.not (.isi [.bt "bool"] (.var 0))))) .nil)
theorem w_is_int : FW s_is_int b_is_int 0 := .of rfl fun _ Q E ⟨d, e, h, q⟩ => by
  subst e
  unfold b_is_int
  simp only [List.map_cons, List.map_nil, List.replicate, List.append_nil]
  walk_at "ws"
  cases d <;> first | (walk_at "ws"; exact q) | (cases h; done)
def s_is_within : FSpec := ⟨"is_within", "", 2, 3, false, fun ds Q _ => ∃ (d : D) (a b : Int), ds = [d, .int a, .int b] ∧ d.tyd = true ∧ Q (.bl (within a b d))⟩
theorem a_is_within : s_is_within.ar = 3 := rfl
theorem c_is_within (d : D) (a b : Int) (Q : DK) (E : XP) : s_is_within.spec [d, .int a, .int b] Q E = (d.tyd = true ∧ Q (.bl (within a b d))) := by
  refine propext ⟨?_, fun h => ⟨d, a, b, rfl, h⟩⟩
  rintro ⟨d', a', b', e, h⟩
  cases e
  exact h
def n_is_within : List Str := ["thing", "low", "high"]
def p_is_within : List Str := ["thing", "low", "high"]
def b_is_within : MS := (.seq (.ret (.and (.call s_is_int (.acons (.var 0) .anil)) (.chn .LtE .LtE (.var 1) (.var 0) (.var 2)))) .nil)
theorem w_is_within : FW s_is_within b_is_within 0 := .of rfl fun _ Q E ⟨d, a, b, e, h, q⟩ => by
  subst e
  unfold b_is_within
  simp only [List.map_cons, List.map_nil, List.replicate, List.append_nil]
  walk_at "ws"
  simp only [a_is_int, c_is_int]
  walk_at "ws"
  refine ⟨h, ?_⟩
  cases d <;> first | (simpa [isI, within] using q) | skip
  rename_i i _
  simp only [isI]
  walk_at "ws"
  by_cases h1 : a ≤ i <;> by_cases h2 : i ≤ b <;> simpa [within, h1, h2] using q
abbrev Row := List Int × List Int
abbrev Rows := List Row
def okP (g : Int) (ns : List Int) : Prop := (ns.length : Int) = g ∧ ∀ n ∈ ns, 1 ≤ n ∧ n ≤ 1000000
def okU (g : Int) (ns : List Int) : Prop := (ns.length : Int) = g ∧ ∀ n ∈ ns, 0 ≤ n ∧ n ≤ 1000000
structure OkR (g : Int) (rs : Rows) : Prop where
  lo : 1 ≤ g
  hi : g ≤ 6
  len : rs.length ≤ 20
  rows : ∀ r ∈ rs, okP g r.1 ∧ okU g r.2
def recD (g : Int) (rs : Rows) : D := .ins "Record" ["goods", "rows"] [.int g, enc rs]
theorem recD_inj {g g' : Int} {rs rs' : Rows} : recD g rs = recD g' rs' ↔ g = g' ∧ rs = rs' := by
  constructor
  · intro h
    have h1 : [D.int g, enc rs] = [D.int g', enc rs'] := by unfold recD at h; injection h
    injection h1 with h2 h3
    injection h3 with h3 _
    injection h2 with h2
    exact ⟨h2, enc_inj.mp h3⟩
  · rintro ⟨rfl, rfl⟩
    rfl
def s_check_goods : FSpec := ⟨"check_goods", "", 3, 1, false, fun ds Q _ => ∃ g : Int, ds = [.int g] ∧ (1 ≤ g ∧ g ≤ 6) ∧ Q .non⟩
theorem a_check_goods : s_check_goods.ar = 1 := rfl
theorem c_check_goods (g : Int) (Q : DK) (E : XP) : s_check_goods.spec [.int g] Q E = ((1 ≤ g ∧ g ≤ 6) ∧ Q .non) := by simp [s_check_goods]
def n_check_goods : List Str := ["goods"]
def p_check_goods : List Str := ["goods"]
def b_check_goods : MS := (.seq (.ifs (.not (.call s_is_within (.acons (.var 0) (.acons (.con (.int 1)) (.acons (.glo "MOST_GOODS" (.int 6)) .anil))))) (.seq .nev .nil) .nil) .nil)
theorem w_check_goods : FW s_check_goods b_check_goods 0 := .of rfl fun _ Q E ⟨g, e, h, q⟩ => by
  subst e
  unfold b_check_goods
  simp only [List.map_cons, List.map_nil, List.replicate, List.append_nil]
  walk_at "ws"
  simp only [a_is_within, c_is_within, within, decide_eq_true h]
  walk_at "ws"
  exact q
/-- is_prices, is_bundle of a thing -/
def partsB (lo : Int) (g : Int) : D → Bool
  | .tup ds => decide ((ds.length : Int) = g) && ds.all (within lo 1000000)
  | _ => false
def s_is_prices : FSpec := ⟨"is_prices", "", 3, 2, false, fun ds Q _ => ∃ (g : Int) (d : D), ds = [.int g, d] ∧ (g ≤ 1000 ∧ thg d = true) ∧ Q (.bl (partsB 1 g d))⟩
def s_is_bundle : FSpec := ⟨"is_bundle", "", 3, 2, false, fun ds Q _ => ∃ (g : Int) (d : D), ds = [.int g, d] ∧ (g ≤ 1000 ∧ thg d = true) ∧ Q (.bl (partsB 0 g d))⟩
theorem a_is_prices : s_is_prices.ar = 2 := rfl
theorem a_is_bundle : s_is_bundle.ar = 2 := rfl
theorem c_is_prices (g : Int) (d : D) (Q : DK) (E : XP) : s_is_prices.spec [.int g, d] Q E = ((g ≤ 1000 ∧ thg d = true) ∧ Q (.bl (partsB 1 g d))) := by
  refine propext ⟨?_, fun h => ⟨g, d, rfl, h⟩⟩
  rintro ⟨g', d', e, h⟩
  cases e
  exact h
theorem c_is_bundle (g : Int) (d : D) (Q : DK) (E : XP) : s_is_bundle.spec [.int g, d] Q E = ((g ≤ 1000 ∧ thg d = true) ∧ Q (.bl (partsB 0 g d))) := by
  refine propext ⟨?_, fun h => ⟨g, d, rfl, h⟩⟩
  rintro ⟨g', d', e, h⟩
  cases e
  exact h
def n_is_prices : List Str := ["goods", "thing", "part"]
def p_is_prices : List Str := ["goods", "thing"]
def b_is_prices : MS := (.seq (.ifs (.or (.not (.isi [.bt "tuple"] (.var 1))) (.op (.cmp .NotEq) (.acons (.op (.blt .len) (.acons (.var 1) .anil)) (.acons (.var 0) .anil)))) (.seq (.ret (.con (.bl false))) .nil) .nil) (.seq (.ret (.op (.blt .all) (.acons (.lc [2] (.call s_is_within (.acons (.var 2) (.acons (.con (.int 1)) (.acons (.glo "MOST_PRICE" (.int 1000000)) .anil)))) (.nm 2) (.itX 1) (.con (.bl true))) .anil))) .nil))
def n_is_bundle : List Str := ["goods", "thing", "part"]
def p_is_bundle : List Str := ["goods", "thing"]
def b_is_bundle : MS := (.seq (.ifs (.or (.not (.isi [.bt "tuple"] (.var 1))) (.op (.cmp .NotEq) (.acons (.op (.blt .len) (.acons (.var 1) .anil)) (.acons (.var 0) .anil)))) (.seq (.ret (.con (.bl false))) .nil) .nil) (.seq (.ret (.op (.blt .all) (.acons (.lc [2] (.call s_is_within (.acons (.var 2) (.acons (.con (.int 0)) (.acons (.glo "MOST_UNITS" (.int 1000000)) .anil)))) (.nm 2) (.itX 1) (.con (.bl true))) .anil))) .nil))
theorem bools_of {f : D → Bool} {g : D → D} (h : ∀ d, g d = .bl (f d)) : ∀ ds : List D, boolsOf (ds.map g) = some (ds.map f)
  | [] => rfl
  | d :: ds => by rw [List.map_cons, h, boolsOf, bools_of h ds]; rfl
theorem thg_tup {ds : List D} (h : thg (.tup ds) = true) : ds.length ≤ 1000 ∧ ∀ d ∈ ds, thg d = true := by
  simp only [thg, thgs_all, Bool.and_eq_true, decide_eq_true_eq, List.all_eq_true] at h
  exact h
theorem thg_lst {ds : List D} (h : thg (.lst ds) = true) : ds.length ≤ 1000 ∧ ∀ d ∈ ds, thg d = true := by
  simp only [thg, thgs_all, Bool.and_eq_true, decide_eq_true_eq, List.all_eq_true] at h
  exact h
theorem le_lim {n : Nat} (h : n ≤ 1000) : n ≤ lim := Nat.le_trans h (by decide)
theorem all_id {α : Type} (f : α → Bool) (xs : List α) : (xs.map f).all id = xs.all f := by
  rw [List.all_map]; rfl
theorem w_is_prices : FW s_is_prices b_is_prices 1 := .of rfl fun _ Q E ⟨g, d, e, ⟨hg, h⟩, q⟩ => by
  subst e
  unfold b_is_prices
  simp only [List.map_cons, List.map_nil, List.replicate, List.append_nil]
  walk_at "ws"
  refine ⟨tyd_of h, ?_⟩
  cases d <;> first | (walk_at "ws"; simpa [partsB] using q) | (simp [thg] at h; done) | skip
  rename_i ds _
  obtain ⟨h1, h2⟩ := thg_tup h
  walk_at "ws"
  refine ⟨le_lim h1, ?_⟩
  by_cases hl : (ds.length : Int) = g
  · rw [if_pos hl]
    refine ⟨le_lim h1, lcGo_map (fun d => .bl (within 1 1000000 d)) (fun d hd K k => ?_) ?_⟩
    · walk_at "ws"
      simp only [a_is_within, c_is_within]
      walk_at "ws"
      exact ⟨tyd_of (h2 d hd), k⟩
    · refine ⟨_, bools_of (fun _ => rfl) ds, ?_⟩
      rw [all_id]
      simpa [partsB, hl] using q
  · rw [if_neg hl]
    simpa [partsB, hl] using q
theorem w_is_bundle : FW s_is_bundle b_is_bundle 1 := .of rfl fun _ Q E ⟨g, d, e, ⟨hg, h⟩, q⟩ => by
  subst e
  unfold b_is_bundle
  simp only [List.map_cons, List.map_nil, List.replicate, List.append_nil]
  walk_at "ws"
  refine ⟨tyd_of h, ?_⟩
  cases d <;> first | (walk_at "ws"; simpa [partsB] using q) | (simp [thg] at h; done) | skip
  rename_i ds _
  obtain ⟨h1, h2⟩ := thg_tup h
  walk_at "ws"
  refine ⟨le_lim h1, ?_⟩
  by_cases hl : (ds.length : Int) = g
  · rw [if_pos hl]
    refine ⟨le_lim h1, lcGo_map (fun d => .bl (within 0 1000000 d)) (fun d hd K k => ?_) ?_⟩
    · walk_at "ws"
      simp only [a_is_within, c_is_within]
      walk_at "ws"
      exact ⟨tyd_of (h2 d hd), k⟩
    · refine ⟨_, bools_of (fun _ => rfl) ds, ?_⟩
      rw [all_id]
      simpa [partsB, hl] using q
  · rw [if_neg hl]
    simpa [partsB, hl] using q
def isRowB (g : Int) : D → Bool
  | .tup [a, b] => partsB 1 g a && partsB 0 g b
  | _ => false
def s_is_row : FSpec := ⟨"is_row", "", 4, 2, false, fun ds Q _ => ∃ (g : Int) (d : D), ds = [.int g, d] ∧ (g ≤ 1000 ∧ thg d = true) ∧ Q (.bl (isRowB g d))⟩
theorem a_is_row : s_is_row.ar = 2 := rfl
theorem c_is_row (g : Int) (d : D) (Q : DK) (E : XP) : s_is_row.spec [.int g, d] Q E = ((g ≤ 1000 ∧ thg d = true) ∧ Q (.bl (isRowB g d))) := by
  refine propext ⟨?_, fun h => ⟨g, d, rfl, h⟩⟩
  rintro ⟨g', d', e, h⟩
  cases e
  exact h
def n_is_row : List Str := ["goods", "thing"]
def p_is_row : List Str := ["goods", "thing"]
def b_is_row : MS := (.seq (.ifs (.or (.not (.isi [.bt "tuple"] (.var 1))) (.op (.cmp .NotEq) (.acons (.op (.blt .len) (.acons (.var 1) .anil)) (.acons (.con (.int 2)) .anil)))) (.seq (.ret (.con (.bl false))) .nil) .nil) (.seq (.ret (.and (.call s_is_prices (.acons (.var 0) (.acons (.op .idx (.acons (.var 1) (.acons (.con (.int 0)) .anil))) .anil))) (.call s_is_bundle (.acons (.var 0) (.acons (.op .idx (.acons (.var 1) (.acons (.con (.int 1)) .anil))) .anil))))) .nil))
theorem w_is_row : FW s_is_row b_is_row 0 := .of rfl fun _ Q E ⟨g, d, e, ⟨hg, h⟩, q⟩ => by
  subst e
  unfold b_is_row
  simp only [List.map_cons, List.map_nil, List.replicate, List.append_nil]
  walk_at "ws"
  refine ⟨tyd_of h, ?_⟩
  cases d <;> first | (walk_at "ws"; simpa [isRowB] using q) | (simp [thg] at h; done) | skip
  rename_i ds _
  obtain ⟨h1, h2⟩ := thg_tup h
  walk_at "ws"
  refine ⟨le_lim h1, ?_⟩
  match ds, h1, h2, q with
  | [], _, _, q => simpa [isRowB] using q
  | [a], _, _, q => simpa [isRowB] using q
  | a :: b :: c :: ds, _, _, q =>
    rw [if_neg (by simp only [List.length_cons]; omega)]
    simpa [isRowB] using q
  | [a, b], _, h2, q =>
    have ha := h2 a (by simp)
    have hb := h2 b (by simp)
    rw [if_pos (by simp)]
    simp only [a_is_prices, c_is_prices, a_is_bundle, c_is_bundle]
    walk_at "ws"
    refine ⟨⟨hg, ha⟩, ?_⟩
    have q' : Q (.bl (partsB 1 g a && partsB 0 g b)) := q
    cases z : partsB 1 g a with
    | true =>
      rw [z, Bool.true_and] at q'
      walk_at "ws"
      exact ⟨⟨hg, hb⟩, q'⟩
    | false =>
      rw [z, Bool.false_and] at q'
      walk_at "ws"
      exact q'
theorem thgs_map {α : Type} (f : α → D) (xs : List α) (h : ∀ x ∈ xs, thg (f x) = true) : thgs (xs.map f) = true := by
  rw [thgs_all, List.all_map, List.all_eq_true]
  exact h
theorem thg_ints {ns : List Int} (h : ns.length ≤ 1000) : thg (enc ns) = true := by
  rw [enc_list]
  simp only [thg, List.length_map, decide_eq_true h, Bool.true_and]
  exact thgs_map _ _ fun _ _ => rfl
theorem thg_row {r : Row} (h1 : r.1.length ≤ 1000) (h2 : r.2.length ≤ 1000) : thg (enc r) = true := by
  rw [enc_pair]
  simp [thg, thgs, thg_ints h1, thg_ints h2]
theorem parts_ok {lo g : Int} {ns : List Int} (h : (ns.length : Int) = g) (h2 : ∀ n ∈ ns, lo ≤ n ∧ n ≤ 1000000) : partsB lo g (enc ns) = true := by
  rw [enc_list]
  simp only [partsB, List.length_map, decide_eq_true h, Bool.true_and, List.all_map, List.all_eq_true]
  intro n hn
  simpa [within, enc_int] using h2 n hn
theorem row_ok {g : Int} {rs : Rows} (h : OkR g rs) {r : Row} (hr : r ∈ rs) : isRowB g (enc r) = true := by
  obtain ⟨h1, h2⟩ := h.rows r hr
  rw [enc_pair]
  simp only [isRowB, parts_ok h1.1 h1.2, parts_ok h2.1 h2.2, Bool.and_self]
theorem OkR.thg {g : Int} {rs : Rows} (h : OkR g rs) {r : Row} (hr : r ∈ rs) : thg (enc r) = true := by
  obtain ⟨h1, h2⟩ := h.rows r hr
  have := h.hi
  exact thg_row (by have := h1.1; omega) (by have := h2.1; omega)
def m_Record : CSpec := ⟨"Record", 5, 2, ["goods", "rows"], fun ds Q _ => ∃ (g : Int) (rs : Rows), ds = [.int g, enc rs] ∧ OkR g rs ∧ Q [.int g, enc rs]⟩
theorem a_m_Record : m_Record.ar = 2 := rfl
theorem fs_m_Record : m_Record.fs = (["goods", "rows"] : List Str) := rfl
theorem n_m_Record : m_Record.name = "Record" := rfl
theorem c_m_Record (g : Int) (rs : Rows) (Q : List D → Prop) (E : XP) : m_Record.spec [.int g, enc rs] Q E = (OkR g rs ∧ Q [.int g, enc rs]) := by
  refine propext ⟨?_, fun h => ⟨g, rs, rfl, h⟩⟩
  rintro ⟨g', rs', e, h⟩
  simp only [List.cons.injEq, D.int.injEq, and_true] at e
  obtain ⟨e1, e2⟩ := e
  have e3 := enc_inj.mp e2
  subst e1 e3
  exact h
def FI (sp : CSpec) (m : MS) (l : List (Str × ME)) (n : Nat) : Prop := ∀ (x : Nat) (ds : List D) (Q : List D → Prop) (E : XP), ds.length = sp.ar → sp.spec ds Q E →
      WS m { nx := fun S => S[0]? = some (.sc x []) ∧ sefW l S Q (fun y _ => E y), rt := fun _ _ => False, ex := fun y _ => E y } (.sc x [] :: (ds.map Sl.va ++ List.replicate n .un))
def n_Record___init__ : List Str := ["self", "goods", "rows", "at", "row"]
def p_Record___init__ : List Str := ["self", "goods", "rows"]
def b_Record___init__ : MS := (.seq (.exp (.call s_check_goods (.acons (.var 1) .anil))) (.seq (.ifs (.or (.not (.isi [.bt "tuple"] (.var 2))) (.op (.cmp .Gt) (.acons (.op (.blt .len) (.acons (.var 2) .anil)) (.acons (.glo "MOST_ROWS" (.int 20)) .anil)))) (.seq .nev .nil) .nil) (.seq (.fr (.tp (.gcons (.nm 3) (.gcons (.nm 4) .gnil))) (.itE (.var 2)) (.seq (.ifs (.not (.call s_is_row (.acons (.var 1) (.acons (.var 4) .anil)))) (.seq .nev .nil) .nil) .nil)) .nil)))
def f_Record___init__ : List (Str × ME) := [("goods", (.var 1)), ("rows", (.var 2))]
theorem w_Record___init__ : FI m_Record b_Record___init__ f_Record___init__ 2 := fun x _ Q E _ ⟨g, rs, e, h, q⟩ => by
  subst e
  unfold b_Record___init__ f_Record___init__
  simp only [List.map_cons, List.map_nil, List.replicate, List.cons_append, List.nil_append]
  walk_at "ws"
  simp only [a_check_goods, c_check_goods]
  walk_at "ws"
  refine ⟨⟨h.lo, h.hi⟩, ?_⟩
  have hl := h.len
  refine ⟨Nat.le_trans hl (by decide), ?_⟩
  rw [if_neg (by omega)]
  rw [enum_map]
  refine frGo_inv (fun rest S => ∃ (a b : Sl) (post : List (Row × Nat)), S = [.sc x [], .va (.int g), .va (enc rs), a, b] ∧ rest = post.map (fun p : Row × Nat => D.tup [.int p.2, enc p.1]) ∧ ∀ p ∈ post, p.1 ∈ rs) ?_ ?_ ⟨.un, .un, _, rfl, rfl, fun p hp => ?_⟩
  · rintro d ds S N ⟨a, b, post, rfl, e, hp⟩ k
    match post, e, hp with
    | p :: post, e, hp =>
      simp only [List.map_cons, List.cons.injEq] at e
      obtain ⟨rfl, rfl⟩ := e
      walk_at "ws"
      simp only [a_is_row, c_is_row]
      walk_at "ws"
      have hr := hp p (by simp)
      refine ⟨⟨by have := h.hi; omega, h.thg hr⟩, ?_⟩
      rw [row_ok h hr]
      walk_at "ws"
      exact k _ ⟨_, _, post, rfl, rfl, fun p' hp' => hp p' (List.mem_cons_of_mem _ hp')⟩
  · rintro S ⟨a, b, post, rfl, e, hp⟩
    walk_at "ws"
    exact q
  · exact (List.mem_zipIdx hp).2.2 ▸ List.getElem_mem _
end Pk
set_option maxHeartbeats 1000000
namespace Pk
open PySem Mi
open Mi.Enc (enc)
theorem recD_tyd (g : Int) (rs : Rows) : (recD g rs).tyd = true := rfl
theorem recD_own (g : Int) (rs : Rows) : (recD g rs).isTy (.own "Record") = true := by simp [recD, D.isTy]
theorem recD_goods (g : Int) (rs : Rows) (Q : DK) : fldSem "goods" (recD g rs) Q = Q (.int g) := by simp [recD, fldSem, fldAt]
theorem recD_rows (g : Int) (rs : Rows) (Q : DK) : fldSem "rows" (recD g rs) Q = Q (enc rs) := by
  have e : (("rows" : Str) = "goods") = False := by decide
  simp [recD, fldSem, fldAt, e]
theorem recD_hard (g : Int) (rs : Rows) : (recD g rs).hard = false := rfl
local macro_rules | `(tactic| walk_at "wk") => `(tactic| simp only [recD_tyd, recD_own, recD_goods, recD_rows, recD_hard, a_is_within, c_is_within, a_check_goods, c_check_goods, ↓gS_va, ↓gS_ow, ↓gS_lk, ↓gS_s, ↓gO_ow, ↓gO_s, ↓f1_va, ↓f1_ow, ↓f1_lk, ↓f1_hn, ↓f1_sc, ↓f1_un, ↓f1_s, ↓f1_nil, ↓frz_nil, ↓frz_cons, ↓wip_nil, ↓wip_cons, ↓thaw_t, ↓thaw_f, ↓set_z, ↓set_s, ↓lock_n, ↓zs_tt, ↓zs_ll, ↓st_lst, ↓st_dct, ↓noHn_nil, ↓noHn_cons, ↓nhn_va, ↓nhn_ow, ↓nhn_lk, ↓nhn_un, ↓nhn_sc, ↓w_var, ↓w_con, ↓w_glo, ↓w_op, ↓w_bm, ↓w_chn, ↓w_and, ↓w_or, ↓w_not, ↓w_ife, ↓w_isi, ↓w_call, ↓w_callh, ↓w_meth, ↓w_eqo, ↓w_lz, ↓w_ds1, ↓w_ss, ↓w_make, ↓w_slc, ↓w_nop, ↓w_lc, ↓w_dsp, ↓w_pop, ↓w_popAt, ↓w_anil, ↓w_acons, ↓w_itS, ↓w_itX, ↓w_itR, ↓w_itE, ↓w_itZ, ↓t_and, ↓t_or, ↓t_not, ↓t_var, ↓t_con, ↓t_op, ↓t_chn, ↓t_isi, ↓t_call, ↓t_callh, ↓t_meth, ↓t_eqo, ↓hn_ex, ↓tr_bl, ↓tr_int, ↓tr_non, ↓tr_tup, ↓tr_lst, ↓o_bin, ↓o_cmp, ↓o_neg, ↓o_tup, ↓o_lst, ↓o_idx, ↓o_fld, ↓o_blt, ↓b_add, ↓b_addT, ↓b_addL, ↓b_addS, ↓b_sub, ↓b_mul, ↓b_mulT, ↓b_mulL, ↓b_div, ↓b_mod, ↓b_pow, ↓c_eq, ↓c_ne, ↓c_lt, ↓c_le, ↓c_gt, ↓c_ge, ↓c_is, ↓c_isn, ↓c_isB, ↓c_isnB, ↓isBl_t, ↓isBl_f, ↓c_inL, ↓c_inT, ↓c_inD, ↓c_niL, ↓c_niT, ↓c_niD, ↓x_dct, ↓fl_ins, ↓bl_len, ↓bl_all, ↓bl_any, ↓bl_sum, ↓bl_tupL, ↓bl_tupT, ↓bl_lstR, ↓bl_lstL, ↓bl_lstT, ↓bl_int, ↓bl_intB, ↓bl_abs, ↓bl_min2, ↓bl_max2, ↓bl_dict, ↓bl_rng, ↓bl_srt, ↓ln_lst, ↓ln_tup, ↓ln_dct, ↓sq_lst, ↓sq_tup, ↓m_get2, ↓m_get1, ↓m_ix, ↓h_get2, ↓h_get1, ↓h_ix, ↓i_lst, ↓i_tup, ↓i_rng, ↓r_one, ↓r_two, ↓g_nm, ↓g_tp, ↓g_nil, ↓g_cons, ↓gl_nil, ↓gl_cons, ↓ty_non_int, ↓ty_non_bool, ↓ty_non_tuple, ↓ty_non_list, ↓ty_non_str, ↓ty_non_dict, ↓tyd_non, ↓ty_non_own, ↓isn_non, ↓con_non, ↓ty_bl_int, ↓ty_bl_bool, ↓ty_bl_tuple, ↓ty_bl_list, ↓ty_bl_str, ↓ty_bl_dict, ↓tyd_bl, ↓ty_bl_own, ↓isn_bl, ↓con_bl, ↓ty_int_int, ↓ty_int_bool, ↓ty_int_tuple, ↓ty_int_list, ↓ty_int_str, ↓ty_int_dict, ↓tyd_int, ↓ty_int_own, ↓isn_int, ↓con_int, ↓ty_str_int, ↓ty_str_bool, ↓ty_str_tuple, ↓ty_str_list, ↓ty_str_str, ↓ty_str_dict, ↓tyd_str, ↓ty_str_own, ↓isn_str, ↓con_str, ↓ty_tup_int, ↓ty_tup_bool, ↓ty_tup_tuple, ↓ty_tup_list, ↓ty_tup_str, ↓ty_tup_dict, ↓tyd_tup, ↓ty_tup_own, ↓isn_tup, ↓con_tup, ↓ty_lst_int, ↓ty_lst_bool, ↓ty_lst_tuple, ↓ty_lst_list, ↓ty_lst_str, ↓ty_lst_dict, ↓tyd_lst, ↓ty_lst_own, ↓isn_lst, ↓con_lst, ↓ty_dct_int, ↓ty_dct_bool, ↓ty_dct_tuple, ↓ty_dct_list, ↓ty_dct_str, ↓ty_dct_dict, ↓tyd_dct, ↓ty_dct_own, ↓isn_dct, ↓con_dct, ↓ty_ins_int, ↓ty_ins_bool, ↓ty_ins_tuple, ↓ty_ins_list, ↓ty_ins_str, ↓ty_ins_dict, ↓tyd_ins, ↓ty_ins_own, ↓isn_ins, ↓con_ins, ↓hin_lst, ↓hin_dct, ↓fla_non, ↓fla_bl, ↓fla_int, ↓fla_str, ↓key_int, ↓key_str, ↓po_nop, ↓po_var, ↓po_con, ↓po_op, ↓sl_tup, ↓sl_lst, ↓s_nil, ↓s_seq, ↓s_asg, ↓s_par, ↓s_aug, ↓s_exp, ↓s_app, ↓s_ext, ↓s_sti, ↓s_ret, ↓s_retn, ↓s_ifs, ↓s_wh, ↓s_rs, ↓s_pas, ↓s_con, ↓s_brk, ↓s_nev, ↓s_mkh, ↓s_frX, ↓s_frS, ↓s_frR, ↓s_frE, ↓s_frZ, ↓p_nil, ↓p_cons, ↓ps_nil, ↓ps_cons, ↓po_nil, ↓po_cons, ↓pv_nil, ↓pv_cons, ↓ok_t, ↓ok_f, ↓mk_t, ↓mk_f, ↓sef_nil, ↓sef_cons, hard_ints, hard_map, hard_nats, Int.reduceToNat, eqv_lst_nil, shp_lst_nil, x_encP0, x_encP1,  ↓List.forall_mem_map,  List.isEmpty_map, Int.reduceLT, Int.reduceLE, ln_enc, i_enc, sq_enc, enc_hard, tr_enc, ty_enc_tuple, ty_enc_list, ty_enc_int, ty_enc_bool, tyd_enc, isn_enc, b_enc, eqv_int, eqv_bl, eqv_str, eqv_nn, eqv_tn, eqv_nt, eqv_in, eqv_ni, eqv_sn, eqv_ns, x_pair0, x_pair1, shp_int, shp_non, shp_bl, lcF_eq, enc_int, enc_nat, enc_bool, decide_eq_true_eq, Bool.not_eq_true', decide_eq_false_iff_not, Bool.not_not, ite_not, List.length_map, Option.some.injEq, exists_eq_left', exists_eq_left, exists_eq_right, exists_eq_right', and_true, true_and, true_implies, List.length_cons, List.length_nil, if_true, if_false, ite_true, ite_false, Bool.false_eq_true, reduceCtorEq, false_implies, List.cons_append, List.nil_append, vars, gvars, D.hard, hardAll, Bool.and_true, Bool.true_and, Bool.not_true, Bool.not_false, List.any_cons, List.any_nil, List.all_cons, List.all_nil, Bool.or_false, Bool.or_true, Bool.false_or, Bool.true_or, Bool.and_false, Bool.false_and, beq_self_eq_true, itSlot, List.getElem?_cons_succ, List.getElem?_cons_zero, D.bl.injEq, fldAt, exists_const, false_or, or_false, false_and, and_false, exists_false, Int.sub_zero, Int.toNat_natCast, Int.zero_add, zs_tt, zs_ll, zs_ee, st_lst, st_dct, exists_eq', D.lst.injEq, D.int.injEq, Option.isNone_none, Option.isNone_some, List.set_cons_zero, b_snoc, Nat.reduceAdd, Nat.reduceLeDiff, Nat.reduceSub, enQ])
def s_Record___eq__ : FSpec := ⟨"__eq__", "Record", 1, 2, false, fun ds Q _ => ∃ (g g' : Int) (rs rs' : Rows), ds = [recD g rs, recD g' rs'] ∧ Q (.bl (decide (g = g' ∧ rs = rs')))⟩
theorem a_Record___eq__ : s_Record___eq__.ar = 2 := rfl
theorem c_Record___eq__ (g g' : Int) (rs rs' : Rows) (Q : DK) (E : XP) : s_Record___eq__.spec [recD g rs, recD g' rs'] Q E = Q (.bl (decide (g = g' ∧ rs = rs'))) := by
  refine propext ⟨?_, fun h => ⟨g, g', rs, rs', rfl, h⟩⟩
  rintro ⟨g1, g2, r1, r2, e, h⟩
  simp only [List.cons.injEq, recD_inj, and_true] at e
  obtain ⟨⟨rfl, rfl⟩, rfl, rfl⟩ := e
  exact h
def n_Record___eq__ : List Str := ["self", "other"]
def p_Record___eq__ : List Str := ["self", "other"]
def b_Record___eq__ : MS := (.seq (.ifs (.not (.isi [.own "Record"] (.var 1))) (.seq (.ret (.con (.bl false))) .nil) .nil) (.seq (.ret (.op (.cmp .Eq) (.acons (.op .tup (.acons (.op (.fld "goods") (.acons (.var 0) .anil)) (.acons (.op (.fld "rows") (.acons (.var 0) .anil)) .anil))) (.acons (.op .tup (.acons (.op (.fld "goods") (.acons (.var 1) .anil)) (.acons (.op (.fld "rows") (.acons (.var 1) .anil)) .anil))) .anil)))) .nil))
theorem w_Record___eq__ : FW s_Record___eq__ b_Record___eq__ 0 := .of rfl fun _ Q E ⟨g, g', rs, rs', e, q⟩ => by
  subst e
  unfold b_Record___eq__
  simp only [List.map_cons, List.map_nil, List.replicate, List.append_nil]
  walk_at "wk"
  have e1 : ∀ (g : Int) (rs : Rows), D.tup [.int g, enc rs] = enc (g, rs) := fun _ _ => rfl
  rw [e1, e1]
  refine ⟨enc_shp _ (by decide), enc_shp _ (by decide), ?_⟩
  rw [enc_eqv]
  simpa [Prod.ext_iff] using q
def s_check_record : FSpec := ⟨"check_record", "", 1, 1, false, fun ds Q _ => ∃ (g : Int) (rs : Rows), ds = [recD g rs] ∧ Q .non⟩
theorem a_check_record : s_check_record.ar = 1 := rfl
theorem c_check_record (g : Int) (rs : Rows) (Q : DK) (E : XP) : s_check_record.spec [recD g rs] Q E = Q .non := by
  refine propext ⟨?_, fun h => ⟨g, rs, rfl, h⟩⟩
  rintro ⟨g', rs', e, h⟩
  exact h
def n_check_record : List Str := ["thing"]
def p_check_record : List Str := ["thing"]
def b_check_record : MS := (.seq (.ifs (.not (.isi [.own "Record"] (.var 0))) (.seq .nev .nil) .nil) .nil)
theorem w_check_record : FW s_check_record b_check_record 0 := .of rfl fun _ Q E ⟨g, rs, e, q⟩ => by
  subst e
  unfold b_check_record
  simp only [List.map_cons, List.map_nil, List.replicate, List.append_nil]
  walk_at "wk"
  exact q
/-- a def of a record and places -/
def sp1 (r : Int → Rows → Nat → D) : List D → DK → XP → Prop := fun ds Q _ => ∃ (g : Int) (rs : Rows) (i : Nat), ds = [recD g rs, .int i] ∧ (OkR g rs ∧ i < rs.length) ∧ Q (r g rs i)
def sp2 (r : Int → Rows → Nat → Nat → D) : List D → DK → XP → Prop := fun ds Q _ => ∃ (g : Int) (rs : Rows) (i j : Nat), ds = [recD g rs, .int i, .int j] ∧ (OkR g rs ∧ i < rs.length ∧ j < rs.length) ∧ Q (r g rs i j)
theorem c_sp1 (r : Int → Rows → Nat → D) (g : Int) (rs : Rows) (i : Nat) (Q : DK) (E : XP) : sp1 r [recD g rs, .int i] Q E = ((OkR g rs ∧ i < rs.length) ∧ Q (r g rs i)) := by
  refine propext ⟨?_, fun h => ⟨g, rs, i, rfl, h⟩⟩
  rintro ⟨g', rs', i', e, h⟩
  simp only [List.cons.injEq, recD_inj, D.int.injEq, Int.natCast_inj, and_true] at e
  obtain ⟨⟨rfl, rfl⟩, rfl⟩ := e
  exact h
theorem c_sp2 (r : Int → Rows → Nat → Nat → D) (g : Int) (rs : Rows) (i j : Nat) (Q : DK) (E : XP) : sp2 r [recD g rs, .int i, .int j] Q E = ((OkR g rs ∧ i < rs.length ∧ j < rs.length) ∧ Q (r g rs i j)) := by
  refine propext ⟨?_, fun h => ⟨g, rs, i, j, rfl, h⟩⟩
  rintro ⟨g', rs', i', j', e, h⟩
  simp only [List.cons.injEq, recD_inj, D.int.injEq, Int.natCast_inj, and_true] at e
  obtain ⟨⟨rfl, rfl⟩, rfl, rfl⟩ := e
  exact h
def s_check_choice : FSpec := ⟨"check_choice", "", 3, 2, false, sp1 fun _ _ _ => .non⟩
theorem a_check_choice : s_check_choice.ar = 2 := rfl
theorem c_check_choice (g : Int) (rs : Rows) (i : Nat) (Q : DK) (E : XP) : s_check_choice.spec [recD g rs, .int i] Q E = ((OkR g rs ∧ i < rs.length) ∧ Q .non) := c_sp1 _ g rs i Q E
def n_check_choice : List Str := ["record", "thing"]
def p_check_choice : List Str := ["record", "thing"]
def b_check_choice : MS := (.seq (.ifs (.not (.call s_is_within (.acons (.var 1) (.acons (.con (.int 0)) (.acons (.op (.bin .Sub) (.acons (.op (.blt .len) (.acons (.op (.fld "rows") (.acons (.var 0) .anil)) .anil)) (.acons (.con (.int 1)) .anil))) .anil))))) (.seq .nev .nil) .nil) .nil)
theorem w_check_choice : FW s_check_choice b_check_choice 0 := .of rfl fun _ Q E ⟨g, rs, i, e, ⟨h, hi⟩, q⟩ => by
  subst e
  unfold b_check_choice
  simp only [List.map_cons, List.map_nil, List.replicate, List.append_nil]
  walk_at "wk"
  refine ⟨Nat.le_trans h.len (by decide), ?_⟩
  rw [if_neg]
  · exact q
  · simp only [within, decide_eq_false_iff_not]
    omega
def s_check_two : FSpec := ⟨"check_two", "", 4, 3, false, sp2 fun _ _ _ _ => .non⟩
theorem a_check_two : s_check_two.ar = 3 := rfl
theorem c_check_two (g : Int) (rs : Rows) (i j : Nat) (Q : DK) (E : XP) : s_check_two.spec [recD g rs, .int i, .int j] Q E = ((OkR g rs ∧ i < rs.length ∧ j < rs.length) ∧ Q .non) := c_sp2 _ g rs i j Q E
def n_check_two : List Str := ["record", "i", "j"]
def p_check_two : List Str := ["record", "i", "j"]
def b_check_two : MS := (.seq (.exp (.call s_check_record (.acons (.var 0) .anil))) (.seq (.exp (.call s_check_choice (.acons (.var 0) (.acons (.var 1) .anil)))) (.seq (.exp (.call s_check_choice (.acons (.var 0) (.acons (.var 2) .anil)))) .nil)))
theorem w_check_two : FW s_check_two b_check_two 0 := .of rfl fun _ Q E ⟨g, rs, i, j, e, ⟨h, hi, hj⟩, q⟩ => by
  subst e
  unfold b_check_two
  simp only [List.map_cons, List.map_nil, List.replicate, List.append_nil]
  walk_at "wk"
  simp only [a_check_record, c_check_record, a_check_choice, c_check_choice]
  walk_at "wk"
  exact ⟨⟨h, hi⟩, ⟨h, hj⟩, q⟩
def dot (a b : List Int) : Int := (List.zipWith (· * ·) a b).sum
def rowAt (rs : Rows) (i : Nat) : Row := rs.getD i ([], [])
theorem rowAt_mem {rs : Rows} {i : Nat} (h : i < rs.length) : rowAt rs i ∈ rs := by
  unfold rowAt
  rw [List.getD_eq_getElem?_getD, List.getElem?_eq_getElem h]
  exact List.getElem_mem h
theorem x_row {rs : Rows} {i : Nat} (h : i < rs.length) (Q : DK) : idxSem (enc rs) (.int i) Q = Q (.tup [enc (rowAt rs i).1, enc (rowAt rs i).2]) := by
  rw [x_enc h]
  have e : rs[i] = rowAt rs i := by
    unfold rowAt
    rw [List.getD_eq_getElem?_getD, List.getElem?_eq_getElem h]
    rfl
  rw [e, enc_pair]
def cost (rs : Rows) (i j : Nat) : Int := dot (rowAt rs i).1 (rowAt rs j).2
def s_worth_at : FSpec := ⟨"worth_at", "", 1, 2, false, fun ds Q _ => ∃ (a b : List Int), ds = [enc a, enc b] ∧ (a.length ≤ 1000 ∧ ∀ x ∈ a, -1000000000000000000 ≤ x ∧ x ≤ 1000000000000000000) ∧ Q (.int (dot a b))⟩
theorem a_worth_at : s_worth_at.ar = 2 := rfl
theorem c_worth_at (a b : List Int) (Q : DK) (E : XP) : s_worth_at.spec [enc a, enc b] Q E = ((a.length ≤ 1000 ∧ ∀ x ∈ a, -1000000000000000000 ≤ x ∧ x ≤ 1000000000000000000) ∧ Q (.int (dot a b))) := by
  refine propext ⟨?_, fun h => ⟨a, b, rfl, h⟩⟩
  rintro ⟨a', b', e, h⟩
  simp only [List.cons.injEq, enc_inj, and_true] at e
  obtain ⟨rfl, rfl⟩ := e
  exact h
def n_worth_at : List Str := ["prices", "bundle", "price", "units"]
def p_worth_at : List Str := ["prices", "bundle"]
def b_worth_at : MS := (.seq (.ret (.op (.blt .sum) (.acons (.lc [2, 3] (.op (.bin .Mult) (.acons (.var 2) (.acons (.var 3) .anil))) (.tp (.gcons (.nm 2) (.gcons (.nm 3) .gnil))) (.itZ (.var 0) (.var 1)) (.con (.bl true))) .anil))) .nil)
theorem zip_mul : ∀ a b : List Int, ((a.zip b).map fun p => p.1 * p.2) = List.zipWith (· * ·) a b
  | [], _ => by simp
  | _ :: _, [] => by simp
  | x :: a, y :: b => by simp [zip_mul a b]
def prD : D → D
  | .tup [.int a, .int b] => .int (a * b)
  | _ => .non
theorem w_worth_at : FW s_worth_at b_worth_at 2 := .of rfl fun _ Q E ⟨a, b, e, ⟨h, h2⟩, q⟩ => by
  subst e
  unfold b_worth_at
  simp only [List.map_cons, List.map_nil, List.replicate, List.cons_append, List.nil_append]
  walk_at "wk"
  rw [zipT_map]
  refine ⟨?_, lcGo_map prD (fun d hd K k => ?_) ?_⟩
  · rw [List.length_map, List.length_zip]
    exact le_lim (Nat.le_trans (Nat.min_le_left _ _) h)
  · obtain ⟨p, hp, rfl⟩ := List.mem_map.mp hd
    walk_at "wk"
    have := h2 p.1 (List.of_mem_zip hp).1
    exact ⟨.inl (by omega), k⟩
  · refine ⟨(a.zip b).map fun p => p.1 * p.2, ?_, ?_⟩
    · rw [List.map_map]
      exact ints_map (fun p : Int × Int => p.1 * p.2) _
    · rw [zip_mul]; exact q
def s_cost_of : FSpec := ⟨"cost_of", "", 2, 3, false, sp2 fun _ rs i j => .int (cost rs i j)⟩
theorem a_cost_of : s_cost_of.ar = 3 := rfl
theorem c_cost_of (g : Int) (rs : Rows) (i j : Nat) (Q : DK) (E : XP) : s_cost_of.spec [recD g rs, .int i, .int j] Q E = ((OkR g rs ∧ i < rs.length ∧ j < rs.length) ∧ Q (.int (cost rs i j))) := c_sp2 _ g rs i j Q E
def n_cost_of : List Str := ["record", "i", "j"]
def p_cost_of : List Str := ["record", "i", "j"]
def b_cost_of : MS := (.seq (.ret (.call s_worth_at (.acons (.op .idx (.acons (.op .idx (.acons (.op (.fld "rows") (.acons (.var 0) .anil)) (.acons (.var 1) .anil))) (.acons (.con (.int 0)) .anil))) (.acons (.op .idx (.acons (.op .idx (.acons (.op (.fld "rows") (.acons (.var 0) .anil)) (.acons (.var 2) .anil))) (.acons (.con (.int 1)) .anil))) .anil)))) .nil)
theorem w_cost_of : FW s_cost_of b_cost_of 0 := .of rfl fun _ Q E ⟨g, rs, i, j, e, ⟨h, hi, hj⟩, q⟩ => by
  subst e
  unfold b_cost_of
  simp only [List.map_cons, List.map_nil, List.replicate, List.append_nil]
  walk_at "wk"
  rw [x_row hi]
  walk_at "wk"
  rw [x_row hj]
  walk_at "wk"
  simp only [a_worth_at, c_worth_at]
  walk_at "wk"
  obtain ⟨⟨h1, h2⟩, _⟩ := h.rows _ (rowAt_mem hi)
  refine ⟨⟨by have := h.hi; omega, fun x hx => ?_⟩, q⟩
  have := h2 x hx
  omega
def wordD (rs : Rows) (i j : Nat) : D := if cost rs i j > cost rs i i then .non else if cost rs i j < cost rs i i then .str "better" else .str "so"
def s_word_of : FSpec := ⟨"word_of", "", 3, 3, false, sp2 fun _ rs i j => wordD rs i j⟩
theorem a_word_of : s_word_of.ar = 3 := rfl
theorem c_word_of (g : Int) (rs : Rows) (i j : Nat) (Q : DK) (E : XP) : s_word_of.spec [recD g rs, .int i, .int j] Q E = ((OkR g rs ∧ i < rs.length ∧ j < rs.length) ∧ Q (wordD rs i j)) := c_sp2 _ g rs i j Q E
def n_word_of : List Str := ["record", "i", "j", "other", "own"]
def p_word_of : List Str := ["record", "i", "j"]
def b_word_of : MS := (.seq (.par [(3, false, (.call s_cost_of (.acons (.var 0) (.acons (.var 1) (.acons (.var 2) .anil))))), (4, false, (.call s_cost_of (.acons (.var 0) (.acons (.var 1) (.acons (.var 1) .anil)))))]) (.seq (.ifs (.op (.cmp .Gt) (.acons (.var 3) (.acons (.var 4) .anil))) (.seq (.ret (.con .non)) .nil) .nil) (.seq (.ret (.ife (.op (.cmp .Lt) (.acons (.var 3) (.acons (.var 4) .anil))) (.glo "BETTER" (.str "better")) (.glo "SO" (.str "so")))) .nil)))
theorem w_word_of : FW s_word_of b_word_of 2 := .of rfl fun _ Q E ⟨g, rs, i, j, e, ⟨h, hi, hj⟩, q⟩ => by
  subst e
  unfold b_word_of
  simp only [List.map_cons, List.map_nil, List.replicate, List.cons_append, List.nil_append]
  walk_at "wk"
  simp only [a_cost_of, c_cost_of]
  walk_at "wk"
  refine ⟨⟨h, hi, hj⟩, ⟨h, hi, hi⟩, ?_⟩
  unfold wordD at q
  by_cases h1 : cost rs i i < cost rs i j
  · simpa [h1] using q
  · by_cases h2 : cost rs i j < cost rs i i <;> simpa [h1, h2] using q
def s_shows : FSpec := ⟨"shows", "", 5, 3, false, sp2 fun _ rs i j => wordD rs i j⟩
theorem a_shows : s_shows.ar = 3 := rfl
theorem c_shows (g : Int) (rs : Rows) (i j : Nat) (Q : DK) (E : XP) : s_shows.spec [recD g rs, .int i, .int j] Q E = ((OkR g rs ∧ i < rs.length ∧ j < rs.length) ∧ Q (wordD rs i j)) := c_sp2 _ g rs i j Q E
def n_shows : List Str := ["record", "i", "j"]
def p_shows : List Str := ["record", "i", "j"]
def b_shows : MS := (.seq (.exp (.call s_check_two (.acons (.var 0) (.acons (.var 1) (.acons (.var 2) .anil))))) (.seq (.ret (.call s_word_of (.acons (.var 0) (.acons (.var 1) (.acons (.var 2) .anil))))) .nil))
theorem w_shows : FW s_shows b_shows 0 := .of rfl fun _ Q E ⟨g, rs, i, j, e, ⟨h, hi, hj⟩, q⟩ => by
  subst e
  unfold b_shows
  simp only [List.map_cons, List.map_nil, List.replicate, List.append_nil]
  walk_at "wk"
  simp only [a_check_two, c_check_two, a_word_of, c_word_of]
  walk_at "wk"
  exact ⟨⟨h, hi, hj⟩, ⟨h, hi, hj⟩, q⟩
end Pk
namespace Bf
theorem nodup_le : ∀ (n : Nat) (l : List Nat), l.Nodup → (∀ x ∈ l, x < n) → l.length ≤ n
  | 0, l, _, h => by
    cases l with
    | nil => exact Nat.le_refl 0
    | cons a l => exact absurd (h a List.mem_cons_self) (Nat.not_lt_zero _)
  | n + 1, l, nd, h => by
    by_cases hm : n ∈ l
    · have h1 := nodup_le n (l.erase n) (nd.erase n) fun x hx => by
        have h2 := (nd.mem_erase_iff).mp hx
        have h3 := h x h2.2
        have h4 := h2.1
        omega
      have := List.length_erase_of_mem hm
      omega
    · have h1 := nodup_le n l nd fun x hx => by
        have h3 := h x hx
        have h4 : x ≠ n := fun z => hm (z ▸ hx)
        omega
      omega
def lastOf (r : List Nat) : Nat := r.getLastD 0
theorem lastOf_app (r : List Nat) (l : Nat) : lastOf (r ++ [l]) = l := by simp [lastOf]
theorem lastOf_one (l : Nat) : lastOf [l] = l := rfl
def addOne (row : List Nat) (app : List (List Nat)) (l : Nat) : List (List Nat) := if l ∈ app.map lastOf then app else app ++ [row ++ [l]]
def turnB (nb : Nat → List Nat) (row : List Nat) (app : List (List Nat)) : List (List Nat) := (nb (lastOf row)).foldl (addOne row) app
def stB (nb : Nat → List Nat) (i : Nat) : Nat → List (List Nat)
  | 0 => []
  | k + 1 => match ([i] :: stB nb i k)[k]? with
    | some row => turnB nb row (stB nb i k)
    | none => stB nb i k
def finB (nb : Nat → List Nat) (n i : Nat) : List (List Nat) := stB nb i (n + 1)
def wayB (nb : Nat → List Nat) (n i j : Nat) : Option (List Nat) := (finB nb n i).find? fun r => lastOf r == j
section
variable {nb : Nat → List Nat} {i n : Nat}
theorem add_pre (row : List Nat) (app : List (List Nat)) (l : Nat) : app <+: addOne row app l := by
  unfold addOne
  split
  · exact List.prefix_refl _
  · exact List.prefix_append _ _
theorem fold_pre (row : List Nat) : ∀ (ls : List Nat) (app : List (List Nat)), app <+: ls.foldl (addOne row) app
  | [], app => List.prefix_refl _
  | l :: ls, app => (add_pre row app l).trans (fold_pre row ls _)
theorem st_succ (k : Nat) : stB nb i k <+: stB nb i (k + 1) := by
  show _ <+: (match ([i] :: stB nb i k)[k]? with
    | some row => turnB nb row (stB nb i k)
    | none => stB nb i k)
  split
  · exact fold_pre _ _ _
  · exact List.prefix_refl _
theorem st_pre {k m : Nat} (h : k ≤ m) : stB nb i k <+: stB nb i m := by
  induction m with
  | zero =>
    have : k = 0 := by omega
    subst this
    exact List.prefix_refl _
  | succ m ih =>
    by_cases e : k = m + 1
    · subst e; exact List.prefix_refl _
    · exact (ih (by omega)).trans (st_succ m)
/-- what holds of all rows -/
theorem add_all {P : List Nat → Prop} {row : List Nat} {app : List (List Nat)} {l : Nat} (h : ∀ r ∈ app, P r) (hl : P (row ++ [l])) : ∀ r ∈ addOne row app l, P r := by
  intro r hr
  unfold addOne at hr
  split at hr
  · exact h r hr
  · rcases List.mem_append.mp hr with z | z
    · exact h r z
    · rw [List.mem_singleton.mp z]; exact hl
theorem fold_all {P : List Nat → Prop} {row : List Nat} : ∀ (ls : List Nat) (app : List (List Nat)), (∀ r ∈ app, P r) → (∀ l ∈ ls, P (row ++ [l])) → ∀ r ∈ ls.foldl (addOne row) app, P r
  | [], app, h, _ => h
  | l :: ls, app, h, hl => fold_all ls _ (add_all h (hl l List.mem_cons_self)) fun x hx => hl x (List.mem_cons_of_mem _ hx)
theorem st_all {P : List Nat → Prop} (h : ∀ row, (row = [i] ∨ P row) → ∀ l ∈ nb (lastOf row), P (row ++ [l])) : ∀ k, ∀ r ∈ stB nb i k, P r
  | 0 => fun r hr => by cases hr
  | k + 1 => by
    show ∀ r ∈ (match ([i] :: stB nb i k)[k]? with
      | some row => turnB nb row (stB nb i k)
      | none => stB nb i k), P r
    split
    · rename_i row e
      refine fold_all _ _ (st_all h k) (h row ?_)
      rcases List.mem_cons.mp (List.mem_of_getElem? e) with z | z
      · exact .inl z
      · exact .inr (st_all h k row z)
    · exact st_all h k
theorem add_nodup {row : List Nat} {app : List (List Nat)} {l : Nat} (h : (app.map lastOf).Nodup) : ((addOne row app l).map lastOf).Nodup := by
  unfold addOne
  split
  · exact h
  · rename_i hn
    rw [List.map_append, List.map_cons, List.map_nil, lastOf_app, List.nodup_append]
    refine ⟨h, by simp, fun a ha b hb e => hn ?_⟩
    rw [← List.mem_singleton.mp hb, ← e]
    exact ha
theorem fold_nodup {row : List Nat} : ∀ (ls : List Nat) (app : List (List Nat)), (app.map lastOf).Nodup → ((ls.foldl (addOne row) app).map lastOf).Nodup
  | [], _, h => h
  | l :: ls, _, h => fold_nodup ls _ (add_nodup h)
theorem st_nodup : ∀ k, ((stB nb i k).map lastOf).Nodup
  | 0 => List.nodup_nil
  | k + 1 => by
    show ((match ([i] :: stB nb i k)[k]? with
      | some row => turnB nb row (stB nb i k)
      | none => stB nb i k).map lastOf).Nodup
    split
    · exact fold_nodup _ _ (st_nodup k)
    · exact st_nodup k
theorem st_below (hn : ∀ a, ∀ l ∈ nb a, l < n) (k : Nat) : ∀ x ∈ (stB nb i k).map lastOf, x < n := by
  intro x hx
  obtain ⟨r, hr, rfl⟩ := List.mem_map.mp hx
  exact st_all (P := fun r => lastOf r < n) (fun row _ l hl => by rw [lastOf_app]; exact hn _ l hl) k r hr
theorem st_len (hn : ∀ a, ∀ l ∈ nb a, l < n) (k : Nat) : (stB nb i k).length ≤ n := by
  have := nodup_le n _ (st_nodup (nb := nb) (i := i) k) (st_below hn k)
  rwa [List.length_map] at this
theorem st_stop {k : Nat} (h : (stB nb i k).length + 1 ≤ k) : stB nb i (k + 1) = stB nb i k := by
  show (match ([i] :: stB nb i k)[k]? with
    | some row => turnB nb row (stB nb i k)
    | none => stB nb i k) = _
  rw [List.getElem?_eq_none (by rw [List.length_cons]; omega)]
theorem st_end {k m : Nat} (h : (stB nb i k).length + 1 ≤ k) (hm : k ≤ m) : stB nb i m = stB nb i k := by
  induction m with
  | zero =>
    have : k = 0 := by omega
    subst this
    rfl
  | succ m ih =>
    by_cases e : k = m + 1
    · subst e; rfl
    · have e2 := ih (by omega)
      rw [st_stop (by rw [e2]; omega), e2]
theorem fin_of {k : Nat} (hn : ∀ a, ∀ l ∈ nb a, l < n) (h : (stB nb i k).length + 1 ≤ k) : finB nb n i = stB nb i k := by
  by_cases e : k ≤ n + 1
  · exact st_end h e
  · exact (st_end (k := n + 1) (m := k) (by have := st_len (nb := nb) (i := i) hn (n + 1); omega) (by omega)).symm
theorem st_step {k : Nat} {row : List Nat} (h : ([i] :: stB nb i k)[k]? = some row) : stB nb i (k + 1) = turnB nb row (stB nb i k) := by
  show (match ([i] :: stB nb i k)[k]? with
    | some row => turnB nb row (stB nb i k)
    | none => stB nb i k) = _
  rw [h]
theorem fold_has (row : List Nat) : ∀ (ls : List Nat) (app : List (List Nat)), ∀ l ∈ ls, l ∈ (ls.foldl (addOne row) app).map lastOf
  | [], _, l, h => by cases h
  | x :: ls, app, l, h => by
    rcases List.mem_cons.mp h with e | h
    · subst e
      have h1 : l ∈ (addOne row app l).map lastOf := by
        unfold addOne
        split
        · assumption
        · rw [List.map_append, List.map_cons, List.map_nil, lastOf_app]
          exact List.mem_append_right _ (List.mem_singleton.mpr rfl)
      exact ((fold_pre row ls (addOne row app l)).map lastOf).subset h1
    · exact fold_has row ls _ l h
theorem st_rowlen : ∀ (k : Nat), ∀ r ∈ stB nb i k, r.length ≤ k + 1
  | 0, r, hr => by cases hr
  | k + 1, r, hr => by
    have ih := st_rowlen k
    cases e : ([i] :: stB nb i k)[k]? with
    | none =>
      have e2 : stB nb i (k + 1) = stB nb i k := by
        show (match ([i] :: stB nb i k)[k]? with
          | some row => turnB nb row (stB nb i k)
          | none => stB nb i k) = _
        rw [e]
      rw [e2] at hr
      have := ih r hr
      omega
    | some row =>
      rw [st_step e] at hr
      have hrow : row.length ≤ k + 1 := by
        rcases List.mem_cons.mp (List.mem_of_getElem? e) with z | z
        · rw [z]; simp
        · exact ih row z
      refine fold_all (P := fun r => r.length ≤ k + 1 + 1) _ _ (fun r hr => by have := ih r hr; omega) (fun l _ => by simp; omega) r hr
theorem fold_len (row : List Nat) : ∀ (ls : List Nat) (app : List (List Nat)), (ls.foldl (addOne row) app).length ≤ app.length + ls.length
  | [], app => Nat.le_refl _
  | l :: ls, app => by
    have h := fold_len row ls (addOne row app l)
    have h2 : (addOne row app l).length ≤ app.length + 1 := by
      unfold addOne
      split <;> simp
    simp only [List.foldl_cons, List.length_cons]
    omega
/-- the end is closed -/
theorem fin_closed (hn : ∀ a, ∀ l ∈ nb a, l < n) {r : List Nat} (h : r ∈ [i] :: finB nb n i) : ∀ l ∈ nb (lastOf r), l ∈ (finB nb n i).map lastOf := by
  intro l hl
  obtain ⟨k, hk⟩ := List.mem_iff_getElem?.mp h
  have len := st_len (nb := nb) (i := i) hn (n + 1)
  have hlt : k < ([i] :: finB nb n i).length := (List.getElem?_eq_some_iff.mp hk).1
  have hk1 : k ≤ n := by
    rw [List.length_cons] at hlt
    unfold finB at hlt
    omega
  by_cases hs : (stB nb i k).length + 1 ≤ k
  · exfalso
    have e := fin_of hn hs
    rw [e, List.length_cons] at hlt
    omega
  · have hk2 : ([i] :: stB nb i k)[k]? = some r := by
      have hp : ([i] :: stB nb i k) <+: ([i] :: finB nb n i) := by
        obtain ⟨t, ht⟩ := st_pre (nb := nb) (i := i) (show k ≤ n + 1 by omega)
        exact ⟨t, by show [i] :: stB nb i k ++ t = _; rw [List.cons_append, ht]; rfl⟩
      obtain ⟨t, ht⟩ := hp
      rw [← ht, List.getElem?_append_left (by rw [List.length_cons]; omega)] at hk
      exact hk
    have e := st_step hk2
    have h1 : l ∈ (stB nb i (k + 1)).map lastOf := by
      rw [e]
      exact fold_has r _ _ l hl
    exact ((st_pre (nb := nb) (i := i) (show k + 1 ≤ n + 1 by omega)).map lastOf).subset h1
/-- a row found early is the row found -/
theorem find_pre {l l' : List (List Nat)} {j : Nat} {r : List Nat} (h : l <+: l') (e : l.find? (fun r => lastOf r == j) = some r) : l'.find? (fun r => lastOf r == j) = some r := by
  obtain ⟨t, rfl⟩ := h
  rw [List.find?_append, e]
  rfl
end
end Bf
set_option maxHeartbeats 1000000
namespace Pk
open PySem Mi Bf
open Mi.Enc (enc)
/-- a word: better, so, not at all -/
def wd : Option Bool → D
  | none => .non
  | some true => .str "better"
  | some false => .str "so"
abbrev Tab := List (List (Option Bool))
structure Sq (t : Tab) : Prop where
  sq : ∀ r ∈ t, r.length = t.length
  le : t.length ≤ 1000
def tabD (t : Tab) : D := .lst (t.map fun r => .lst (r.map wd))
def shw (t : Tab) : D := .ins "Showing" ["words", "many"] [tabD t, .int t.length]
def tw (t : Tab) (i j : Nat) : Option Bool := (t.getD i []).getD j none
theorem wd_inj : ∀ {a b : Option Bool}, wd a = wd b → a = b
  | none, none, _ => rfl
  | none, some true, h => by cases h
  | none, some false, h => by cases h
  | some true, none, h => by cases h
  | some false, none, h => by cases h
  | some true, some true, _ => rfl
  | some false, some false, _ => rfl
  | some true, some false, h => by
    simp only [wd, D.str.injEq] at h
    exact absurd h (by decide)
  | some false, some true, h => by
    simp only [wd, D.str.injEq] at h
    exact absurd h (by decide)
theorem map_inj {α β : Type} {f : α → β} (h : ∀ a b, f a = f b → a = b) : ∀ {l m : List α}, l.map f = m.map f → l = m
  | [], [], _ => rfl
  | [], _ :: _, e => by simp at e
  | _ :: _, [], e => by simp at e
  | a :: l, b :: m, e => by
    simp only [List.map_cons, List.cons.injEq] at e
    rw [h a b e.1, map_inj h e.2]
theorem tabD_inj {t u : Tab} : tabD t = tabD u ↔ t = u := by
  refine ⟨fun h => ?_, fun h => by rw [h]⟩
  unfold tabD at h
  injection h with h
  exact map_inj (fun a b e => map_inj (fun _ _ => wd_inj) (by injection e)) h
theorem shw_inj {t u : Tab} : shw t = shw u ↔ t = u := by
  refine ⟨fun h => ?_, fun h => by rw [h]⟩
  unfold shw at h
  injection h with _ _ h
  injection h with h _
  exact tabD_inj.mp h
theorem shw_many (t : Tab) (Q : DK) : fldSem "many" (shw t) Q = Q (.int t.length) := by
  have e : (("many" : Str) = "words") = False := by decide
  simp [shw, fldSem, fldAt, e]
theorem shw_words (t : Tab) (Q : DK) : fldSem "words" (shw t) Q = Q (tabD t) := by simp [shw, fldSem, fldAt]
theorem shw_hard (t : Tab) : (shw t).hard = false := rfl
theorem x_tab {t : Tab} (h : Sq t) {i j : Nat} (hi : i < t.length) (hj : j < t.length) (Q : DK) : (idxSem (tabD t) (.int i) fun d => idxSem d (.int j) Q) = Q (wd (tw t i j)) := by
  unfold tabD
  rw [x_lstM hi]
  have hl := h.sq _ (List.getElem_mem hi)
  rw [x_lstM (by omega)]
  have e : tw t i j = (t[i])[j]'(by omega) := by
    unfold tw
    have e1 : t.getD i [] = t[i] := by rw [List.getD_eq_getElem?_getD, List.getElem?_eq_getElem hi]; rfl
    rw [e1, List.getD_eq_getElem?_getD, List.getElem?_eq_getElem (by omega)]
    rfl
  rw [e]
theorem isn_wd (o : Option Bool) : (wd o).isNon = o.isNone := by
  cases o with
  | none => rfl
  | some b => cases b <;> rfl
def nbT (t : Tab) (i : Nat) : List Nat := (List.range t.length).filter fun j => (tw t i j).isSome
theorem nbT_lt (t : Tab) (a : Nat) : ∀ l ∈ nbT t a, l < t.length := fun l hl => List.mem_range.mp (List.mem_filter.mp hl).1
def m_Showing : CSpec := ⟨"Showing", 1, 1, ["words", "many"], fun ds Q _ => ∃ t : Tab, ds = [tabD t] ∧ t.length ≤ 1000 ∧ Q [tabD t, .int t.length]⟩
theorem a_m_Showing : m_Showing.ar = 1 := rfl
theorem fs_m_Showing : m_Showing.fs = (["words", "many"] : List Str) := rfl
theorem n_m_Showing : m_Showing.name = "Showing" := rfl
theorem c_m_Showing (t : Tab) (Q : List D → Prop) (E : XP) : m_Showing.spec [tabD t] Q E = (t.length ≤ 1000 ∧ Q [tabD t, .int t.length]) := by
  refine propext ⟨?_, fun h => ⟨t, rfl, h⟩⟩
  rintro ⟨t', e, h⟩
  simp only [List.cons.injEq, tabD_inj, and_true] at e
  subst e
  exact h
def n_Showing___init__ : List Str := ["self", "words"]
def p_Showing___init__ : List Str := ["self", "words"]
def b_Showing___init__ : MS := .nil
def f_Showing___init__ : List (Str × ME) := [("words", (.var 1)), ("many", (.op (.blt .len) (.acons (.var 1) .anil)))]
local macro_rules | `(tactic| walk_at "wk") => `(tactic| simp only [recD_tyd, recD_own, recD_goods, recD_rows, recD_hard, a_is_within, c_is_within, a_check_goods, c_check_goods, shw_many, shw_words, shw_hard, a_check_two, c_check_two, a_word_of, c_word_of, ↓gS_va, ↓gS_ow, ↓gS_lk, ↓gS_s, ↓gO_ow, ↓gO_s, ↓f1_va, ↓f1_ow, ↓f1_lk, ↓f1_hn, ↓f1_sc, ↓f1_un, ↓f1_s, ↓f1_nil, ↓frz_nil, ↓frz_cons, ↓wip_nil, ↓wip_cons, ↓thaw_t, ↓thaw_f, ↓set_z, ↓set_s, ↓lock_n, ↓zs_tt, ↓zs_ll, ↓st_lst, ↓st_dct, ↓noHn_nil, ↓noHn_cons, ↓nhn_va, ↓nhn_ow, ↓nhn_lk, ↓nhn_un, ↓nhn_sc, ↓w_var, ↓w_con, ↓w_glo, ↓w_op, ↓w_bm, ↓w_chn, ↓w_and, ↓w_or, ↓w_not, ↓w_ife, ↓w_isi, ↓w_call, ↓w_callh, ↓w_meth, ↓w_eqo, ↓w_lz, ↓w_ds1, ↓w_ss, ↓w_make, ↓w_slc, ↓w_nop, ↓w_lc, ↓w_dsp, ↓w_pop, ↓w_popAt, ↓w_anil, ↓w_acons, ↓w_itS, ↓w_itX, ↓w_itR, ↓w_itE, ↓w_itZ, ↓t_and, ↓t_or, ↓t_not, ↓t_var, ↓t_con, ↓t_op, ↓t_chn, ↓t_isi, ↓t_call, ↓t_callh, ↓t_meth, ↓t_eqo, ↓hn_ex, ↓tr_bl, ↓tr_int, ↓tr_non, ↓tr_tup, ↓tr_lst, ↓o_bin, ↓o_cmp, ↓o_neg, ↓o_tup, ↓o_lst, ↓o_idx, ↓o_fld, ↓o_blt, ↓b_add, ↓b_addT, ↓b_addL, ↓b_addS, ↓b_sub, ↓b_mul, ↓b_mulT, ↓b_mulL, ↓b_div, ↓b_mod, ↓b_pow, ↓c_eq, ↓c_ne, ↓c_lt, ↓c_le, ↓c_gt, ↓c_ge, ↓c_is, ↓c_isn, ↓c_isB, ↓c_isnB, ↓isBl_t, ↓isBl_f, ↓c_inL, ↓c_inT, ↓c_inD, ↓c_niL, ↓c_niT, ↓c_niD, ↓x_dct, ↓fl_ins, ↓bl_len, ↓bl_all, ↓bl_any, ↓bl_sum, ↓bl_tupL, ↓bl_tupT, ↓bl_lstR, ↓bl_lstL, ↓bl_lstT, ↓bl_int, ↓bl_intB, ↓bl_abs, ↓bl_min2, ↓bl_max2, ↓bl_dict, ↓bl_rng, ↓bl_srt, ↓ln_lst, ↓ln_tup, ↓ln_dct, ↓sq_lst, ↓sq_tup, ↓m_get2, ↓m_get1, ↓m_ix, ↓h_get2, ↓h_get1, ↓h_ix, ↓i_lst, ↓i_tup, ↓i_rng, ↓r_one, ↓r_two, ↓g_nm, ↓g_tp, ↓g_nil, ↓g_cons, ↓gl_nil, ↓gl_cons, ↓ty_non_int, ↓ty_non_bool, ↓ty_non_tuple, ↓ty_non_list, ↓ty_non_str, ↓ty_non_dict, ↓tyd_non, ↓ty_non_own, ↓isn_non, ↓con_non, ↓ty_bl_int, ↓ty_bl_bool, ↓ty_bl_tuple, ↓ty_bl_list, ↓ty_bl_str, ↓ty_bl_dict, ↓tyd_bl, ↓ty_bl_own, ↓isn_bl, ↓con_bl, ↓ty_int_int, ↓ty_int_bool, ↓ty_int_tuple, ↓ty_int_list, ↓ty_int_str, ↓ty_int_dict, ↓tyd_int, ↓ty_int_own, ↓isn_int, ↓con_int, ↓ty_str_int, ↓ty_str_bool, ↓ty_str_tuple, ↓ty_str_list, ↓ty_str_str, ↓ty_str_dict, ↓tyd_str, ↓ty_str_own, ↓isn_str, ↓con_str, ↓ty_tup_int, ↓ty_tup_bool, ↓ty_tup_tuple, ↓ty_tup_list, ↓ty_tup_str, ↓ty_tup_dict, ↓tyd_tup, ↓ty_tup_own, ↓isn_tup, ↓con_tup, ↓ty_lst_int, ↓ty_lst_bool, ↓ty_lst_tuple, ↓ty_lst_list, ↓ty_lst_str, ↓ty_lst_dict, ↓tyd_lst, ↓ty_lst_own, ↓isn_lst, ↓con_lst, ↓ty_dct_int, ↓ty_dct_bool, ↓ty_dct_tuple, ↓ty_dct_list, ↓ty_dct_str, ↓ty_dct_dict, ↓tyd_dct, ↓ty_dct_own, ↓isn_dct, ↓con_dct, ↓ty_ins_int, ↓ty_ins_bool, ↓ty_ins_tuple, ↓ty_ins_list, ↓ty_ins_str, ↓ty_ins_dict, ↓tyd_ins, ↓ty_ins_own, ↓isn_ins, ↓con_ins, ↓hin_lst, ↓hin_dct, ↓fla_non, ↓fla_bl, ↓fla_int, ↓fla_str, ↓key_int, ↓key_str, ↓po_nop, ↓po_var, ↓po_con, ↓po_op, ↓sl_tup, ↓sl_lst, ↓s_nil, ↓s_seq, ↓s_asg, ↓s_par, ↓s_aug, ↓s_exp, ↓s_app, ↓s_ext, ↓s_sti, ↓s_ret, ↓s_retn, ↓s_ifs, ↓s_wh, ↓s_rs, ↓s_pas, ↓s_con, ↓s_brk, ↓s_nev, ↓s_mkh, ↓s_frX, ↓s_frS, ↓s_frR, ↓s_frE, ↓s_frZ, ↓p_nil, ↓p_cons, ↓ps_nil, ↓ps_cons, ↓po_nil, ↓po_cons, ↓pv_nil, ↓pv_cons, ↓ok_t, ↓ok_f, ↓mk_t, ↓mk_f, ↓sef_nil, ↓sef_cons, hard_ints, hard_map, hard_nats, Int.reduceToNat, eqv_lst_nil, shp_lst_nil, x_encP0, x_encP1,  ↓List.forall_mem_map,  List.isEmpty_map, Int.reduceLT, Int.reduceLE, ln_enc, i_enc, sq_enc, enc_hard, tr_enc, ty_enc_tuple, ty_enc_list, ty_enc_int, ty_enc_bool, tyd_enc, isn_enc, b_enc, eqv_int, eqv_bl, eqv_str, eqv_nn, eqv_tn, eqv_nt, eqv_in, eqv_ni, eqv_sn, eqv_ns, x_pair0, x_pair1, shp_int, shp_non, shp_bl, lcF_eq, enc_int, enc_nat, enc_bool, decide_eq_true_eq, Bool.not_eq_true', decide_eq_false_iff_not, Bool.not_not, ite_not, List.length_map, Option.some.injEq, exists_eq_left', exists_eq_left, exists_eq_right, exists_eq_right', and_true, true_and, true_implies, List.length_cons, List.length_nil, if_true, if_false, ite_true, ite_false, Bool.false_eq_true, reduceCtorEq, false_implies, List.cons_append, List.nil_append, vars, gvars, D.hard, hardAll, Bool.and_true, Bool.true_and, Bool.not_true, Bool.not_false, List.any_cons, List.any_nil, List.all_cons, List.all_nil, Bool.or_false, Bool.or_true, Bool.false_or, Bool.true_or, Bool.and_false, Bool.false_and, beq_self_eq_true, itSlot, List.getElem?_cons_succ, List.getElem?_cons_zero, D.bl.injEq, fldAt, exists_const, false_or, or_false, false_and, and_false, exists_false, Int.sub_zero, Int.toNat_natCast, Int.zero_add, zs_tt, zs_ll, zs_ee, st_lst, st_dct, exists_eq', D.lst.injEq, D.int.injEq, Option.isNone_none, Option.isNone_some, List.set_cons_zero, b_snoc, Nat.reduceAdd, Nat.reduceLeDiff, Nat.reduceSub, enQ])
theorem w_Showing___init__ : FI m_Showing b_Showing___init__ f_Showing___init__ 0 := fun x _ Q E _ ⟨t, e, h, q⟩ => by
  subst e
  unfold b_Showing___init__ f_Showing___init__
  simp only [List.map_cons, List.map_nil, List.replicate, List.cons_append, List.nil_append]
  walk_at "wk"
  unfold tabD
  walk_at "wk"
  exact ⟨Nat.le_trans h (by decide), q⟩
def s_Showing_behind : FSpec := ⟨"behind", "Showing", 1, 2, false, fun ds Q _ => ∃ (t : Tab) (i : Nat), ds = [shw t, .int i] ∧ (Sq t ∧ i < t.length) ∧ Q (.lst ((nbT t i).map fun (j : Nat) => D.int j))⟩
theorem a_Showing_behind : s_Showing_behind.ar = 2 := rfl
theorem n_Showing_behind' : s_Showing_behind.cls = "Showing" ∧ s_Showing_behind.name = "behind" := ⟨rfl, rfl⟩
theorem c_Showing_behind (t : Tab) (i : Nat) (Q : DK) (E : XP) : s_Showing_behind.spec [shw t, .int i] Q E = ((Sq t ∧ i < t.length) ∧ Q (.lst ((nbT t i).map fun (j : Nat) => D.int j))) := by
  refine propext ⟨?_, fun h => ⟨t, i, rfl, h⟩⟩
  rintro ⟨t', i', e, h⟩
  simp only [List.cons.injEq, shw_inj, D.int.injEq, Int.natCast_inj, and_true] at e
  obtain ⟨rfl, rfl⟩ := e
  exact h
def n_Showing_behind : List Str := ["self", "i", "j"]
def p_Showing_behind : List Str := ["self", "i"]
def b_Showing_behind : MS := (.seq (.ret (.lc [2] (.var 2) (.nm 2) (.itR (.acons (.op (.fld "many") (.acons (.var 0) .anil)) .anil)) (.op (.cmp .IsNot) (.acons (.op .idx (.acons (.op .idx (.acons (.op (.fld "words") (.acons (.var 0) .anil)) (.acons (.var 1) .anil))) (.acons (.var 2) .anil))) (.acons (.con .non) .anil))))) .nil)
theorem rng_nat (n : Nat) : ((List.range ((n : Int)).toNat).map fun (k : Nat) => D.int (0 + k)) = (List.range n).map fun (k : Nat) => D.int k := by
  rw [Int.toNat_natCast]
  exact List.map_congr_left fun k _ => by rw [Int.zero_add]
theorem filterMap_if {α : Type} (p : α → Bool) (f : α → D) : ∀ xs : List α, (xs.filterMap fun x => if p x = true then some (f x) else none) = (xs.filter p).map f
  | [] => rfl
  | x :: xs => by
    rw [List.filterMap_cons, List.filter_cons, filterMap_if p f xs]
    by_cases h : p x = true <;> simp [h]
def natD : D → Nat
  | .int i => i.toNat
  | _ => 0
theorem w_Showing_behind : FW s_Showing_behind b_Showing_behind 1 := .of rfl fun _ Q E ⟨t, i, e, ⟨h, hi⟩, q⟩ => by
  subst e
  unfold b_Showing_behind
  simp only [List.map_cons, List.map_nil, List.replicate, List.cons_append, List.nil_append]
  walk_at "wk"
  have hl := h.le
  refine ⟨rngOk_nat (by omega), ?_⟩
  refine ⟨by simp only [List.length_range]; exact le_lim hl, lcGo_fm (fun d => if (tw t i (natD d)).isSome = true then some (.int (natD d)) else none) (fun d hd K k => ?_) ?_⟩
  · obtain ⟨j, hj, rfl⟩ := List.mem_map.mp hd
    have hj := List.mem_range.mp hj
    walk_at "wk"
    rw [x_tab h hi hj]
    rw [isn_wd]
    have e : natD (.int (j : Int)) = j := by simp [natD]
    rw [e] at k
    cases z : tw t i j with
    | none => rw [z] at k; simpa using k
    | some b => rw [z] at k; simpa using k
  · rw [List.filterMap_map]
    have e : ((fun d => if (tw t i (natD d)).isSome = true then some (D.int (natD d)) else none) ∘ fun (k : Nat) => D.int k) = fun (k : Nat) => if (tw t i k).isSome = true then some (D.int k) else none := by
      funext k
      simp only [Function.comp, natD, Int.toNat_natCast]
      rfl
    rw [e, filterMap_if (fun k => (tw t i k).isSome) (fun (k : Nat) => D.int k)]
    exact q
end Pk
set_option maxHeartbeats 1000000
namespace Pk
open PySem Mi Bf
open Mi.Enc (enc)
def keysD (app : List (List Nat)) : List D := (app.map lastOf).map fun (k : Nat) => D.int k
theorem keysD_app (app : List (List Nat)) (r : List Nat) : keysD (app ++ [r]) = keysD app ++ [.int (lastOf r)] := by simp [keysD]
theorem key_in (app : List (List Nat)) (l : Nat) : keyAt (.int l) (keysD app) = none ↔ l ∉ app.map lastOf := by
  have := keyAt_map l (app.map lastOf)
  rw [show keysD app = (app.map lastOf).map enc from rfl, show (D.int (l : Int)) = enc l from rfl, this, List.findIdx?_eq_none_iff]
  constructor
  · intro h hm
    simpa using h l hm
  · intro h x hx
    simp only [decide_eq_false_iff_not]
    rintro rfl
    exact h hx
theorem get_find (j : Nat) : ∀ app : List (List Nat), dgot (keyAt (.int j) (keysD app)) (app.map fun r => enc r) .non = optD (app.find? fun r => lastOf r == j)
  | [] => rfl
  | r :: app => by
    have ih := get_find j app
    have e : D.eqv (.int (lastOf r)) (.int j) = decide (lastOf r = j) := by rw [eqv_int]; exact decide_eq_decide.mpr Int.natCast_inj
    show dgot (keyAt (.int j) (D.int (lastOf r) :: keysD app)) (enc r :: app.map fun r => enc r) .non = _
    rw [keyAt, e, List.find?_cons]
    by_cases h : lastOf r = j
    · simp [h, optD, dgot]
    · have h2 : (lastOf r == j) = false := by simpa using h
      rw [h2, ← ih]
      simp only [decide_eq_true_eq, if_neg h]
      cases keyAt (.int j) (keysD app) <;> simp [dgot]
def s_Showing_way : FSpec := ⟨"way", "Showing", 2, 3, false, fun ds Q _ => ∃ (t : Tab) (i j : Nat), ds = [shw t, .int i, .int j] ∧ (Sq t ∧ i < t.length ∧ j < t.length) ∧ Q (optD (wayB (nbT t) t.length i j))⟩
theorem a_Showing_way : s_Showing_way.ar = 3 := rfl
theorem c_Showing_way (t : Tab) (i j : Nat) (Q : DK) (E : XP) : s_Showing_way.spec [shw t, .int i, .int j] Q E = ((Sq t ∧ i < t.length ∧ j < t.length) ∧ Q (optD (wayB (nbT t) t.length i j))) := by
  refine propext ⟨?_, fun h => ⟨t, i, j, rfl, h⟩⟩
  rintro ⟨t', i', j', e, h⟩
  simp only [List.cons.injEq, shw_inj, D.int.injEq, Int.natCast_inj, and_true] at e
  obtain ⟨rfl, rfl, rfl⟩ := e
  exact h
theorem shw_meth (t : Tab) (nm : Str) (h : nm ∉ (["words", "many"] : List Str)) : ∃ fs ds, shw t = .ins "Showing" fs ds ∧ nm ∉ fs := ⟨_, _, rfl, h⟩
theorem m_Showing_behind (t : Tab) : ∃ fs ds, shw t = .ins s_Showing_behind.cls fs ds ∧ s_Showing_behind.name ∉ fs := shw_meth t _ (by decide)
theorem m_Showing_way (t : Tab) : ∃ fs ds, shw t = .ins s_Showing_way.cls fs ds ∧ s_Showing_way.name ∉ fs := shw_meth t _ (by decide)
local macro_rules | `(tactic| walk_at "wk") => `(tactic| simp only [recD_tyd, recD_own, recD_goods, recD_rows, recD_hard, a_is_within, c_is_within, a_check_goods, c_check_goods, shw_many, shw_words, shw_hard, a_check_two, c_check_two, a_word_of, c_word_of, a_Showing_behind, c_Showing_behind, m_Showing_behind, a_Showing_way, c_Showing_way, m_Showing_way, a_m_Showing, c_m_Showing, fs_m_Showing, ↓gS_va, ↓gS_ow, ↓gS_lk, ↓gS_s, ↓gO_ow, ↓gO_s, ↓f1_va, ↓f1_ow, ↓f1_lk, ↓f1_hn, ↓f1_sc, ↓f1_un, ↓f1_s, ↓f1_nil, ↓frz_nil, ↓frz_cons, ↓wip_nil, ↓wip_cons, ↓thaw_t, ↓thaw_f, ↓set_z, ↓set_s, ↓lock_n, ↓zs_tt, ↓zs_ll, ↓st_lst, ↓st_dct, ↓noHn_nil, ↓noHn_cons, ↓nhn_va, ↓nhn_ow, ↓nhn_lk, ↓nhn_un, ↓nhn_sc, ↓w_var, ↓w_con, ↓w_glo, ↓w_op, ↓w_bm, ↓w_chn, ↓w_and, ↓w_or, ↓w_not, ↓w_ife, ↓w_isi, ↓w_call, ↓w_callh, ↓w_meth, ↓w_eqo, ↓w_lz, ↓w_ds1, ↓w_ss, ↓w_make, ↓w_slc, ↓w_nop, ↓w_lc, ↓w_dsp, ↓w_pop, ↓w_popAt, ↓w_anil, ↓w_acons, ↓w_itS, ↓w_itX, ↓w_itR, ↓w_itE, ↓w_itZ, ↓t_and, ↓t_or, ↓t_not, ↓t_var, ↓t_con, ↓t_op, ↓t_chn, ↓t_isi, ↓t_call, ↓t_callh, ↓t_meth, ↓t_eqo, ↓hn_ex, ↓tr_bl, ↓tr_int, ↓tr_non, ↓tr_tup, ↓tr_lst, ↓o_bin, ↓o_cmp, ↓o_neg, ↓o_tup, ↓o_lst, ↓o_idx, ↓o_fld, ↓o_blt, ↓b_add, ↓b_addT, ↓b_addL, ↓b_addS, ↓b_sub, ↓b_mul, ↓b_mulT, ↓b_mulL, ↓b_div, ↓b_mod, ↓b_pow, ↓c_eq, ↓c_ne, ↓c_lt, ↓c_le, ↓c_gt, ↓c_ge, ↓c_is, ↓c_isn, ↓c_isB, ↓c_isnB, ↓isBl_t, ↓isBl_f, ↓c_inL, ↓c_inT, ↓c_inD, ↓c_niL, ↓c_niT, ↓c_niD, ↓x_dct, ↓fl_ins, ↓bl_len, ↓bl_all, ↓bl_any, ↓bl_sum, ↓bl_tupL, ↓bl_tupT, ↓bl_lstR, ↓bl_lstL, ↓bl_lstT, ↓bl_int, ↓bl_intB, ↓bl_abs, ↓bl_min2, ↓bl_max2, ↓bl_dict, ↓bl_rng, ↓bl_srt, ↓ln_lst, ↓ln_tup, ↓ln_dct, ↓sq_lst, ↓sq_tup, ↓m_get2, ↓m_get1, ↓m_ix, ↓h_get2, ↓h_get1, ↓h_ix, ↓i_lst, ↓i_tup, ↓i_rng, ↓r_one, ↓r_two, ↓g_nm, ↓g_tp, ↓g_nil, ↓g_cons, ↓gl_nil, ↓gl_cons, ↓ty_non_int, ↓ty_non_bool, ↓ty_non_tuple, ↓ty_non_list, ↓ty_non_str, ↓ty_non_dict, ↓tyd_non, ↓ty_non_own, ↓isn_non, ↓con_non, ↓ty_bl_int, ↓ty_bl_bool, ↓ty_bl_tuple, ↓ty_bl_list, ↓ty_bl_str, ↓ty_bl_dict, ↓tyd_bl, ↓ty_bl_own, ↓isn_bl, ↓con_bl, ↓ty_int_int, ↓ty_int_bool, ↓ty_int_tuple, ↓ty_int_list, ↓ty_int_str, ↓ty_int_dict, ↓tyd_int, ↓ty_int_own, ↓isn_int, ↓con_int, ↓ty_str_int, ↓ty_str_bool, ↓ty_str_tuple, ↓ty_str_list, ↓ty_str_str, ↓ty_str_dict, ↓tyd_str, ↓ty_str_own, ↓isn_str, ↓con_str, ↓ty_tup_int, ↓ty_tup_bool, ↓ty_tup_tuple, ↓ty_tup_list, ↓ty_tup_str, ↓ty_tup_dict, ↓tyd_tup, ↓ty_tup_own, ↓isn_tup, ↓con_tup, ↓ty_lst_int, ↓ty_lst_bool, ↓ty_lst_tuple, ↓ty_lst_list, ↓ty_lst_str, ↓ty_lst_dict, ↓tyd_lst, ↓ty_lst_own, ↓isn_lst, ↓con_lst, ↓ty_dct_int, ↓ty_dct_bool, ↓ty_dct_tuple, ↓ty_dct_list, ↓ty_dct_str, ↓ty_dct_dict, ↓tyd_dct, ↓ty_dct_own, ↓isn_dct, ↓con_dct, ↓ty_ins_int, ↓ty_ins_bool, ↓ty_ins_tuple, ↓ty_ins_list, ↓ty_ins_str, ↓ty_ins_dict, ↓tyd_ins, ↓ty_ins_own, ↓isn_ins, ↓con_ins, ↓hin_lst, ↓hin_dct, ↓fla_non, ↓fla_bl, ↓fla_int, ↓fla_str, ↓key_int, ↓key_str, ↓po_nop, ↓po_var, ↓po_con, ↓po_op, ↓sl_tup, ↓sl_lst, ↓s_nil, ↓s_seq, ↓s_asg, ↓s_par, ↓s_aug, ↓s_exp, ↓s_app, ↓s_ext, ↓s_sti, ↓s_ret, ↓s_retn, ↓s_ifs, ↓s_wh, ↓s_rs, ↓s_pas, ↓s_con, ↓s_brk, ↓s_nev, ↓s_mkh, ↓s_frX, ↓s_frS, ↓s_frR, ↓s_frE, ↓s_frZ, ↓p_nil, ↓p_cons, ↓ps_nil, ↓ps_cons, ↓po_nil, ↓po_cons, ↓pv_nil, ↓pv_cons, ↓ok_t, ↓ok_f, ↓mk_t, ↓mk_f, ↓sef_nil, ↓sef_cons, hard_ints, hard_map, hard_nats, Int.reduceToNat, eqv_lst_nil, shp_lst_nil, x_encP0, x_encP1,  ↓List.forall_mem_map,  List.isEmpty_map, Int.reduceLT, Int.reduceLE, ln_enc, i_enc, sq_enc, enc_hard, tr_enc, ty_enc_tuple, ty_enc_list, ty_enc_int, ty_enc_bool, tyd_enc, isn_enc, b_enc, eqv_int, eqv_bl, eqv_str, eqv_nn, eqv_tn, eqv_nt, eqv_in, eqv_ni, eqv_sn, eqv_ns, x_pair0, x_pair1, shp_int, shp_non, shp_bl, lcF_eq, enc_int, enc_nat, enc_bool, decide_eq_true_eq, Bool.not_eq_true', decide_eq_false_iff_not, Bool.not_not, ite_not, List.length_map, Option.some.injEq, exists_eq_left', exists_eq_left, exists_eq_right, exists_eq_right', and_true, true_and, true_implies, List.length_cons, List.length_nil, if_true, if_false, ite_true, ite_false, Bool.false_eq_true, reduceCtorEq, false_implies, List.cons_append, List.nil_append, vars, gvars, D.hard, hardAll, Bool.and_true, Bool.true_and, Bool.not_true, Bool.not_false, List.any_cons, List.any_nil, List.all_cons, List.all_nil, Bool.or_false, Bool.or_true, Bool.false_or, Bool.true_or, Bool.and_false, Bool.false_and, beq_self_eq_true, itSlot, List.getElem?_cons_succ, List.getElem?_cons_zero, D.bl.injEq, fldAt, exists_const, false_or, or_false, false_and, and_false, exists_false, Int.sub_zero, Int.toNat_natCast, Int.zero_add, zs_tt, zs_ll, zs_ee, st_lst, st_dct, exists_eq', D.lst.injEq, D.int.injEq, Option.isNone_none, Option.isNone_some, List.set_cons_zero, b_snoc, Nat.reduceAdd, Nat.reduceLeDiff, Nat.reduceSub, enQ])
def n_Showing_way : List Str := ["self", "i", "j", "row_of", "waiting", "at", "row", "later"]
def p_Showing_way : List Str := ["self", "i", "j"]
def b_Showing_way : MS := (.seq (.par [(3, true, (.dsp .anil .anil))]) (.seq (.par [(4, true, (.op .lst (.acons (.op .tup (.acons (.var 1) .anil)) .anil)))]) (.seq (.asg (.nm 5) (.con (.int 0))) (.seq (.wh (.op (.cmp .Lt) (.acons (.var 5) (.acons (.op (.blt .len) (.acons (.var 4) .anil)) .anil))) (.seq (.asg (.nm 6) (.op .idx (.acons (.var 4) (.acons (.var 5) .anil)))) (.seq (.aug 5 .Add (.con (.int 1))) (.seq (.fr (.nm 7) (.itS (.meth s_Showing_behind (.var 0) (.acons (.op .idx (.acons (.var 6) (.acons (.op .neg (.acons (.con (.int 1)) .anil)) .anil))) .anil))) (.seq (.ifs (.op (.cmp .NotIn) (.acons (.var 7) (.acons (.var 3) .anil))) (.seq (.sti 3 (.var 7) (.op (.bin .Add) (.acons (.var 6) (.acons (.op .tup (.acons (.var 7) .anil)) .anil)))) (.seq (.app 4 (.op (.bin .Add) (.acons (.var 6) (.acons (.op .tup (.acons (.var 7) .anil)) .anil)))) .nil)) .nil) .nil)) .nil)))) (.seq (.ret (.bm .dget2 (.var 3) (.acons (.var 2) (.acons (.con .non) .anil)))) .nil)))))
def wayS (t : Tab) (i j : Nat) (app : List (List Nat)) (k : Nat) (x6 x7 : Sl) : List Sl :=
  [.va (shw t), .va (.int i), .va (.int j), .ow (.dct (keysD app) (app.map fun r => enc r)), .ow (.lst (([i] :: app).map fun r => enc r)), .va (.int k), x6, x7]
theorem w_Showing_way : FW s_Showing_way b_Showing_way 5 := .of rfl fun _ Q E ⟨t, i, j, e, ⟨h, hi, hj⟩, q⟩ => by
  subst e
  have hn := nbT_lt t
  have hl := h.le
  unfold b_Showing_way
  simp only [List.map_cons, List.map_nil, List.replicate, List.cons_append, List.nil_append]
  walk_at "wk"
  refine whGo_f (fun f S => ∃ k x6 x7, f + k = t.length + 2 ∧ k ≤ (stB (nbT t) i k).length + 1 ∧ S = wayS t i j (stB (nbT t) i k) k x6 x7) ?_ (f := t.length + 2) ⟨0, _, _, rfl, Nat.zero_le _, rfl⟩
  rintro f S N ⟨k, x6, x7, hf, hk, rfl⟩ kN
  obtain ⟨app, happ⟩ : ∃ app, app = stB (nbT t) i k := ⟨_, rfl⟩
  rw [← happ] at hk ⊢
  have hal : app.length ≤ t.length := by rw [happ]; exact st_len hn k
  unfold wayS
  walk_at "wk"
  refine ⟨by rw [lim_eq']; first | omega | (simp only [List.length_cons]; omega), ?_⟩
  by_cases hlt : k < app.length + 1
  · rw [if_pos (by first | omega | (simp only [List.length_cons]; omega))]
    have hlt' : k < ([i] :: app).length := hlt
    obtain ⟨row, hrow⟩ : ∃ row, ([i] :: app)[k]? = some row := ⟨_, List.getElem?_eq_getElem hlt'⟩
    have hrowlen : row.length ≤ k + 1 := by
      rcases List.mem_cons.mp (List.mem_of_getElem? hrow) with z | z
      · rw [z]; simp
      · exact st_rowlen k row (happ ▸ z)
    rw [x_lstN (by rw [List.getElem?_map, hrow]; rfl)]
    walk_at "wk"
    have hne : row ≠ [] := by
      rcases List.mem_cons.mp (List.mem_of_getElem? hrow) with z | z
      · rw [z]; simp
      · intro e
        have := st_all (nb := nbT t) (i := i) (P := fun r => r ≠ []) (fun row _ l _ => by simp) k row (happ ▸ z)
        exact this e
    have hlo : row.getLast hne = lastOf row := by
      unfold lastOf
      rw [List.getLastD_eq_getLast?, List.getLast?_eq_some_getLast hne]
      rfl
    rw [x_last hne, hlo]
    walk_at "wk"
    have hlast : lastOf row < t.length := by
      rcases List.mem_cons.mp (List.mem_of_getElem? hrow) with z | z
      · rw [z]; exact hi
      · exact st_below hn k _ (List.mem_map.mpr ⟨row, happ ▸ z, rfl⟩)
    refine ⟨⟨h, hlast⟩, ?_⟩
    refine frGo_pre (fun pre S => ∃ (x7 : Sl) (ls : List Nat), pre = ls.map (fun (k : Nat) => D.int k) ∧ S = wayS t i j (ls.foldl (addOne row) app) (k + 1) (.va (enc row)) x7) ⟨x7, [], rfl, rfl⟩ ?_ ?_
    · rintro pre d post S N' hpre ⟨x7, ls, rfl, rfl⟩ kN'
      refine ⟨trivial, ?_⟩
      have hd : d ∈ (nbT t (lastOf row)).map fun (j : Nat) => D.int j := by rw [hpre]; simp
      obtain ⟨l, hl2, rfl⟩ := List.mem_map.mp hd
      have hlen : (ls.foldl (addOne row) app).length ≤ 2000 := by
        have h1 := fold_len row ls app
        have h2 : ls.length ≤ t.length := by
          have := congrArg List.length hpre
          simp only [List.length_map, List.length_append, List.length_cons] at this
          have h3 : (nbT t (lastOf row)).length ≤ t.length := Nat.le_trans (List.length_filter_le _ _) (by rw [List.length_range]; exact Nat.le_refl _)
          omega
        omega
      unfold wayS
      walk_at "wk"
      obtain ⟨ap2, e2⟩ : ∃ ap2, ap2 = ls.foldl (addOne row) app := ⟨_, rfl⟩
      have hfold : (ls ++ [l]).foldl (addOne row) app = addOne row ap2 l := by rw [List.foldl_append, ← e2]; rfl
      rw [← e2] at hlen ⊢
      have kk := kN' (wayS t i j (addOne row ap2 l) (k + 1) (.va (enc row)) (.va (.int l))) ⟨_, ls ++ [l], by simp, by rw [hfold]⟩
      by_cases hin : l ∈ ap2.map lastOf
      · have hk1 : keyAt (.int (l : Int)) (keysD ap2) ≠ none := fun z => (key_in ap2 l).mp z hin
        have hk2 : (keyAt (.int (l : Int)) (keysD ap2)).isNone = false := by
          cases z : keyAt (.int (l : Int)) (keysD ap2) with
          | none => exact absurd z hk1
          | some _ => rfl
        rw [hk2, if_neg Bool.false_ne_true]
        have e3 : addOne row ap2 l = ap2 := if_pos hin
        rw [e3] at kk
        exact kk
      · have hk1 := (key_in ap2 l).mpr hin
        rw [hk1, if_pos Option.isNone_none, putKey_new hk1]
        have e3 : addOne row ap2 l = ap2 ++ [row ++ [l]] := if_neg hin
        rw [e3] at kk
        unfold wayS at kk
        rw [keysD_app, lastOf_app, List.map_append] at kk
        have hkl : (keysD ap2).length = ap2.length := by simp [keysD]
        refine ⟨by rw [lim_eq']; omega, by rw [lim_eq', hkl]; omega, by rw [lim_eq']; omega, by rw [lim_eq']; omega, ?_⟩
        rw [← List.cons_append, List.map_append] at kk
        exact kk
    · rintro S ⟨x7, ls, e, rfl⟩
      have els : ls = nbT t (lastOf row) := (map_inj (fun (a b : Nat) (z : D.int a = D.int b) => by injection z with z; omega) e).symm
      subst els
      have est : stB (nbT t) i (k + 1) = (nbT t (lastOf row)).foldl (addOne row) app := by rw [st_step (by rw [← happ]; exact hrow), ← happ]; rfl
      refine ⟨trivial, kN _ (f - 1) (by omega) ⟨k + 1, .va (enc row), x7, by omega, ?_, by rw [est]⟩⟩
      have := (st_pre (nb := nbT t) (i := i) (Nat.le_succ k)).length_le
      rw [← happ] at this
      rw [Nat.succ_eq_add_one] at this
      omega
  · rw [if_neg (by first | omega | (simp only [List.length_cons]; omega))]
    have hfin : finB (nbT t) t.length i = app := by rw [happ]; exact fin_of hn (by rw [← happ]; omega)
    rw [get_find]
    unfold wayB at q
    rw [hfin] at q
    exact q
def wordOf (rs : Rows) (i j : Nat) : Option Bool := if cost rs i j > cost rs i i then none else some (decide (cost rs i j < cost rs i i))
theorem wordD_wd (rs : Rows) (i j : Nat) : wordD rs i j = wd (wordOf rs i j) := by
  unfold wordD wordOf
  by_cases h1 : cost rs i j > cost rs i i
  · rw [if_pos h1, if_pos h1]; rfl
  · rw [if_neg h1, if_neg h1]
    by_cases h2 : cost rs i j < cost rs i i <;> simp [h2, wd]
def tabOf (rs : Rows) : Tab := (List.range rs.length).map fun i => (List.range rs.length).map fun j => wordOf rs i j
theorem tabOf_len (rs : Rows) : (tabOf rs).length = rs.length := by simp [tabOf]
theorem tabOf_sq {g : Int} {rs : Rows} (h : OkR g rs) : Sq (tabOf rs) := by
  refine ⟨fun r hr => ?_, by rw [tabOf_len]; have := h.len; omega⟩
  rw [tabOf_len]
  obtain ⟨i, _, rfl⟩ := List.mem_map.mp hr
  simp
theorem tw_tabOf {rs : Rows} {i j : Nat} (hi : i < rs.length) (hj : j < rs.length) : tw (tabOf rs) i j = wordOf rs i j := by
  unfold tw tabOf
  simp [List.getD_eq_getElem?_getD, hi, hj]
def s_showing_of : FSpec := ⟨"showing_of", "", 4, 1, false, fun ds Q _ => ∃ (g : Int) (rs : Rows), ds = [recD g rs] ∧ OkR g rs ∧ Q (shw (tabOf rs))⟩
theorem a_showing_of : s_showing_of.ar = 1 := rfl
theorem c_showing_of (g : Int) (rs : Rows) (Q : DK) (E : XP) : s_showing_of.spec [recD g rs] Q E = (OkR g rs ∧ Q (shw (tabOf rs))) := by
  refine propext ⟨?_, fun h => ⟨g, rs, rfl, h⟩⟩
  rintro ⟨g', rs', e, h⟩
  simp only [List.cons.injEq, recD_inj, and_true] at e
  obtain ⟨rfl, rfl⟩ := e
  exact h
def n_showing_of : List Str := ["record", "places", "j", "i"]
def p_showing_of : List Str := ["record"]
def b_showing_of : MS := (.seq (.asg (.nm 1) (.op (.blt .range1) (.acons (.op (.blt .len) (.acons (.op (.fld "rows") (.acons (.var 0) .anil)) .anil)) .anil))) (.seq (.ret (.make m_Showing (.acons (.lc [3] (.lc [2] (.call s_word_of (.acons (.var 0) (.acons (.var 3) (.acons (.var 2) .anil)))) (.nm 2) (.itX 1) (.con (.bl true))) (.nm 3) (.itX 1) (.con (.bl true))) .anil))) .nil))
theorem w_showing_of : FW s_showing_of b_showing_of 3 := .of rfl fun _ Q E ⟨g, rs, e, h, q⟩ => by
  subst e
  unfold b_showing_of
  simp only [List.map_cons, List.map_nil, List.replicate, List.cons_append, List.nil_append]
  have hl := h.len
  walk_at "wk"
  refine ⟨by rw [lim_eq']; omega, rngOk_nat (by omega), by rw [List.length_range, lim_eq']; omega, ?_⟩
  refine lcGo_map (fun d => .lst ((List.range rs.length).map fun j => wordD rs (natD d) j)) (fun d hd K k => ?_) ?_
  · obtain ⟨i, hi, rfl⟩ := List.mem_map.mp hd
    have hi := List.mem_range.mp hi
    walk_at "wk"
    refine ⟨rngOk_nat (by omega), by rw [List.length_range, lim_eq']; omega, ?_⟩
    refine lcGo_map (fun d => wordD rs i (natD d)) (fun d hd K k => ?_) ?_
    · obtain ⟨j, hj, rfl⟩ := List.mem_map.mp hd
      have hj := List.mem_range.mp hj
      walk_at "wk"
      have e : natD (.int (j : Int)) = j := by simp [natD]
      rw [e] at k
      exact ⟨⟨h, hi, hj⟩, k⟩
    · have e : natD (.int (i : Int)) = i := by simp [natD]
      rw [e] at k
      rw [List.nil_append, List.map_map]
      have e2 : ((fun d => wordD rs i (natD d)) ∘ fun (k : Nat) => D.int k) = fun j => wordD rs i j := by
        funext k
        simp only [Function.comp, natD, Int.toNat_natCast]
      rw [e2]
      exact k
  · rw [List.nil_append, List.map_map]
    have e2 : ((fun d => D.lst ((List.range rs.length).map fun j => wordD rs (natD d) j)) ∘ fun (k : Nat) => D.int k) = fun i => D.lst (((List.range rs.length).map fun j => wordOf rs i j).map wd) := by
      funext i
      simp only [Function.comp, natD, Int.toNat_natCast, List.map_map]
      congr 1
      exact List.map_congr_left fun j _ => wordD_wd rs i j
    have e3 : D.lst ((List.range rs.length).map fun i => D.lst (((List.range rs.length).map fun j => wordOf rs i j).map wd)) = tabD (tabOf rs) := by
      unfold tabD tabOf
      rw [List.map_map]
      rfl
    rw [e2, e3, c_m_Showing, tabOf_len]
    refine ⟨by omega, rfl, ?_⟩
    have e4 : D.ins m_Showing.name ["words", "many"] [tabD (tabOf rs), .int rs.length] = shw (tabOf rs) := by
      unfold shw
      rw [tabOf_len]
      rfl
    rw [e4]
    exact q
def nbR (rs : Rows) : Nat → List Nat := nbT (tabOf rs)
theorem nbR_eq {rs : Rows} {a : Nat} (h : a < rs.length) : nbR rs a = (List.range rs.length).filter fun j => (wordOf rs a j).isSome := by
  unfold nbR nbT
  rw [tabOf_len]
  apply List.filter_congr
  intro j hj
  rw [tw_tabOf h (List.mem_range.mp hj)]
theorem nbR_lt (rs : Rows) (a : Nat) : ∀ l ∈ nbR rs a, l < rs.length := fun l hl => by
  have := nbT_lt (tabOf rs) a l hl
  rwa [tabOf_len] at this
def s_shown : FSpec := ⟨"shown", "", 5, 3, false, sp2 fun _ rs i j => optD (wayB (nbR rs) rs.length i j)⟩
theorem a_shown : s_shown.ar = 3 := rfl
theorem c_shown (g : Int) (rs : Rows) (i j : Nat) (Q : DK) (E : XP) : s_shown.spec [recD g rs, .int i, .int j] Q E = ((OkR g rs ∧ i < rs.length ∧ j < rs.length) ∧ Q (optD (wayB (nbR rs) rs.length i j))) := c_sp2 _ g rs i j Q E
def n_shown : List Str := ["record", "i", "j"]
def p_shown : List Str := ["record", "i", "j"]
def b_shown : MS := (.seq (.exp (.call s_check_two (.acons (.var 0) (.acons (.var 1) (.acons (.var 2) .anil))))) (.seq (.ret (.meth s_Showing_way (.call s_showing_of (.acons (.var 0) .anil)) (.acons (.var 1) (.acons (.var 2) .anil)))) .nil))
theorem w_shown : FW s_shown b_shown 0 := .of rfl fun _ Q E ⟨g, rs, i, j, e, ⟨h, hi, hj⟩, q⟩ => by
  subst e
  unfold b_shown
  simp only [List.map_cons, List.map_nil, List.replicate, List.append_nil]
  walk_at "wk"
  simp only [a_showing_of, c_showing_of]
  walk_at "wk"
  refine ⟨⟨h, hi, hj⟩, h, ⟨tabOf_sq h, by rw [tabOf_len]; exact hi, by rw [tabOf_len]; exact hj⟩, ?_⟩
  rw [tabOf_len]
  exact q
theorem optD_some (r : List Nat) : optD (some r) = enc r := rfl
theorem optD_isN (o : Option (List Nat)) : (optD o).isNon = o.isNone := by cases o <;> rfl
theorem optD_hard (o : Option (List Nat)) : (optD o).hard = true := by
  cases o with
  | none => rfl
  | some xs => exact Enc.hard xs
end Pk
namespace Bf
theorem fold_all' {P : List Nat → Prop} {row : List Nat} : ∀ (ls : List Nat) (app : List (List Nat)), (∀ r ∈ app, P r) → (∀ l ∈ ls, l ∉ app.map lastOf → P (row ++ [l])) → ∀ r ∈ ls.foldl (addOne row) app, P r
  | [], app, h, _ => h
  | l :: ls, app, h, hl => by
    refine fold_all' ls (addOne row app l) (fun r hr => ?_) fun x hx hn => hl x (List.mem_cons_of_mem _ hx) fun z => hn (((add_pre row app l).map lastOf).subset z)
    unfold addOne at hr
    split at hr
    · exact h r hr
    · rename_i hn
      rcases List.mem_append.mp hr with z | z
      · exact h r z
      · rw [List.mem_singleton.mp z]; exact hl l List.mem_cons_self hn
section
variable {nb : Nat → List Nat} {o : List Nat} {n a : Nat}
/-- the row along a chain -/
def chR (o : List Nat) (a b : Nat) : List Nat := if b = a then [o.getD a 0, o.getD a 0] else (o.drop a).take (b - a + 1)
structure Chain (nb : Nat → List Nat) (o : List Nat) (n : Nat) : Prop where
  len : o.length = n
  nd : o.Nodup
  lt : ∀ x ∈ o, x < n
  nbl : ∀ a, ∀ l ∈ nb a, l < n
  nb : ∀ p, p < n → ∀ l, l ∈ nb (o.getD p 0) ↔ l = o.getD p 0 ∨ (p + 1 < n ∧ l = o.getD (p + 1) 0)
theorem Chain.inj (C : Chain nb o n) {p q : Nat} (hp : p < n) (hq : q < n) (e : o.getD p 0 = o.getD q 0) : p = q := by
  have hp' : p < o.length := by rw [C.len]; exact hp
  have hq' : q < o.length := by rw [C.len]; exact hq
  rw [List.getD_eq_getElem?_getD, List.getD_eq_getElem?_getD, List.getElem?_eq_getElem hp', List.getElem?_eq_getElem hq'] at e
  exact (List.getElem_inj C.nd).mp e
theorem chR_step (C : Chain nb o n) {b : Nat} (h1 : a ≤ b) (h2 : b + 1 < n) (h3 : b ≠ a) : chR o a b ++ [o.getD (b + 1) 0] = chR o a (b + 1) := by
  unfold chR
  rw [if_neg h3, if_neg (by omega)]
  have hl : b + 1 < o.length := by rw [C.len]; exact h2
  have e : b + 1 - a + 1 = (b - a + 1) + 1 := by omega
  rw [e, List.take_succ (i := b - a + 1)]
  congr 1
  rw [List.getElem?_drop, show a + (b - a + 1) = b + 1 by omega, List.getElem?_eq_getElem hl, List.getD_eq_getElem?_getD, List.getElem?_eq_getElem hl]
  rfl
theorem chR_one (C : Chain nb o n) (h : a + 1 < n) : [o.getD a 0] ++ [o.getD (a + 1) 0] = chR o a (a + 1) := by
  unfold chR
  rw [if_neg (by omega), show a + 1 - a + 1 = 2 by omega]
  have hl : a + 1 < o.length := by rw [C.len]; exact h
  have hl0 : a < o.length := by omega
  rw [List.getD_eq_getElem?_getD, List.getD_eq_getElem?_getD, List.getElem?_eq_getElem hl, List.getElem?_eq_getElem hl0]
  rw [List.drop_eq_getElem_cons hl0, List.drop_eq_getElem_cons hl]
  rfl
def ChP (o : List Nat) (n a : Nat) (r : List Nat) : Prop := ∃ b, a ≤ b ∧ b < n ∧ lastOf r = o.getD b 0 ∧ r = chR o a b
theorem chain_inv (C : Chain nb o n) (ha : a < n) : ∀ k, (∀ r ∈ stB nb (o.getD a 0) k, ChP o n a r) ∧ (1 ≤ k → ∀ l ∈ nb (o.getD a 0), l ∈ (stB nb (o.getD a 0) k).map lastOf)
  | 0 => ⟨fun r h => (by cases h), fun h => by omega⟩
  | k + 1 => by
    have ⟨ih1, ih2⟩ := chain_inv C ha k
    cases e : ([o.getD a 0] :: stB nb (o.getD a 0) k)[k]? with
    | none =>
      have e2 : stB nb (o.getD a 0) (k + 1) = stB nb (o.getD a 0) k := by
        show (match ([o.getD a 0] :: stB nb (o.getD a 0) k)[k]? with
          | some row => turnB nb row (stB nb (o.getD a 0) k)
          | none => stB nb (o.getD a 0) k) = _
        rw [e]
      rw [e2]
      refine ⟨ih1, fun _ => ih2 ?_⟩
      have := List.getElem?_eq_none_iff.mp e
      rw [List.length_cons] at this
      omega
    | some row =>
      rw [st_step e]
      unfold turnB
      cases k with
      | zero =>
        have er : row = [o.getD a 0] := by simpa using e.symm
        subst er
        rw [lastOf_one]
        refine ⟨fold_all' _ _ (fun r h => by cases h) fun l hl _ => ?_, fun _ l hl => fold_has _ _ _ l hl⟩
        rcases (C.nb a ha l).mp hl with z | ⟨z1, z2⟩
        · subst z
          refine ⟨a, Nat.le_refl _, ha, lastOf_app _ _, ?_⟩
          unfold chR
          rw [if_pos rfl]
          rfl
        · subst z2
          exact ⟨a + 1, by omega, z1, lastOf_app _ _, chR_one C z1⟩
      | succ k =>
        have hr : row ∈ stB nb (o.getD a 0) (k + 1) := List.mem_of_getElem? (by simpa using e)
        obtain ⟨b, hb1, hb2, hb3, hb4⟩ := ih1 row hr
        refine ⟨fold_all' _ _ ih1 fun l hl hn => ?_, fun _ l hl => ((fold_pre _ _ _).map lastOf).subset (ih2 (by omega) l hl)⟩
        rw [hb3] at hl
        rcases (C.nb b hb2 l).mp hl with z | ⟨z1, z2⟩
        · exact absurd (List.mem_map.mpr ⟨row, hr, by rw [hb3, z]⟩) hn
        · by_cases hba : b = a
          · subst hba
            exact absurd (ih2 (by omega) l hl) hn
          · rw [hb4, z2]
            exact ⟨b + 1, by omega, z1, lastOf_app _ _, chR_step C hb1 z1 hba⟩
theorem chain_has (C : Chain nb o n) (ha : a < n) : ∀ d, a + d < n → o.getD (a + d) 0 ∈ (finB nb n (o.getD a 0)).map lastOf
  | 0, h => fin_closed (r := [o.getD a 0]) C.nbl List.mem_cons_self _ (by rw [lastOf_one]; exact (C.nb a ha _).mpr (.inl rfl))
  | d + 1, h => by
    obtain ⟨r, hr, e⟩ := List.mem_map.mp (chain_has C ha d (by omega))
    refine fin_closed (r := r) C.nbl (List.mem_cons_of_mem _ hr) _ ?_
    rw [e]
    exact (C.nb _ (by omega) _).mpr (.inr ⟨h, rfl⟩)
theorem chain_way (C : Chain nb o n) (ha : a < n) {b : Nat} (hb : b < n) : wayB nb n (o.getD a 0) (o.getD b 0) = if a ≤ b then some (chR o a b) else none := by
  unfold wayB
  by_cases h : a ≤ b
  · rw [if_pos h]
    have hm := chain_has C ha (b - a) (by omega)
    rw [show a + (b - a) = b by omega] at hm
    cases e : (finB nb n (o.getD a 0)).find? fun r => lastOf r == o.getD b 0 with
    | none =>
      obtain ⟨r, hr, e2⟩ := List.mem_map.mp hm
      have := List.find?_eq_none.mp e r hr
      simp [e2] at this
    | some r =>
      have h1 := List.mem_of_find?_eq_some e
      have h2 := List.find?_some e
      obtain ⟨c, hc1, hc2, hc3, hc4⟩ := (chain_inv C ha (n + 1)).1 r h1
      have h3 : lastOf r = o.getD b 0 := by simpa using h2
      have : c = b := C.inj hc2 hb (by rw [← hc3, h3])
      subst this
      rw [hc4]
  · rw [if_neg h, List.find?_eq_none]
    intro r hr z
    obtain ⟨c, hc1, hc2, hc3, hc4⟩ := (chain_inv C ha (n + 1)).1 r hr
    have h3 : lastOf r = o.getD b 0 := by simpa using z
    have : c = b := C.inj hc2 hb (by rw [← hc3, h3])
    omega
end
def tri (f : Int) : Int := (f * (f + 1)).fdiv 2
theorem tri_two (f : Int) : 2 * tri f = f * (f + 1) := by
  unfold tri
  rw [Int.fdiv_eq_ediv_of_nonneg _ (by decide)]
  have h : f * (f + 1) % 2 = 0 := by
    rcases Int.emod_two_eq f with h | h
    · rw [Int.mul_emod, h]; simp
    · have h2 : (f + 1) % 2 = 0 := by omega
      rw [Int.mul_emod, h2]; simp
  omega
theorem chain_cost (m p q : Int) : (m - p) * q + tri (m - q) ≤ (m - p) * p + tri (m - p) ↔ q = p ∨ q = p + 1 := by
  have h1 := tri_two (m - q)
  have h2 := tri_two (m - p)
  obtain ⟨F, hF⟩ : ∃ F, F = m - p := ⟨_, rfl⟩
  obtain ⟨d, hd⟩ : ∃ d, d = p - q := ⟨_, rfl⟩
  have e1 : m - q = F + d := by omega
  have e2 : q = p - d := by omega
  rw [e1] at h1 ⊢
  rw [← hF] at h2 ⊢
  rw [e2]
  have e3 : F * (p - d) = F * p - F * d := Int.mul_sub _ _ _
  have e4 : (F + d) * (F + d + 1) = F * F + F * d + F + (d * F + d * d + d) := by
    rw [Int.mul_add, Int.mul_add, Int.add_mul, Int.add_mul]
    omega
  have e5 : F * (F + 1) = F * F + F := by rw [Int.mul_add, Int.mul_one]
  have e6 : d * F = F * d := Int.mul_comm _ _
  have e7 : d * (d + 1) = d * d + d := by rw [Int.mul_add, Int.mul_one]
  rw [e4, e6] at h1
  rw [e5] at h2
  rw [e3]
  have key : (F * p - F * d + tri (F + d) ≤ F * p + tri F) ↔ d * (d + 1) ≤ 0 := by omega
  rw [key]
  constructor
  · intro h
    by_cases h1 : 1 ≤ d
    · have := Int.mul_pos (show 0 < d by omega) (show 0 < d + 1 by omega)
      omega
    · by_cases h2 : d ≤ -2
      · have := Int.mul_pos (show 0 < -d by omega) (show 0 < -(d + 1) by omega)
        rw [Int.neg_mul_neg] at this
        omega
      · omega
  · intro h
    have : d = 0 ∨ d = -1 := by omega
    rcases this with z | z
    · rw [z]; decide
    · rw [z]; decide
end Bf
namespace Bf
/-- each one leads to the next -/
def Lead (nb : Nat → List Nat) : List Nat → Prop
  | a :: b :: r => b ∈ nb a ∧ Lead nb (b :: r)
  | _ => True
theorem Lead.app {nb : Nat → List Nat} {l : Nat} : ∀ {r : List Nat}, Lead nb r → r ≠ [] → l ∈ nb (lastOf r) → Lead nb (r ++ [l])
  | [], _, h, _ => absurd rfl h
  | [a], _, _, h => ⟨h, trivial⟩
  | a :: b :: r, h, _, hl => by
    have h2 := h.2
    have e : lastOf (a :: b :: r) = lastOf (b :: r) := by simp [lastOf]
    rw [e] at hl
    exact ⟨h.1, Lead.app h2 (by simp) hl⟩
theorem Lead.zip {nb : Nat → List Nat} : ∀ {r : List Nat}, Lead nb r → ∀ p ∈ r.zip (r.drop 1), p.2 ∈ nb p.1
  | [], _, p, h => by simp at h
  | [a], _, p, h => by simp at h
  | a :: b :: r, h, p, hp => by
    rcases List.mem_cons.mp hp with e | hp
    · rw [e]; exact h.1
    · exact Lead.zip h.2 p hp
section
variable {nb : Nat → List Nat} {n i j : Nat}
structure RowOk (nb : Nat → List Nat) (n i : Nat) (r : List Nat) : Prop where
  lead : Lead nb r
  ne : r ≠ []
  lt : ∀ x ∈ r, x < n
  hd : r.head? = some i
theorem st_rowok (hn : ∀ a, ∀ l ∈ nb a, l < n) (hi : i < n) (k : Nat) : ∀ r ∈ stB nb i k, RowOk nb n i r :=
  st_all (P := RowOk nb n i) (fun row h l hl => by
    have h0 : RowOk nb n i row := by
      rcases h with e | h
      · subst e
        exact ⟨trivial, by simp, fun x hx => by rw [List.mem_singleton.mp hx]; exact hi, rfl⟩
      · exact h
    refine ⟨h0.lead.app h0.ne hl, by simp, fun x hx => ?_, ?_⟩
    · rcases List.mem_append.mp hx with z | z
      · exact h0.lt x z
      · rw [List.mem_singleton.mp z]; exact hn _ l hl
    · rw [List.head?_append, h0.hd]; rfl) k
theorem way_mem {r : List Nat} (h : wayB nb n i j = some r) : r ∈ finB nb n i ∧ lastOf r = j := ⟨List.mem_of_find?_eq_some h, by simpa using List.find?_some h⟩
theorem way_ok (hn : ∀ a, ∀ l ∈ nb a, l < n) (hi : i < n) {r : List Nat} (h : wayB nb n i j = some r) : RowOk nb n i r := st_rowok hn hi (n + 1) r (way_mem h).1
theorem way_len {r : List Nat} (h : wayB nb n i j = some r) : r.length ≤ n + 2 := st_rowlen (n + 1) r (way_mem h).1
theorem way_self (h : i ∈ nb i) : wayB nb n i i = some [i, i] := by
  have e1 : stB nb i 1 = turnB nb [i] [] := st_step (nb := nb) (i := i) (k := 0) rfl
  have h1 : i ∈ (stB nb i 1).map lastOf := by rw [e1]; exact fold_has [i] _ _ i h
  have h2 : ∀ r ∈ stB nb i 1, r = [i, lastOf r] := by
    rw [e1]
    exact fold_all (P := fun r => r = [i, lastOf r]) _ _ (fun r h => by cases h) fun l _ => by rw [lastOf_app]; rfl
  refine find_pre (st_pre (show 1 ≤ n + 1 by omega)) ?_
  cases e : (stB nb i 1).find? fun r => lastOf r == i with
  | none =>
    obtain ⟨r, hr, e2⟩ := List.mem_map.mp h1
    have := List.find?_eq_none.mp e r hr
    simp [e2] at this
  | some r =>
    have h3 := List.mem_of_find?_eq_some e
    have h4 : lastOf r = i := by simpa using List.find?_some e
    rw [h2 r h3, h4]
end
end Bf
namespace Bf
inductive Reach (nb : Nat → List Nat) : Nat → Nat → Prop
  | refl (a : Nat) : Reach nb a a
  | step {a b c : Nat} : Reach nb a b → c ∈ nb b → Reach nb a c
section
variable {nb : Nat → List Nat} {n i j : Nat}
theorem Reach.trans {a b c : Nat} (h1 : Reach nb a b) (h2 : Reach nb b c) : Reach nb a c := by
  induction h2 with
  | refl => exact h1
  | step _ h ih => exact ih.step h
theorem Reach.head {a b c : Nat} (h1 : b ∈ nb a) (h2 : Reach nb b c) : Reach nb a c := ((Reach.refl a).step h1).trans h2
theorem Reach.lt (hn : ∀ a, ∀ l ∈ nb a, l < n) (hi : i < n) {j : Nat} (h : Reach nb i j) : j < n := by
  induction h with
  | refl => exact hi
  | step _ h _ => exact hn _ _ h
theorem way_reach (hn : ∀ a, ∀ l ∈ nb a, l < n) : (wayB nb n i j).isSome = true ↔ ∃ b, Reach nb i b ∧ j ∈ nb b := by
  constructor
  · intro h
    obtain ⟨r, hr⟩ := Option.isSome_iff_exists.mp h
    obtain ⟨h1, h2⟩ := way_mem hr
    have := st_all (nb := nb) (i := i) (P := fun r => ∃ b, Reach nb i b ∧ lastOf r ∈ nb b) (fun row h l hl => by
      refine ⟨lastOf row, ?_, by rw [lastOf_app]; exact hl⟩
      rcases h with e | ⟨b, hb, hb2⟩
      · rw [e]; exact .refl i
      · exact hb.step hb2) (n + 1) r h1
    rw [h2] at this
    exact this
  · rintro ⟨b, hb, hj⟩
    have key : ∀ b, Reach nb i b → b = i ∨ b ∈ (finB nb n i).map lastOf := by
      intro b hb
      induction hb with
      | refl => exact .inl rfl
      | @step b c _ hc ih =>
        right
        rcases ih with e | h
        · rw [e] at hc
          exact fin_closed (r := [i]) hn List.mem_cons_self _ hc
        · obtain ⟨r, hr, e⟩ := List.mem_map.mp h
          exact fin_closed (r := r) hn (List.mem_cons_of_mem _ hr) _ (by rw [e]; exact hc)
    have hj2 : j ∈ (finB nb n i).map lastOf := by
      rcases key b hb with e | h
      · rw [e] at hj
        exact fin_closed (r := [i]) hn List.mem_cons_self _ hj
      · obtain ⟨r, hr, e⟩ := List.mem_map.mp h
        exact fin_closed (r := r) hn (List.mem_cons_of_mem _ hr) _ (by rw [e]; exact hj)
    obtain ⟨r, hr, e⟩ := List.mem_map.mp hj2
    unfold wayB
    cases q : (finB nb n i).find? fun r => lastOf r == j with
    | some r => rfl
    | none =>
      have := List.find?_eq_none.mp q r hr
      simp [e] at this
theorem way_reach_ne (hn : ∀ a, ∀ l ∈ nb a, l < n) (hij : i ≠ j) : (wayB nb n i j).isSome = true ↔ Reach nb i j := by
  rw [way_reach hn]
  constructor
  · rintro ⟨b, h1, h2⟩; exact h1.step h2
  · intro h
    cases h with
    | refl => exact absurd rfl hij
    | step h1 h2 => exact ⟨_, h1, h2⟩
structure RowNd (i : Nat) (app : List (List Nat)) (r : List Nat) : Prop where
  ex : ∃ t, r = i :: t ∧ t ≠ [] ∧ t.Nodup ∧ (∀ x ∈ t, x ∈ app.map lastOf) ∧ (i ∈ t → lastOf r = i)
theorem RowNd.grow {app app' : List (List Nat)} {r : List Nat} (h : RowNd i app r) (hp : app <+: app') : RowNd i app' r := by
  obtain ⟨t, h1, h2, h3, h4, h5⟩ := h.ex
  exact ⟨t, h1, h2, h3, fun x hx => (hp.map lastOf).subset (h4 x hx), h5⟩
theorem fold_nd {row : List Nat} (hrow : row = [i] ∨ (lastOf row ≠ i ∧ ∃ app0, RowNd i app0 row)) : ∀ (ls : List Nat) (app : List (List Nat)), (∀ r ∈ app, RowNd i app r) → (row ≠ [i] → RowNd i app row) → ∀ r ∈ ls.foldl (addOne row) app, RowNd i (ls.foldl (addOne row) app) r
  | [], app, h, _ => h
  | l :: ls, app, h, hr => by
    have hp := add_pre row app l
    refine fold_nd hrow ls (addOne row app l) (fun r hr2 => ?_) fun z => (hr z).grow hp
    by_cases hin : l ∈ app.map lastOf
    · have e : addOne row app l = app := if_pos hin
      rw [e] at hr2 ⊢
      exact h r hr2
    · have e : addOne row app l = app ++ [row ++ [l]] := if_neg hin
      rw [e] at hr2 ⊢
      rcases List.mem_append.mp hr2 with z | z
      · exact (h r z).grow (List.prefix_append _ _)
      · rw [List.mem_singleton.mp z]
        have hk : l ∈ (app ++ [row ++ [l]]).map lastOf := by
          rw [List.map_append, List.map_cons, List.map_nil, lastOf_app]
          exact List.mem_append_right _ (List.mem_singleton.mpr rfl)
        rcases hrow with e1 | ⟨h1, app0, h2⟩
        · subst e1
          refine ⟨[l], rfl, by simp, by simp, fun x hx => ?_, fun hx => ?_⟩
          · rw [List.mem_singleton.mp hx]; exact hk
          · rw [lastOf_app]; exact (List.mem_singleton.mp hx).symm
        · have hne : row ≠ [i] := fun z => h1 (by rw [z]; rfl)
          obtain ⟨t, t1, t2, t3, t4, t5⟩ := (hr hne).ex
          refine ⟨t ++ [l], by rw [t1]; rfl, by simp, ?_, fun x hx => ?_, fun hx => ?_⟩
          · rw [List.nodup_append]
            refine ⟨t3, by simp, fun a ha b hb e => hin ?_⟩
            rw [← List.mem_singleton.mp hb, ← e]
            exact t4 a ha
          · rcases List.mem_append.mp hx with z | z
            · rw [List.map_append]; exact List.mem_append_left _ (t4 x z)
            · rw [List.mem_singleton.mp z]; exact hk
          · rcases List.mem_append.mp hx with z | z
            · exact absurd (t5 z) h1
            · rw [lastOf_app]; exact (List.mem_singleton.mp z).symm
theorem fold_none {row : List Nat} : ∀ (ls : List Nat) (app : List (List Nat)), (∀ l ∈ ls, l ∈ app.map lastOf) → ls.foldl (addOne row) app = app
  | [], app, _ => rfl
  | l :: ls, app, h => by
    have e : addOne row app l = app := if_pos (h l List.mem_cons_self)
    rw [List.foldl_cons, e]
    exact fold_none ls app fun x hx => h x (List.mem_cons_of_mem _ hx)
theorem st_nd : ∀ k, (∀ r ∈ stB nb i k, RowNd i (stB nb i k) r) ∧ (1 ≤ k → ∀ l ∈ nb i, l ∈ (stB nb i k).map lastOf)
  | 0 => ⟨fun r h => (by cases h), fun h => by omega⟩
  | k + 1 => by
    have ⟨ih1, ih2⟩ := st_nd (k := k)
    cases e : ([i] :: stB nb i k)[k]? with
    | none =>
      have e2 : stB nb i (k + 1) = stB nb i k := by
        show (match ([i] :: stB nb i k)[k]? with
          | some row => turnB nb row (stB nb i k)
          | none => stB nb i k) = _
        rw [e]
      rw [e2]
      refine ⟨ih1, fun _ => ih2 ?_⟩
      have := List.getElem?_eq_none_iff.mp e
      rw [List.length_cons] at this
      omega
    | some row =>
      rw [st_step e]
      unfold turnB
      cases k with
      | zero =>
        have er : row = [i] := by simpa using e.symm
        subst er
        exact ⟨fold_nd (.inl rfl) _ _ (fun r h => by cases h) (fun z => absurd rfl z), fun _ l hl => fold_has _ _ _ l hl⟩
      | succ k =>
        have hr : row ∈ stB nb i (k + 1) := List.mem_of_getElem? (by simpa using e)
        by_cases hl : lastOf row = i
        · rw [hl, fold_none _ _ (ih2 (by omega))]
          exact ⟨ih1, fun _ => ih2 (by omega)⟩
        · exact ⟨fold_nd (.inr ⟨hl, _, ih1 row hr⟩) _ _ ih1 fun _ => ih1 row hr, fun _ l hl => ((fold_pre _ _ _).map lastOf).subset (ih2 (by omega) l hl)⟩
theorem way_nodup (hij : i ≠ j) {r : List Nat} (h : wayB nb n i j = some r) : r.Nodup := by
  obtain ⟨h1, h2⟩ := way_mem h
  obtain ⟨t, t1, t2, t3, t4, t5⟩ := ((st_nd (n + 1)).1 r h1).ex
  rw [t1, List.nodup_cons]
  exact ⟨fun z => hij (by rw [← t5 z, h2]), t3⟩
def cyc (r : List Nat) : List (Nat × Nat) := r.zip (r.drop 1 ++ r.take 1)
structure IsRing (rel bt : Nat → Nat → Bool) (n : Nat) (r : List Nat) : Prop where
  nd : r.Nodup
  two : 2 ≤ r.length
  lt : ∀ x ∈ r, x < n
  rel : ∀ p ∈ cyc r, rel p.1 p.2 = true
  bt : ∃ p ∈ cyc r, bt p.1 p.2 = true
/-- a choice leads back to one that shows it better -/
def HasRing (nb : Nat → List Nat) (bt : Nat → Nat → Bool) (n : Nat) : Prop := ∃ i j, i < n ∧ j ∈ nb i ∧ i ≠ j ∧ bt i j = true ∧ Reach nb j i
theorem ring_of_way {rel bt : Nat → Nat → Bool} (hn : ∀ a, ∀ l ∈ nb a, l < n) (hrel : ∀ a, a < n → ∀ l ∈ nb a, rel a l = true) (hi : i < n) (hj : j ∈ nb i) (hij : i ≠ j) (hb : bt i j = true) {r : List Nat} (h : wayB nb n j i = some r) : IsRing rel bt n (i :: r.dropLast) ∧ (i :: r.dropLast).length ≤ n + 2 := by
  have ok := way_ok hn (hn _ _ hj) h
  have nd := way_nodup (Ne.symm hij) h
  have hl := (way_mem h).2
  have len := way_len h
  have hne := ok.ne
  have er : r = r.dropLast ++ [i] := by
    have e2 : r.getLast hne = i := by
      rw [← hl]
      unfold lastOf
      rw [List.getLastD_eq_getLast?, List.getLast?_eq_some_getLast hne]
      rfl
    rw [← e2]
    exact (List.dropLast_concat_getLast hne).symm
  have hd : r.head? = some j := ok.hd
  have hdl : r.dropLast ≠ [] := by
    intro z
    rw [z] at er
    rw [er] at hd
    simp at hd
    exact hij hd
  obtain ⟨t, ht⟩ : ∃ t, r.dropLast = j :: t := by
    cases e : r.dropLast with
    | nil => exact absurd e hdl
    | cons x t =>
      rw [e] at er
      rw [er] at hd
      simp at hd
      exact ⟨t, by rw [hd]⟩
  have ecyc : cyc (i :: r.dropLast) = (i, j) :: r.zip (r.drop 1) := by
    unfold cyc
    have e1 : (i :: r.dropLast).drop 1 ++ (i :: r.dropLast).take 1 = r := by
      simp only [List.drop_succ_cons, List.drop_zero, List.take_succ_cons, List.take_zero]
      exact er.symm
    rw [e1]
    have e3 : r = j :: (t ++ [i]) := by rw [er, ht]; rfl
    have e4 : (i :: r.dropLast).zip r = (i, j) :: (r.dropLast).zip (t ++ [i]) := by
      conv => lhs; rhs; rw [e3]
      rfl
    rw [e4]
    congr 1
    have e5 : r.drop 1 = t ++ [i] := by rw [e3]; rfl
    rw [e5]
    have e6 : r.zip (t ++ [i]) = (r.dropLast ++ [i]).zip (t ++ [i]) := by rw [← er]
    have hlen : r.dropLast.length = (t ++ [i]).length := by rw [ht]; simp
    rw [e6]
    have : (r.dropLast ++ [i]).zip ((t ++ [i]) ++ []) = r.dropLast.zip (t ++ [i]) ++ [i].zip [] := List.zip_append hlen
    simpa using this.symm
  refine ⟨⟨?_, ?_, ?_, ?_, ?_⟩, ?_⟩
  · rw [List.nodup_cons]
    rw [er, List.nodup_append] at nd
    exact ⟨fun z => nd.2.2 i z i (List.mem_singleton.mpr rfl) rfl, nd.1⟩
  · rw [ht]; simp
  · intro x hx
    rcases List.mem_cons.mp hx with z | z
    · rw [z]; exact hi
    · exact ok.lt x ((List.dropLast_sublist r).subset z)
  · rw [ecyc]
    intro p hp
    rcases List.mem_cons.mp hp with z | z
    · rw [z]; exact hrel i hi j hj
    · exact hrel _ (ok.lt _ (List.of_mem_zip z).1) _ (ok.lead.zip p z)
  · exact ⟨(i, j), by rw [ecyc]; exact List.mem_cons_self, hb⟩
  · have := congrArg List.length er
    rw [List.length_append] at this
    simp only [List.length_cons, List.length_nil] at this ⊢
    omega
end
section
variable {nb : Nat → List Nat} {n i : Nat}
structure Grow (nb : Nat → List Nat) (i : Nat) (found waiting : List Nat) : Prop where
  has : i ∈ found
  nd : found.Nodup
  reach : ∀ x ∈ found, Reach nb i x
  sub : ∀ x ∈ waiting, x ∈ found
  cl : ∀ x ∈ found, x ∈ waiting ∨ ∀ l ∈ nb x, l ∈ found
theorem Grow.fin {found : List Nat} (g : Grow nb i found []) (x : Nat) : x ∈ found ↔ Reach nb i x := by
  refine ⟨g.reach x, fun h => ?_⟩
  induction h with
  | refl => exact g.has
  | step _ hc ih =>
    rcases g.cl _ ih with z | z
    · cases z
    · exact z _ hc
end
end Bf
set_option maxHeartbeats 1000000
namespace Pk
open PySem Mi Bf
open Mi.Enc (enc)
def relT (t : Tab) (i j : Nat) : Bool := (tw t i j).isSome
def btT (t : Tab) (i j : Nat) : Bool := tw t i j == some true
def RingRes (t : Tab) : Option (List Nat) → Prop
  | none => ¬ HasRing (nbT t) (btT t) t.length
  | some r => (IsRing (relT t) (btT t) t.length r ∧ r.length ≤ t.length + 2) ∧ HasRing (nbT t) (btT t) t.length
theorem nbT_rel (t : Tab) (a : Nat) (l : Nat) (h : l ∈ nbT t a) : relT t a l = true := (List.mem_filter.mp h).2
def s_Showing_ring : FSpec := ⟨"ring", "Showing", 3, 1, false, fun ds Q _ => ∃ t : Tab, ds = [shw t] ∧ Sq t ∧ ∀ w, RingRes t w → Q (optD w)⟩
theorem a_Showing_ring : s_Showing_ring.ar = 1 := rfl
theorem c_Showing_ring (t : Tab) (Q : DK) (E : XP) : s_Showing_ring.spec [shw t] Q E = (Sq t ∧ ∀ w, RingRes t w → Q (optD w)) := by
  refine propext ⟨?_, fun h => ⟨t, rfl, h⟩⟩
  rintro ⟨t', e, h⟩
  simp only [List.cons.injEq, shw_inj, and_true] at e
  subst e
  exact h
theorem m_Showing_ring (t : Tab) : ∃ fs ds, shw t = .ins s_Showing_ring.cls fs ds ∧ s_Showing_ring.name ∉ fs := shw_meth t _ (by decide)
theorem shp_wd (o : Option Bool) : (wd o).shp = true := by
  cases o with
  | none => rfl
  | some b => cases b <;> decide +kernel
theorem shp_better : (D.str "better").shp = true := by decide +kernel
theorem eqv_better (o : Option Bool) : D.eqv (wd o) (.str "better") = (o == some true) := by
  cases o with
  | none => rw [show wd none = D.non from rfl, eqv_ns]; rfl
  | some b => cases b <;> (simp only [wd, eqv_str]; decide +kernel)
theorem sl_drop {Q : DK} (r : List Nat) (h : r ≠ []) : slcSem (enc r) none (some (-1)) Q = Q (enc r.dropLast) := by
  have hl : 0 < r.length := List.length_pos_iff.mpr h
  rw [enc_list, sl_tup]
  have e1 : cutIx (r.map enc).length 0 none = 0 := rfl
  have e2 : cutIx (r.map enc).length (r.map enc).length (some (-1)) = r.length - 1 := by
    show (if (-1 : Int) < 0 then ((-1 : Int) + ((r.map enc).length : Nat)).toNat else min (-1 : Int).toNat (r.map enc).length) = _
    rw [if_pos (by decide), List.length_map]
    omega
  rw [e1, e2, List.drop_zero, Nat.sub_zero, ← List.map_take, enc_list, List.dropLast_eq_take]
theorem b_cons {Q : DK} (i : Nat) (xs : List Nat) : binSem .Add (.tup [.int i]) (enc xs) Q = (1 + xs.length ≤ lim ∧ Q (enc (i :: xs))) := by
  rw [enc_list, b_addT, enc_list, List.map_cons, List.length_map]
  rfl
local macro_rules | `(tactic| walk_at "wk") => `(tactic| simp only [recD_tyd, recD_own, recD_goods, recD_rows, recD_hard, a_is_within, c_is_within, shw_many, shw_words, shw_hard, a_check_two, c_check_two, a_Showing_behind, c_Showing_behind, m_Showing_behind, a_Showing_way, c_Showing_way, m_Showing_way, optD_isN, optD_hard, eqv_better, shp_wd, shp_better, ↓gS_va, ↓gS_ow, ↓gS_lk, ↓gS_s, ↓gO_ow, ↓gO_s, ↓f1_va, ↓f1_ow, ↓f1_lk, ↓f1_hn, ↓f1_sc, ↓f1_un, ↓f1_s, ↓f1_nil, ↓frz_nil, ↓frz_cons, ↓wip_nil, ↓wip_cons, ↓thaw_t, ↓thaw_f, ↓set_z, ↓set_s, ↓lock_n, ↓zs_tt, ↓zs_ll, ↓st_lst, ↓st_dct, ↓noHn_nil, ↓noHn_cons, ↓nhn_va, ↓nhn_ow, ↓nhn_lk, ↓nhn_un, ↓nhn_sc, ↓w_var, ↓w_con, ↓w_glo, ↓w_op, ↓w_bm, ↓w_chn, ↓w_and, ↓w_or, ↓w_not, ↓w_ife, ↓w_isi, ↓w_call, ↓w_callh, ↓w_meth, ↓w_eqo, ↓w_lz, ↓w_ds1, ↓w_ss, ↓w_make, ↓w_slc, ↓w_nop, ↓w_lc, ↓w_dsp, ↓w_pop, ↓w_popAt, ↓w_anil, ↓w_acons, ↓w_itS, ↓w_itX, ↓w_itR, ↓w_itE, ↓w_itZ, ↓t_and, ↓t_or, ↓t_not, ↓t_var, ↓t_con, ↓t_op, ↓t_chn, ↓t_isi, ↓t_call, ↓t_callh, ↓t_meth, ↓t_eqo, ↓hn_ex, ↓tr_bl, ↓tr_int, ↓tr_non, ↓tr_tup, ↓tr_lst, ↓o_bin, ↓o_cmp, ↓o_neg, ↓o_tup, ↓o_lst, ↓o_idx, ↓o_fld, ↓o_blt, ↓b_add, ↓b_addT, ↓b_addL, ↓b_addS, ↓b_sub, ↓b_mul, ↓b_mulT, ↓b_mulL, ↓b_div, ↓b_mod, ↓b_pow, ↓c_eq, ↓c_ne, ↓c_lt, ↓c_le, ↓c_gt, ↓c_ge, ↓c_is, ↓c_isn, ↓c_isB, ↓c_isnB, ↓isBl_t, ↓isBl_f, ↓c_inL, ↓c_inT, ↓c_inD, ↓c_niL, ↓c_niT, ↓c_niD, ↓x_dct, ↓fl_ins, ↓bl_len, ↓bl_all, ↓bl_any, ↓bl_sum, ↓bl_tupL, ↓bl_tupT, ↓bl_lstR, ↓bl_lstL, ↓bl_lstT, ↓bl_int, ↓bl_intB, ↓bl_abs, ↓bl_min2, ↓bl_max2, ↓bl_dict, ↓bl_rng, ↓bl_srt, ↓ln_lst, ↓ln_tup, ↓ln_dct, ↓sq_lst, ↓sq_tup, ↓m_get2, ↓m_get1, ↓m_ix, ↓h_get2, ↓h_get1, ↓h_ix, ↓i_lst, ↓i_tup, ↓i_rng, ↓r_one, ↓r_two, ↓g_nm, ↓g_tp, ↓g_nil, ↓g_cons, ↓gl_nil, ↓gl_cons, ↓ty_non_int, ↓ty_non_bool, ↓ty_non_tuple, ↓ty_non_list, ↓ty_non_str, ↓ty_non_dict, ↓tyd_non, ↓ty_non_own, ↓isn_non, ↓con_non, ↓ty_bl_int, ↓ty_bl_bool, ↓ty_bl_tuple, ↓ty_bl_list, ↓ty_bl_str, ↓ty_bl_dict, ↓tyd_bl, ↓ty_bl_own, ↓isn_bl, ↓con_bl, ↓ty_int_int, ↓ty_int_bool, ↓ty_int_tuple, ↓ty_int_list, ↓ty_int_str, ↓ty_int_dict, ↓tyd_int, ↓ty_int_own, ↓isn_int, ↓con_int, ↓ty_str_int, ↓ty_str_bool, ↓ty_str_tuple, ↓ty_str_list, ↓ty_str_str, ↓ty_str_dict, ↓tyd_str, ↓ty_str_own, ↓isn_str, ↓con_str, ↓ty_tup_int, ↓ty_tup_bool, ↓ty_tup_tuple, ↓ty_tup_list, ↓ty_tup_str, ↓ty_tup_dict, ↓tyd_tup, ↓ty_tup_own, ↓isn_tup, ↓con_tup, ↓ty_lst_int, ↓ty_lst_bool, ↓ty_lst_tuple, ↓ty_lst_list, ↓ty_lst_str, ↓ty_lst_dict, ↓tyd_lst, ↓ty_lst_own, ↓isn_lst, ↓con_lst, ↓ty_dct_int, ↓ty_dct_bool, ↓ty_dct_tuple, ↓ty_dct_list, ↓ty_dct_str, ↓ty_dct_dict, ↓tyd_dct, ↓ty_dct_own, ↓isn_dct, ↓con_dct, ↓ty_ins_int, ↓ty_ins_bool, ↓ty_ins_tuple, ↓ty_ins_list, ↓ty_ins_str, ↓ty_ins_dict, ↓tyd_ins, ↓ty_ins_own, ↓isn_ins, ↓con_ins, ↓hin_lst, ↓hin_dct, ↓fla_non, ↓fla_bl, ↓fla_int, ↓fla_str, ↓key_int, ↓key_str, ↓po_nop, ↓po_var, ↓po_con, ↓po_op, ↓sl_tup, ↓sl_lst, ↓s_nil, ↓s_seq, ↓s_asg, ↓s_par, ↓s_aug, ↓s_exp, ↓s_app, ↓s_ext, ↓s_sti, ↓s_ret, ↓s_retn, ↓s_ifs, ↓s_wh, ↓s_rs, ↓s_pas, ↓s_con, ↓s_brk, ↓s_nev, ↓s_mkh, ↓s_frX, ↓s_frS, ↓s_frR, ↓s_frE, ↓s_frZ, ↓p_nil, ↓p_cons, ↓ps_nil, ↓ps_cons, ↓po_nil, ↓po_cons, ↓pv_nil, ↓pv_cons, ↓ok_t, ↓ok_f, ↓mk_t, ↓mk_f, ↓sef_nil, ↓sef_cons, hard_ints, hard_map, hard_nats, Int.reduceToNat, eqv_lst_nil, shp_lst_nil, x_encP0, x_encP1,  ↓List.forall_mem_map,  List.isEmpty_map, Int.reduceLT, Int.reduceLE, ln_enc, i_enc, sq_enc, enc_hard, tr_enc, ty_enc_tuple, ty_enc_list, ty_enc_int, ty_enc_bool, tyd_enc, isn_enc, b_enc, eqv_int, eqv_bl, eqv_str, eqv_nn, eqv_tn, eqv_nt, eqv_in, eqv_ni, eqv_sn, eqv_ns, x_pair0, x_pair1, shp_int, shp_non, shp_bl, lcF_eq, enc_int, enc_nat, enc_bool, decide_eq_true_eq, Bool.not_eq_true', decide_eq_false_iff_not, Bool.not_not, ite_not, List.length_map, Option.some.injEq, exists_eq_left', exists_eq_left, exists_eq_right, exists_eq_right', and_true, true_and, true_implies, List.length_cons, List.length_nil, if_true, if_false, ite_true, ite_false, Bool.false_eq_true, reduceCtorEq, false_implies, List.cons_append, List.nil_append, vars, gvars, D.hard, hardAll, Bool.and_true, Bool.true_and, Bool.not_true, Bool.not_false, List.any_cons, List.any_nil, List.all_cons, List.all_nil, Bool.or_false, Bool.or_true, Bool.false_or, Bool.true_or, Bool.and_false, Bool.false_and, beq_self_eq_true, itSlot, List.getElem?_cons_succ, List.getElem?_cons_zero, D.bl.injEq, fldAt, exists_const, false_or, or_false, false_and, and_false, exists_false, Int.sub_zero, Int.toNat_natCast, Int.zero_add, zs_tt, zs_ll, zs_ee, st_lst, st_dct, exists_eq', D.lst.injEq, D.int.injEq, Option.isNone_none, Option.isNone_some, List.set_cons_zero, b_snoc, Nat.reduceAdd, Nat.reduceLeDiff, Nat.reduceSub, enQ])
def n_Showing_ring : List Str := ["self", "i", "j", "row"]
def p_Showing_ring : List Str := ["self"]
def b_Showing_ring : MS := (.seq (.fr (.nm 1) (.itR (.acons (.op (.fld "many") (.acons (.var 0) .anil)) .anil)) (.seq (.fr (.nm 2) (.itS (.meth s_Showing_behind (.var 0) (.acons (.var 1) .anil))) (.seq (.ifs (.and (.op (.cmp .NotEq) (.acons (.var 1) (.acons (.var 2) .anil))) (.op (.cmp .Eq) (.acons (.op .idx (.acons (.op .idx (.acons (.op (.fld "words") (.acons (.var 0) .anil)) (.acons (.var 1) .anil))) (.acons (.var 2) .anil))) (.acons (.glo "BETTER" (.str "better")) .anil)))) (.seq (.asg (.nm 3) (.meth s_Showing_way (.var 0) (.acons (.var 2) (.acons (.var 1) .anil)))) (.seq (.ifs (.op (.cmp .IsNot) (.acons (.var 3) (.acons (.con .non) .anil))) (.seq (.ret (.op (.bin .Add) (.acons (.op .tup (.acons (.var 1) .anil)) (.acons (.slc (.var 3) .nop (.op .neg (.acons (.con (.int 1)) .anil))) .anil)))) .nil) .nil) .nil)) .nil) .nil)) .nil)) (.seq (.ret (.con .non)) .nil))
def ringS (t : Tab) (x1 x2 x3 : Sl) : List Sl := [.va (shw t), x1, x2, x3]
theorem w_Showing_ring : FW s_Showing_ring b_Showing_ring 3 := .of rfl fun _ Q E ⟨t, e, h, q⟩ => by
  subst e
  have hn := nbT_lt t
  have hl := h.le
  unfold b_Showing_ring
  simp only [List.map_cons, List.map_nil, List.replicate, List.cons_append, List.nil_append]
  walk_at "wk"
  refine ⟨rngOk_nat (by omega), ?_⟩
  refine frGo_rng (fun m S => ∃ x1 x2 x3, (∀ i, i < m → ∀ j ∈ nbT t i, i ≠ j → btT t i j = true → ¬ Reach (nbT t) j i) ∧ S = ringS t x1 x2 x3) ⟨_, _, _, fun i hi => by omega, rfl⟩ ?_ ?_
  · rintro i S N hi ⟨x1, x2, x3, hno, rfl⟩ kN
    unfold ringS
    walk_at "wk"
    refine ⟨⟨h, hi⟩, ?_⟩
    refine frGo_pre (fun pre S => ∃ (x2 x3 : Sl) (ls : List Nat), pre = ls.map (fun (k : Nat) => D.int k) ∧ (∀ j ∈ ls, i ≠ j → btT t i j = true → ¬ Reach (nbT t) j i) ∧ S = ringS t (.va (.int i)) x2 x3) ⟨x2, x3, [], rfl, fun j hj => by (cases hj), rfl⟩ ?_ ?_
    · rintro pre d post S N' hpre ⟨x2, x3, ls, rfl, hls, rfl⟩ kN'
      refine ⟨trivial, ?_⟩
      have hd : d ∈ (nbT t i).map fun (j : Nat) => D.int j := by rw [hpre]; simp
      obtain ⟨j, hj, rfl⟩ := List.mem_map.mp hd
      have hjn := hn _ _ hj
      have go : ∀ x2 x3, (i ≠ j → btT t i j = true → ¬ Reach (nbT t) j i) → N' (ringS t (.va (.int i)) x2 x3) := by
        intro x2 x3 hr
        refine kN' _ ⟨x2, x3, ls ++ [j], by simp, fun k hk => ?_, rfl⟩
        rcases List.mem_append.mp hk with z | z
        · exact hls k z
        · rw [List.mem_singleton.mp z]; exact hr
      unfold ringS
      walk_at "wk"
      by_cases hij : i = j
      · rw [if_pos (by omega)]
        exact go _ _ fun z => absurd hij z
      · rw [if_neg (by omega), x_tab h hi hjn]
        walk_at "wk"
        cases hb : btT t i j with
        | false =>
          have e : (tw t i j == some true) = false := hb
          rw [e, if_neg Bool.false_ne_true]
          exact go _ _ fun _ z => by rw [hb] at z; cases z
        | true =>
          have e : (tw t i j == some true) = true := hb
          rw [e, if_pos rfl]
          refine ⟨⟨h, hjn, hi⟩, ?_⟩
          cases hw : wayB (nbT t) t.length j i with
          | none =>
            rw [if_neg (by decide)]
            refine go _ _ fun _ _ z => ?_
            have := (way_reach_ne hn (Ne.symm hij)).mpr z
            rw [hw] at this
            cases this
          | some r =>
            have ok := way_ok hn hjn hw
            have hrl := way_len hw
            have rr := ring_of_way (rel := relT t) (bt := btT t) hn (fun a _ l hl => nbT_rel t a l hl) hi hj hij hb hw
            rw [if_pos Option.isNone_some, optD_some, sl_drop _ ok.ne, b_cons]
            exact ⟨by rw [List.length_dropLast, lim_eq']; omega, q (some (i :: r.dropLast)) ⟨rr, i, j, hi, hj, hij, hb, (way_reach_ne hn (Ne.symm hij)).mp (by rw [hw]; rfl)⟩⟩
    · rintro S ⟨x2, x3, ls, e, hls, rfl⟩
      have els : ls = nbT t i := (map_inj (fun (a b : Nat) (z : D.int a = D.int b) => by injection z with z; omega) e).symm
      subst els
      refine ⟨trivial, kN _ ⟨_, _, _, fun i' hi' => ?_, rfl⟩⟩
      by_cases e2 : i' = i
      · subst e2; exact hls
      · exact hno i' (by omega)
  · rintro S ⟨x1, x2, x3, hno, rfl⟩
    refine ⟨trivial, ?_⟩
    refine q none fun ⟨i, j, h1, h2, h3, h4, h5⟩ => hno i h1 j h2 h3 h4 h5
def HasR (rs : Rows) : Prop := HasRing (nbR rs) (btT (tabOf rs)) rs.length
theorem hasR_eq (rs : Rows) : HasRing (nbT (tabOf rs)) (btT (tabOf rs)) (tabOf rs).length = HasR rs := by
  unfold HasR nbR
  rw [tabOf_len]
def s_is_fitting : FSpec := ⟨"is_fitting", "", 5, 1, false, fun ds Q _ => ∃ (g : Int) (rs : Rows), ds = [recD g rs] ∧ OkR g rs ∧ ∀ b : Bool, (b = true ↔ ¬ HasR rs) → Q (.bl b)⟩
theorem a_is_fitting : s_is_fitting.ar = 1 := rfl
theorem c_is_fitting (g : Int) (rs : Rows) (Q : DK) (E : XP) : s_is_fitting.spec [recD g rs] Q E = (OkR g rs ∧ ∀ b : Bool, (b = true ↔ ¬ HasR rs) → Q (.bl b)) := by
  refine propext ⟨?_, fun h => ⟨g, rs, rfl, h⟩⟩
  rintro ⟨g', rs', e, h⟩
  simp only [List.cons.injEq, recD_inj, and_true] at e
  obtain ⟨rfl, rfl⟩ := e
  exact h
theorem ringRes_iff {t : Tab} {w : Option (List Nat)} (h : RingRes t w) : w.isNone = true ↔ ¬ HasRing (nbT t) (btT t) t.length := by
  cases w with
  | none => exact ⟨fun _ => h, fun _ => rfl⟩
  | some r => exact ⟨fun z => (by cases z), fun z => absurd h.2 z⟩
theorem ringRes_R {rs : Rows} {w : Option (List Nat)} (h : RingRes (tabOf rs) w) : w.isNone = true ↔ ¬ HasR rs := by
  rw [← hasR_eq]; exact ringRes_iff h
local macro_rules | `(tactic| walk_at "wk") => `(tactic| simp only [recD_tyd, recD_own, recD_goods, recD_rows, recD_hard, a_check_record, c_check_record, a_showing_of, c_showing_of, a_Showing_ring, c_Showing_ring, m_Showing_ring, optD_isN, optD_hard, a_is_row, c_is_row, ↓gS_va, ↓gS_ow, ↓gS_lk, ↓gS_s, ↓gO_ow, ↓gO_s, ↓f1_va, ↓f1_ow, ↓f1_lk, ↓f1_hn, ↓f1_sc, ↓f1_un, ↓f1_s, ↓f1_nil, ↓frz_nil, ↓frz_cons, ↓wip_nil, ↓wip_cons, ↓thaw_t, ↓thaw_f, ↓set_z, ↓set_s, ↓lock_n, ↓zs_tt, ↓zs_ll, ↓st_lst, ↓st_dct, ↓noHn_nil, ↓noHn_cons, ↓nhn_va, ↓nhn_ow, ↓nhn_lk, ↓nhn_un, ↓nhn_sc, ↓w_var, ↓w_con, ↓w_glo, ↓w_op, ↓w_bm, ↓w_chn, ↓w_and, ↓w_or, ↓w_not, ↓w_ife, ↓w_isi, ↓w_call, ↓w_callh, ↓w_meth, ↓w_eqo, ↓w_lz, ↓w_ds1, ↓w_ss, ↓w_make, ↓w_slc, ↓w_nop, ↓w_lc, ↓w_dsp, ↓w_pop, ↓w_popAt, ↓w_anil, ↓w_acons, ↓w_itS, ↓w_itX, ↓w_itR, ↓w_itE, ↓w_itZ, ↓t_and, ↓t_or, ↓t_not, ↓t_var, ↓t_con, ↓t_op, ↓t_chn, ↓t_isi, ↓t_call, ↓t_callh, ↓t_meth, ↓t_eqo, ↓hn_ex, ↓tr_bl, ↓tr_int, ↓tr_non, ↓tr_tup, ↓tr_lst, ↓o_bin, ↓o_cmp, ↓o_neg, ↓o_tup, ↓o_lst, ↓o_idx, ↓o_fld, ↓o_blt, ↓b_add, ↓b_addT, ↓b_addL, ↓b_addS, ↓b_sub, ↓b_mul, ↓b_mulT, ↓b_mulL, ↓b_div, ↓b_mod, ↓b_pow, ↓c_eq, ↓c_ne, ↓c_lt, ↓c_le, ↓c_gt, ↓c_ge, ↓c_is, ↓c_isn, ↓c_isB, ↓c_isnB, ↓isBl_t, ↓isBl_f, ↓c_inL, ↓c_inT, ↓c_inD, ↓c_niL, ↓c_niT, ↓c_niD, ↓x_dct, ↓fl_ins, ↓bl_len, ↓bl_all, ↓bl_any, ↓bl_sum, ↓bl_tupL, ↓bl_tupT, ↓bl_lstR, ↓bl_lstL, ↓bl_lstT, ↓bl_int, ↓bl_intB, ↓bl_abs, ↓bl_min2, ↓bl_max2, ↓bl_dict, ↓bl_rng, ↓bl_srt, ↓ln_lst, ↓ln_tup, ↓ln_dct, ↓sq_lst, ↓sq_tup, ↓m_get2, ↓m_get1, ↓m_ix, ↓h_get2, ↓h_get1, ↓h_ix, ↓i_lst, ↓i_tup, ↓i_rng, ↓r_one, ↓r_two, ↓g_nm, ↓g_tp, ↓g_nil, ↓g_cons, ↓gl_nil, ↓gl_cons, ↓ty_non_int, ↓ty_non_bool, ↓ty_non_tuple, ↓ty_non_list, ↓ty_non_str, ↓ty_non_dict, ↓tyd_non, ↓ty_non_own, ↓isn_non, ↓con_non, ↓ty_bl_int, ↓ty_bl_bool, ↓ty_bl_tuple, ↓ty_bl_list, ↓ty_bl_str, ↓ty_bl_dict, ↓tyd_bl, ↓ty_bl_own, ↓isn_bl, ↓con_bl, ↓ty_int_int, ↓ty_int_bool, ↓ty_int_tuple, ↓ty_int_list, ↓ty_int_str, ↓ty_int_dict, ↓tyd_int, ↓ty_int_own, ↓isn_int, ↓con_int, ↓ty_str_int, ↓ty_str_bool, ↓ty_str_tuple, ↓ty_str_list, ↓ty_str_str, ↓ty_str_dict, ↓tyd_str, ↓ty_str_own, ↓isn_str, ↓con_str, ↓ty_tup_int, ↓ty_tup_bool, ↓ty_tup_tuple, ↓ty_tup_list, ↓ty_tup_str, ↓ty_tup_dict, ↓tyd_tup, ↓ty_tup_own, ↓isn_tup, ↓con_tup, ↓ty_lst_int, ↓ty_lst_bool, ↓ty_lst_tuple, ↓ty_lst_list, ↓ty_lst_str, ↓ty_lst_dict, ↓tyd_lst, ↓ty_lst_own, ↓isn_lst, ↓con_lst, ↓ty_dct_int, ↓ty_dct_bool, ↓ty_dct_tuple, ↓ty_dct_list, ↓ty_dct_str, ↓ty_dct_dict, ↓tyd_dct, ↓ty_dct_own, ↓isn_dct, ↓con_dct, ↓ty_ins_int, ↓ty_ins_bool, ↓ty_ins_tuple, ↓ty_ins_list, ↓ty_ins_str, ↓ty_ins_dict, ↓tyd_ins, ↓ty_ins_own, ↓isn_ins, ↓con_ins, ↓hin_lst, ↓hin_dct, ↓fla_non, ↓fla_bl, ↓fla_int, ↓fla_str, ↓key_int, ↓key_str, ↓po_nop, ↓po_var, ↓po_con, ↓po_op, ↓sl_tup, ↓sl_lst, ↓s_nil, ↓s_seq, ↓s_asg, ↓s_par, ↓s_aug, ↓s_exp, ↓s_app, ↓s_ext, ↓s_sti, ↓s_ret, ↓s_retn, ↓s_ifs, ↓s_wh, ↓s_rs, ↓s_pas, ↓s_con, ↓s_brk, ↓s_nev, ↓s_mkh, ↓s_frX, ↓s_frS, ↓s_frR, ↓s_frE, ↓s_frZ, ↓p_nil, ↓p_cons, ↓ps_nil, ↓ps_cons, ↓po_nil, ↓po_cons, ↓pv_nil, ↓pv_cons, ↓ok_t, ↓ok_f, ↓mk_t, ↓mk_f, ↓sef_nil, ↓sef_cons, hard_ints, hard_map, hard_nats, Int.reduceToNat, eqv_lst_nil, shp_lst_nil, x_encP0, x_encP1,  ↓List.forall_mem_map,  List.isEmpty_map, Int.reduceLT, Int.reduceLE, ln_enc, i_enc, sq_enc, enc_hard, tr_enc, ty_enc_tuple, ty_enc_list, ty_enc_int, ty_enc_bool, tyd_enc, isn_enc, b_enc, eqv_int, eqv_bl, eqv_str, eqv_nn, eqv_tn, eqv_nt, eqv_in, eqv_ni, eqv_sn, eqv_ns, x_pair0, x_pair1, shp_int, shp_non, shp_bl, lcF_eq, enc_int, enc_nat, enc_bool, decide_eq_true_eq, Bool.not_eq_true', decide_eq_false_iff_not, Bool.not_not, ite_not, List.length_map, Option.some.injEq, exists_eq_left', exists_eq_left, exists_eq_right, exists_eq_right', and_true, true_and, true_implies, List.length_cons, List.length_nil, if_true, if_false, ite_true, ite_false, Bool.false_eq_true, reduceCtorEq, false_implies, List.cons_append, List.nil_append, vars, gvars, D.hard, hardAll, Bool.and_true, Bool.true_and, Bool.not_true, Bool.not_false, List.any_cons, List.any_nil, List.all_cons, List.all_nil, Bool.or_false, Bool.or_true, Bool.false_or, Bool.true_or, Bool.and_false, Bool.false_and, beq_self_eq_true, itSlot, List.getElem?_cons_succ, List.getElem?_cons_zero, D.bl.injEq, fldAt, exists_const, false_or, or_false, false_and, and_false, exists_false, Int.sub_zero, Int.toNat_natCast, Int.zero_add, zs_tt, zs_ll, zs_ee, st_lst, st_dct, exists_eq', D.lst.injEq, D.int.injEq, Option.isNone_none, Option.isNone_some, List.set_cons_zero, b_snoc, Nat.reduceAdd, Nat.reduceLeDiff, Nat.reduceSub, enQ])
def n_is_fitting : List Str := ["record"]
def p_is_fitting : List Str := ["record"]
def b_is_fitting : MS := (.seq (.exp (.call s_check_record (.acons (.var 0) .anil))) (.seq (.ret (.op (.cmp .Is) (.acons (.meth s_Showing_ring (.call s_showing_of (.acons (.var 0) .anil)) .anil) (.acons (.con .non) .anil)))) .nil))
theorem w_is_fitting : FW s_is_fitting b_is_fitting 0 := .of rfl fun _ Q E ⟨g, rs, e, h, q⟩ => by
  subst e
  unfold b_is_fitting
  simp only [List.map_cons, List.map_nil, List.replicate, List.append_nil]
  walk_at "wk"
  exact ⟨h, tabOf_sq h, fun w hw => q _ (ringRes_R hw)⟩
def s_check_fit : FSpec := ⟨"check_fit", "", 5, 1, false, fun ds Q _ => ∃ (g : Int) (rs : Rows), ds = [recD g rs] ∧ (OkR g rs ∧ ¬ HasR rs) ∧ Q .non⟩
theorem a_check_fit : s_check_fit.ar = 1 := rfl
theorem c_check_fit (g : Int) (rs : Rows) (Q : DK) (E : XP) : s_check_fit.spec [recD g rs] Q E = ((OkR g rs ∧ ¬ HasR rs) ∧ Q .non) := by
  refine propext ⟨?_, fun h => ⟨g, rs, rfl, h⟩⟩
  rintro ⟨g', rs', e, h⟩
  simp only [List.cons.injEq, recD_inj, and_true] at e
  obtain ⟨rfl, rfl⟩ := e
  exact h
def n_check_fit : List Str := ["record"]
def p_check_fit : List Str := ["record"]
def b_check_fit : MS := (.seq (.ifs (.op (.cmp .IsNot) (.acons (.meth s_Showing_ring (.call s_showing_of (.acons (.var 0) .anil)) .anil) (.acons (.con .non) .anil))) (.seq .nev .nil) .nil) .nil)
theorem w_check_fit : FW s_check_fit b_check_fit 0 := .of rfl fun _ Q E ⟨g, rs, e, ⟨h, hr⟩, q⟩ => by
  subst e
  unfold b_check_fit
  simp only [List.map_cons, List.map_nil, List.replicate, List.append_nil]
  walk_at "wk"
  refine ⟨h, tabOf_sq h, fun w hw => ?_⟩
  rw [(ringRes_R hw).mpr hr, if_neg (by decide)]
  exact q
def okRow (g : Int) (r : Row) : Prop := okP g r.1 ∧ okU g r.2
theorem OkR.snoc {g : Int} {rs : Rows} (h : OkR g rs) {r : Row} (hr : okRow g r) (hl : rs.length < 20) : OkR g (rs ++ [r]) := by
  refine ⟨h.lo, h.hi, by simp; omega, fun x hx => ?_⟩
  rcases List.mem_append.mp hx with z | z
  · exact h.rows x z
  · rw [List.mem_singleton.mp z]; exact hr
theorem rowB_of {g : Int} {r : Row} (hr : okRow g r) : isRowB g (enc r) = true := by
  rw [enc_pair]
  simp only [isRowB, parts_ok hr.1.1 hr.1.2, parts_ok hr.2.1 hr.2.2, Bool.and_self]
theorem thg_okRow {g : Int} {r : Row} (hg : g ≤ 6) (hr : okRow g r) : thg (enc r) = true :=
  thg_row (by have := hr.1.1; omega) (by have := hr.2.1; omega)
/-- a def of a record and a new choice -/
def spN (pre : Int → Rows → Row → Prop) (post : Int → Rows → Row → DK → Prop) : List D → DK → XP → Prop := fun ds Q _ => ∃ (g : Int) (rs : Rows) (r : Row), ds = [recD g rs, enc r] ∧ pre g rs r ∧ post g rs r Q
theorem c_spN (pre : Int → Rows → Row → Prop) (post : Int → Rows → Row → DK → Prop) (g : Int) (rs : Rows) (r : Row) (Q : DK) (E : XP) : spN pre post [recD g rs, enc r] Q E = (pre g rs r ∧ post g rs r Q) := by
  refine propext ⟨?_, fun h => ⟨g, rs, r, rfl, h⟩⟩
  rintro ⟨g', rs', r', e, h⟩
  simp only [List.cons.injEq, recD_inj, enc_inj, and_true] at e
  obtain ⟨⟨rfl, rfl⟩, rfl⟩ := e
  exact h
abbrev preN (g : Int) (rs : Rows) (r : Row) : Prop := OkR g rs ∧ okRow g r ∧ rs.length < 20
def s_check_new : FSpec := ⟨"check_new", "", 5, 2, false, spN preN fun _ _ _ Q => Q .non⟩
def s_put_behind : FSpec := ⟨"put_behind", "", 7, 2, false, spN preN fun g rs r Q => Q (recD g (rs ++ [r]))⟩
def s_with_choice : FSpec := ⟨"with_choice", "", 8, 2, false, spN preN fun g rs r Q => Q (recD g (rs ++ [r]))⟩
def s_may_be : FSpec := ⟨"may_be", "", 8, 2, false, spN preN fun g rs r Q => ∀ b : Bool, (b = true ↔ ¬ HasR (rs ++ [r])) → Q (.bl b)⟩
def s_may_choose : FSpec := ⟨"may_choose", "", 9, 2, false, spN preN fun g rs r Q => ∀ b : Bool, (b = true ↔ ¬ HasR (rs ++ [r])) → Q (.bl b)⟩
def s_forbids : FSpec := ⟨"forbids", "", 9, 2, false, spN (fun g rs r => preN g rs r ∧ ¬ HasR rs) fun g rs r Q => ∀ w, RingRes (tabOf (rs ++ [r])) w → Q (optD w)⟩
def s_check_room : FSpec := ⟨"check_room", "", 1, 1, false, fun ds Q _ => ∃ (g : Int) (rs : Rows), ds = [recD g rs] ∧ rs.length < 20 ∧ Q .non⟩
theorem a_check_new : s_check_new.ar = 2 := rfl
theorem a_put_behind : s_put_behind.ar = 2 := rfl
theorem a_with_choice : s_with_choice.ar = 2 := rfl
theorem a_may_be : s_may_be.ar = 2 := rfl
theorem a_may_choose : s_may_choose.ar = 2 := rfl
theorem a_forbids : s_forbids.ar = 2 := rfl
theorem a_check_room : s_check_room.ar = 1 := rfl
section
variable (g : Int) (rs : Rows) (r : Row) (Q : DK) (E : XP)
theorem c_check_new : s_check_new.spec [recD g rs, enc r] Q E = (preN g rs r ∧ Q .non) := c_spN preN (fun _ _ _ Q => Q .non) g rs r Q E
theorem c_put_behind : s_put_behind.spec [recD g rs, enc r] Q E = (preN g rs r ∧ Q (recD g (rs ++ [r]))) := c_spN preN (fun g rs r Q => Q (recD g (rs ++ [r]))) g rs r Q E
theorem c_with_choice : s_with_choice.spec [recD g rs, enc r] Q E = (preN g rs r ∧ Q (recD g (rs ++ [r]))) := c_spN preN (fun g rs r Q => Q (recD g (rs ++ [r]))) g rs r Q E
theorem c_may_be : s_may_be.spec [recD g rs, enc r] Q E = (preN g rs r ∧ ∀ b : Bool, (b = true ↔ ¬ HasR (rs ++ [r])) → Q (.bl b)) := c_spN preN (fun g rs r Q => ∀ b : Bool, (b = true ↔ ¬ HasR (rs ++ [r])) → Q (.bl b)) g rs r Q E
theorem c_may_choose : s_may_choose.spec [recD g rs, enc r] Q E = (preN g rs r ∧ ∀ b : Bool, (b = true ↔ ¬ HasR (rs ++ [r])) → Q (.bl b)) := c_spN preN (fun g rs r Q => ∀ b : Bool, (b = true ↔ ¬ HasR (rs ++ [r])) → Q (.bl b)) g rs r Q E
theorem c_forbids : s_forbids.spec [recD g rs, enc r] Q E = ((preN g rs r ∧ ¬ HasR rs) ∧ ∀ w, RingRes (tabOf (rs ++ [r])) w → Q (optD w)) := c_spN (fun g rs r => preN g rs r ∧ ¬ HasR rs) (fun g rs r Q => ∀ w, RingRes (tabOf (rs ++ [r])) w → Q (optD w)) g rs r Q E
theorem c_check_room : s_check_room.spec [recD g rs] Q E = (rs.length < 20 ∧ Q .non) := by
  refine propext ⟨?_, fun h => ⟨g, rs, rfl, h⟩⟩
  rintro ⟨g', rs', e, h⟩
  simp only [List.cons.injEq, recD_inj, and_true] at e
  obtain ⟨rfl, rfl⟩ := e
  exact h
end
local macro_rules | `(tactic| walk_at "wk") => `(tactic| simp only [recD_tyd, recD_own, recD_goods, recD_rows, recD_hard, a_check_record, c_check_record, a_showing_of, c_showing_of, a_Showing_ring, c_Showing_ring, m_Showing_ring, optD_isN, optD_hard, a_is_row, c_is_row, a_check_new, c_check_new, a_check_room, c_check_room, a_put_behind, c_put_behind, a_may_be, c_may_be, a_check_fit, c_check_fit, a_m_Record, fs_m_Record, n_m_Record, ↓gS_va, ↓gS_ow, ↓gS_lk, ↓gS_s, ↓gO_ow, ↓gO_s, ↓f1_va, ↓f1_ow, ↓f1_lk, ↓f1_hn, ↓f1_sc, ↓f1_un, ↓f1_s, ↓f1_nil, ↓frz_nil, ↓frz_cons, ↓wip_nil, ↓wip_cons, ↓thaw_t, ↓thaw_f, ↓set_z, ↓set_s, ↓lock_n, ↓zs_tt, ↓zs_ll, ↓st_lst, ↓st_dct, ↓noHn_nil, ↓noHn_cons, ↓nhn_va, ↓nhn_ow, ↓nhn_lk, ↓nhn_un, ↓nhn_sc, ↓w_var, ↓w_con, ↓w_glo, ↓w_op, ↓w_bm, ↓w_chn, ↓w_and, ↓w_or, ↓w_not, ↓w_ife, ↓w_isi, ↓w_call, ↓w_callh, ↓w_meth, ↓w_eqo, ↓w_lz, ↓w_ds1, ↓w_ss, ↓w_make, ↓w_slc, ↓w_nop, ↓w_lc, ↓w_dsp, ↓w_pop, ↓w_popAt, ↓w_anil, ↓w_acons, ↓w_itS, ↓w_itX, ↓w_itR, ↓w_itE, ↓w_itZ, ↓t_and, ↓t_or, ↓t_not, ↓t_var, ↓t_con, ↓t_op, ↓t_chn, ↓t_isi, ↓t_call, ↓t_callh, ↓t_meth, ↓t_eqo, ↓hn_ex, ↓tr_bl, ↓tr_int, ↓tr_non, ↓tr_tup, ↓tr_lst, ↓o_bin, ↓o_cmp, ↓o_neg, ↓o_tup, ↓o_lst, ↓o_idx, ↓o_fld, ↓o_blt, ↓b_add, ↓b_addT, ↓b_addL, ↓b_addS, ↓b_sub, ↓b_mul, ↓b_mulT, ↓b_mulL, ↓b_div, ↓b_mod, ↓b_pow, ↓c_eq, ↓c_ne, ↓c_lt, ↓c_le, ↓c_gt, ↓c_ge, ↓c_is, ↓c_isn, ↓c_isB, ↓c_isnB, ↓isBl_t, ↓isBl_f, ↓c_inL, ↓c_inT, ↓c_inD, ↓c_niL, ↓c_niT, ↓c_niD, ↓x_dct, ↓fl_ins, ↓bl_len, ↓bl_all, ↓bl_any, ↓bl_sum, ↓bl_tupL, ↓bl_tupT, ↓bl_lstR, ↓bl_lstL, ↓bl_lstT, ↓bl_int, ↓bl_intB, ↓bl_abs, ↓bl_min2, ↓bl_max2, ↓bl_dict, ↓bl_rng, ↓bl_srt, ↓ln_lst, ↓ln_tup, ↓ln_dct, ↓sq_lst, ↓sq_tup, ↓m_get2, ↓m_get1, ↓m_ix, ↓h_get2, ↓h_get1, ↓h_ix, ↓i_lst, ↓i_tup, ↓i_rng, ↓r_one, ↓r_two, ↓g_nm, ↓g_tp, ↓g_nil, ↓g_cons, ↓gl_nil, ↓gl_cons, ↓ty_non_int, ↓ty_non_bool, ↓ty_non_tuple, ↓ty_non_list, ↓ty_non_str, ↓ty_non_dict, ↓tyd_non, ↓ty_non_own, ↓isn_non, ↓con_non, ↓ty_bl_int, ↓ty_bl_bool, ↓ty_bl_tuple, ↓ty_bl_list, ↓ty_bl_str, ↓ty_bl_dict, ↓tyd_bl, ↓ty_bl_own, ↓isn_bl, ↓con_bl, ↓ty_int_int, ↓ty_int_bool, ↓ty_int_tuple, ↓ty_int_list, ↓ty_int_str, ↓ty_int_dict, ↓tyd_int, ↓ty_int_own, ↓isn_int, ↓con_int, ↓ty_str_int, ↓ty_str_bool, ↓ty_str_tuple, ↓ty_str_list, ↓ty_str_str, ↓ty_str_dict, ↓tyd_str, ↓ty_str_own, ↓isn_str, ↓con_str, ↓ty_tup_int, ↓ty_tup_bool, ↓ty_tup_tuple, ↓ty_tup_list, ↓ty_tup_str, ↓ty_tup_dict, ↓tyd_tup, ↓ty_tup_own, ↓isn_tup, ↓con_tup, ↓ty_lst_int, ↓ty_lst_bool, ↓ty_lst_tuple, ↓ty_lst_list, ↓ty_lst_str, ↓ty_lst_dict, ↓tyd_lst, ↓ty_lst_own, ↓isn_lst, ↓con_lst, ↓ty_dct_int, ↓ty_dct_bool, ↓ty_dct_tuple, ↓ty_dct_list, ↓ty_dct_str, ↓ty_dct_dict, ↓tyd_dct, ↓ty_dct_own, ↓isn_dct, ↓con_dct, ↓ty_ins_int, ↓ty_ins_bool, ↓ty_ins_tuple, ↓ty_ins_list, ↓ty_ins_str, ↓ty_ins_dict, ↓tyd_ins, ↓ty_ins_own, ↓isn_ins, ↓con_ins, ↓hin_lst, ↓hin_dct, ↓fla_non, ↓fla_bl, ↓fla_int, ↓fla_str, ↓key_int, ↓key_str, ↓po_nop, ↓po_var, ↓po_con, ↓po_op, ↓sl_tup, ↓sl_lst, ↓s_nil, ↓s_seq, ↓s_asg, ↓s_par, ↓s_aug, ↓s_exp, ↓s_app, ↓s_ext, ↓s_sti, ↓s_ret, ↓s_retn, ↓s_ifs, ↓s_wh, ↓s_rs, ↓s_pas, ↓s_con, ↓s_brk, ↓s_nev, ↓s_mkh, ↓s_frX, ↓s_frS, ↓s_frR, ↓s_frE, ↓s_frZ, ↓p_nil, ↓p_cons, ↓ps_nil, ↓ps_cons, ↓po_nil, ↓po_cons, ↓pv_nil, ↓pv_cons, ↓ok_t, ↓ok_f, ↓mk_t, ↓mk_f, ↓sef_nil, ↓sef_cons, hard_ints, hard_map, hard_nats, Int.reduceToNat, eqv_lst_nil, shp_lst_nil, x_encP0, x_encP1,  ↓List.forall_mem_map,  List.isEmpty_map, Int.reduceLT, Int.reduceLE, ln_enc, i_enc, sq_enc, enc_hard, tr_enc, ty_enc_tuple, ty_enc_list, ty_enc_int, ty_enc_bool, tyd_enc, isn_enc, b_enc, eqv_int, eqv_bl, eqv_str, eqv_nn, eqv_tn, eqv_nt, eqv_in, eqv_ni, eqv_sn, eqv_ns, x_pair0, x_pair1, shp_int, shp_non, shp_bl, lcF_eq, enc_int, enc_nat, enc_bool, decide_eq_true_eq, Bool.not_eq_true', decide_eq_false_iff_not, Bool.not_not, ite_not, List.length_map, Option.some.injEq, exists_eq_left', exists_eq_left, exists_eq_right, exists_eq_right', and_true, true_and, true_implies, List.length_cons, List.length_nil, if_true, if_false, ite_true, ite_false, Bool.false_eq_true, reduceCtorEq, false_implies, List.cons_append, List.nil_append, vars, gvars, D.hard, hardAll, Bool.and_true, Bool.true_and, Bool.not_true, Bool.not_false, List.any_cons, List.any_nil, List.all_cons, List.all_nil, Bool.or_false, Bool.or_true, Bool.false_or, Bool.true_or, Bool.and_false, Bool.false_and, beq_self_eq_true, itSlot, List.getElem?_cons_succ, List.getElem?_cons_zero, D.bl.injEq, fldAt, exists_const, false_or, or_false, false_and, and_false, exists_false, Int.sub_zero, Int.toNat_natCast, Int.zero_add, zs_tt, zs_ll, zs_ee, st_lst, st_dct, exists_eq', D.lst.injEq, D.int.injEq, Option.isNone_none, Option.isNone_some, List.set_cons_zero, b_snoc, Nat.reduceAdd, Nat.reduceLeDiff, Nat.reduceSub, enQ])
def n_check_new : List Str := ["record", "row"]
def p_check_new : List Str := ["record", "row"]
def b_check_new : MS := (.seq (.exp (.call s_check_record (.acons (.var 0) .anil))) (.seq (.ifs (.not (.call s_is_row (.acons (.op (.fld "goods") (.acons (.var 0) .anil)) (.acons (.var 1) .anil)))) (.seq .nev .nil) .nil) .nil))
def n_check_room : List Str := ["record"]
def p_check_room : List Str := ["record"]
def b_check_room : MS := (.seq (.ifs (.op (.cmp .GtE) (.acons (.op (.blt .len) (.acons (.op (.fld "rows") (.acons (.var 0) .anil)) .anil)) (.acons (.glo "MOST_ROWS" (.int 20)) .anil))) (.seq .nev .nil) .nil) .nil)
def n_put_behind : List Str := ["record", "row"]
def p_put_behind : List Str := ["record", "row"]
def b_put_behind : MS := (.seq (.ret (.make m_Record (.acons (.op (.fld "goods") (.acons (.var 0) .anil)) (.acons (.op (.bin .Add) (.acons (.op (.fld "rows") (.acons (.var 0) .anil)) (.acons (.op .tup (.acons (.var 1) .anil)) .anil))) .anil)))) .nil)
def n_with_choice : List Str := ["record", "row"]
def p_with_choice : List Str := ["record", "row"]
def b_with_choice : MS := (.seq (.exp (.call s_check_new (.acons (.var 0) (.acons (.var 1) .anil)))) (.seq (.exp (.call s_check_room (.acons (.var 0) .anil))) (.seq (.ret (.call s_put_behind (.acons (.var 0) (.acons (.var 1) .anil)))) .nil)))
def n_may_be : List Str := ["record", "row"]
def p_may_be : List Str := ["record", "row"]
def b_may_be : MS := (.seq (.ret (.op (.cmp .Is) (.acons (.meth s_Showing_ring (.call s_showing_of (.acons (.call s_put_behind (.acons (.var 0) (.acons (.var 1) .anil))) .anil)) .anil) (.acons (.con .non) .anil)))) .nil)
def n_may_choose : List Str := ["record", "row"]
def p_may_choose : List Str := ["record", "row"]
def b_may_choose : MS := (.seq (.exp (.call s_check_new (.acons (.var 0) (.acons (.var 1) .anil)))) (.seq (.exp (.call s_check_room (.acons (.var 0) .anil))) (.seq (.ret (.call s_may_be (.acons (.var 0) (.acons (.var 1) .anil)))) .nil)))
def n_forbids : List Str := ["record", "row"]
def p_forbids : List Str := ["record", "row"]
def b_forbids : MS := (.seq (.exp (.call s_check_new (.acons (.var 0) (.acons (.var 1) .anil)))) (.seq (.exp (.call s_check_fit (.acons (.var 0) .anil))) (.seq (.exp (.call s_check_room (.acons (.var 0) .anil))) (.seq (.ret (.meth s_Showing_ring (.call s_showing_of (.acons (.call s_put_behind (.acons (.var 0) (.acons (.var 1) .anil))) .anil)) .anil)) .nil))))
theorem w_check_new : FW s_check_new b_check_new 0 := .of rfl fun _ Q E ⟨g, rs, r, e, ⟨h, hr, hl⟩, q⟩ => by
  subst e
  unfold b_check_new
  simp only [List.map_cons, List.map_nil, List.replicate, List.append_nil]
  walk_at "wk"
  have hg := h.hi
  refine ⟨⟨by omega, thg_okRow hg hr⟩, ?_⟩
  rw [rowB_of hr, if_neg (by decide)]
  exact q
theorem w_check_room : FW s_check_room b_check_room 0 := .of rfl fun _ Q E ⟨g, rs, e, hl, q⟩ => by
  subst e
  unfold b_check_room
  simp only [List.map_cons, List.map_nil, List.replicate, List.append_nil]
  walk_at "wk"
  refine ⟨by rw [lim_eq']; omega, ?_⟩
  rw [if_neg (by omega)]
  exact q
theorem b_rows {Q : DK} (rs : Rows) (r : Row) : binSem .Add (enc rs) (.tup [enc r]) Q = (rs.length + 1 ≤ lim ∧ Q (enc (rs ++ [r]))) := by
  rw [enc_list, b_addT, enc_list, List.map_append, List.length_map]
  rfl
theorem w_put_behind : FW s_put_behind b_put_behind 0 := .of rfl fun _ Q E ⟨g, rs, r, e, ⟨h, hr, hl⟩, q⟩ => by
  subst e
  unfold b_put_behind
  simp only [List.map_cons, List.map_nil, List.replicate, List.append_nil]
  walk_at "wk"
  rw [b_rows]
  refine ⟨by rw [lim_eq']; omega, ?_⟩
  rw [c_m_Record]
  exact ⟨h.snoc hr hl, rfl, q⟩
theorem w_with_choice : FW s_with_choice b_with_choice 0 := .of rfl fun _ Q E ⟨g, rs, r, e, ⟨h, hr, hl⟩, q⟩ => by
  subst e
  unfold b_with_choice
  simp only [List.map_cons, List.map_nil, List.replicate, List.append_nil]
  walk_at "wk"
  exact ⟨⟨h, hr, hl⟩, hl, ⟨h, hr, hl⟩, q⟩
theorem w_may_be : FW s_may_be b_may_be 0 := .of rfl fun _ Q E ⟨g, rs, r, e, ⟨h, hr, hl⟩, q⟩ => by
  subst e
  unfold b_may_be
  simp only [List.map_cons, List.map_nil, List.replicate, List.append_nil]
  walk_at "wk"
  have h2 := h.snoc hr hl
  exact ⟨⟨h, hr, hl⟩, h2, tabOf_sq h2, fun w hw => q _ (ringRes_R hw)⟩
theorem w_may_choose : FW s_may_choose b_may_choose 0 := .of rfl fun _ Q E ⟨g, rs, r, e, ⟨h, hr, hl⟩, q⟩ => by
  subst e
  unfold b_may_choose
  simp only [List.map_cons, List.map_nil, List.replicate, List.append_nil]
  walk_at "wk"
  exact ⟨⟨h, hr, hl⟩, hl, ⟨h, hr, hl⟩, q⟩
theorem w_forbids : FW s_forbids b_forbids 0 := .of rfl fun _ Q E ⟨g, rs, r, e, ⟨⟨h, hr, hl⟩, hf⟩, q⟩ => by
  subst e
  unfold b_forbids
  simp only [List.map_cons, List.map_nil, List.replicate, List.append_nil]
  walk_at "wk"
  have h2 := h.snoc hr hl
  exact ⟨⟨h, hr, hl⟩, ⟨h, hf⟩, hl, ⟨h, hr, hl⟩, h2, tabOf_sq h2, q⟩
end Pk
set_option maxHeartbeats 1000000
namespace Pk
open PySem Mi Bf
open Mi.Enc (enc)
def s__law_draw : FSpec := ⟨"_law_draw", "", 1, 1, true, fun ds Q _ => ∃ many : Int, ds = [.int many] ∧ 0 < many ∧ many < 1073741824 ∧ ∀ k : Int, 0 ≤ k → k < many → Q (.int k)⟩
theorem a__law_draw : s__law_draw.ar = 1 := rfl
theorem c__law_draw (many : Int) (Q : DK) (E : XP) : s__law_draw.spec [.int many] Q E = (0 < many ∧ many < 1073741824 ∧ ∀ k : Int, 0 ≤ k → k < many → Q (.int k)) := by
  refine propext ⟨?_, fun h => ⟨many, rfl, h⟩⟩
  rintro ⟨m, e, h⟩
  cases e
  exact h
def s__law_any : FSpec := ⟨"_law_any", "", 2, 1, true, fun ds Q _ => ∃ (d : D) (es : List D), ds = [d] ∧ seqOf d = some es ∧ (0 < es.length ∧ es.length ≤ 1000) ∧ ∀ e ∈ es, Q e⟩
theorem a__law_any : s__law_any.ar = 1 := rfl
theorem c__law_any (es : List D) (Q : DK) (E : XP) : s__law_any.spec [.lst es] Q E = ((0 < es.length ∧ es.length ≤ 1000) ∧ ∀ e ∈ es, Q e) := by
  refine propext ⟨?_, fun h => ⟨_, es, rfl, rfl, h⟩⟩
  rintro ⟨d, m, e, e2, h⟩
  cases e
  cases e2
  exact h
theorem c__law_anyE {α : Type} [Enc α] (xs : List α) (Q : DK) (E : XP) : s__law_any.spec [enc xs] Q E = ((0 < xs.length ∧ xs.length ≤ 1000) ∧ ∀ x ∈ xs, Q (enc x)) := by
  refine propext ⟨?_, fun h => ⟨_, xs.map enc, rfl, rfl, by simpa using h.1, fun e he => ?_⟩⟩
  · rintro ⟨d, m, e, e2, h⟩
    cases e
    cases e2
    exact ⟨by simpa using h.1, fun x hx => h.2 _ (List.mem_map.mpr ⟨x, hx, rfl⟩)⟩
  · obtain ⟨x, hx, rfl⟩ := List.mem_map.mp he
    exact h.2 x hx
local macro_rules | `(tactic| walk_at "wl") => `(tactic| simp only [recD_tyd, recD_own, recD_goods, recD_rows, recD_hard, a__law_draw, c__law_draw, a__law_any, c__law_any, c__law_anyE, ↓gS_va, ↓gS_ow, ↓gS_lk, ↓gS_s, ↓gO_ow, ↓gO_s, ↓f1_va, ↓f1_ow, ↓f1_lk, ↓f1_hn, ↓f1_sc, ↓f1_un, ↓f1_s, ↓f1_nil, ↓frz_nil, ↓frz_cons, ↓wip_nil, ↓wip_cons, ↓thaw_t, ↓thaw_f, ↓set_z, ↓set_s, ↓lock_n, ↓zs_tt, ↓zs_ll, ↓st_lst, ↓st_dct, ↓noHn_nil, ↓noHn_cons, ↓nhn_va, ↓nhn_ow, ↓nhn_lk, ↓nhn_un, ↓nhn_sc, ↓w_var, ↓w_con, ↓w_glo, ↓w_op, ↓w_bm, ↓w_chn, ↓w_and, ↓w_or, ↓w_not, ↓w_ife, ↓w_isi, ↓w_call, ↓w_callh, ↓w_meth, ↓w_eqo, ↓w_lz, ↓w_ds1, ↓w_ss, ↓w_make, ↓w_slc, ↓w_nop, ↓w_lc, ↓w_dsp, ↓w_pop, ↓w_popAt, ↓w_anil, ↓w_acons, ↓w_itS, ↓w_itX, ↓w_itR, ↓w_itE, ↓w_itZ, ↓t_and, ↓t_or, ↓t_not, ↓t_var, ↓t_con, ↓t_op, ↓t_chn, ↓t_isi, ↓t_call, ↓t_callh, ↓t_meth, ↓t_eqo, ↓hn_ex, ↓tr_bl, ↓tr_int, ↓tr_non, ↓tr_tup, ↓tr_lst, ↓o_bin, ↓o_cmp, ↓o_neg, ↓o_tup, ↓o_lst, ↓o_idx, ↓o_fld, ↓o_blt, ↓b_add, ↓b_addT, ↓b_addL, ↓b_addS, ↓b_sub, ↓b_mul, ↓b_mulT, ↓b_mulL, ↓b_div, ↓b_mod, ↓b_pow, ↓c_eq, ↓c_ne, ↓c_lt, ↓c_le, ↓c_gt, ↓c_ge, ↓c_is, ↓c_isn, ↓c_isB, ↓c_isnB, ↓isBl_t, ↓isBl_f, ↓c_inL, ↓c_inT, ↓c_inD, ↓c_niL, ↓c_niT, ↓c_niD, ↓x_dct, ↓fl_ins, ↓bl_len, ↓bl_all, ↓bl_any, ↓bl_sum, ↓bl_tupL, ↓bl_tupT, ↓bl_lstR, ↓bl_lstL, ↓bl_lstT, ↓bl_int, ↓bl_intB, ↓bl_abs, ↓bl_min2, ↓bl_max2, ↓bl_dict, ↓bl_rng, ↓bl_srt, ↓ln_lst, ↓ln_tup, ↓ln_dct, ↓sq_lst, ↓sq_tup, ↓m_get2, ↓m_get1, ↓m_ix, ↓h_get2, ↓h_get1, ↓h_ix, ↓i_lst, ↓i_tup, ↓i_rng, ↓r_one, ↓r_two, ↓g_nm, ↓g_tp, ↓g_nil, ↓g_cons, ↓gl_nil, ↓gl_cons, ↓ty_non_int, ↓ty_non_bool, ↓ty_non_tuple, ↓ty_non_list, ↓ty_non_str, ↓ty_non_dict, ↓tyd_non, ↓ty_non_own, ↓isn_non, ↓con_non, ↓ty_bl_int, ↓ty_bl_bool, ↓ty_bl_tuple, ↓ty_bl_list, ↓ty_bl_str, ↓ty_bl_dict, ↓tyd_bl, ↓ty_bl_own, ↓isn_bl, ↓con_bl, ↓ty_int_int, ↓ty_int_bool, ↓ty_int_tuple, ↓ty_int_list, ↓ty_int_str, ↓ty_int_dict, ↓tyd_int, ↓ty_int_own, ↓isn_int, ↓con_int, ↓ty_str_int, ↓ty_str_bool, ↓ty_str_tuple, ↓ty_str_list, ↓ty_str_str, ↓ty_str_dict, ↓tyd_str, ↓ty_str_own, ↓isn_str, ↓con_str, ↓ty_tup_int, ↓ty_tup_bool, ↓ty_tup_tuple, ↓ty_tup_list, ↓ty_tup_str, ↓ty_tup_dict, ↓tyd_tup, ↓ty_tup_own, ↓isn_tup, ↓con_tup, ↓ty_lst_int, ↓ty_lst_bool, ↓ty_lst_tuple, ↓ty_lst_list, ↓ty_lst_str, ↓ty_lst_dict, ↓tyd_lst, ↓ty_lst_own, ↓isn_lst, ↓con_lst, ↓ty_dct_int, ↓ty_dct_bool, ↓ty_dct_tuple, ↓ty_dct_list, ↓ty_dct_str, ↓ty_dct_dict, ↓tyd_dct, ↓ty_dct_own, ↓isn_dct, ↓con_dct, ↓ty_ins_int, ↓ty_ins_bool, ↓ty_ins_tuple, ↓ty_ins_list, ↓ty_ins_str, ↓ty_ins_dict, ↓tyd_ins, ↓ty_ins_own, ↓isn_ins, ↓con_ins, ↓hin_lst, ↓hin_dct, ↓fla_non, ↓fla_bl, ↓fla_int, ↓fla_str, ↓key_int, ↓key_str, ↓po_nop, ↓po_var, ↓po_con, ↓po_op, ↓sl_tup, ↓sl_lst, ↓s_nil, ↓s_seq, ↓s_asg, ↓s_par, ↓s_aug, ↓s_exp, ↓s_app, ↓s_ext, ↓s_sti, ↓s_ret, ↓s_retn, ↓s_ifs, ↓s_wh, ↓s_rs, ↓s_pas, ↓s_con, ↓s_brk, ↓s_nev, ↓s_mkh, ↓s_frX, ↓s_frS, ↓s_frR, ↓s_frE, ↓s_frZ, ↓p_nil, ↓p_cons, ↓ps_nil, ↓ps_cons, ↓po_nil, ↓po_cons, ↓pv_nil, ↓pv_cons, ↓ok_t, ↓ok_f, ↓mk_t, ↓mk_f, ↓sef_nil, ↓sef_cons, hard_ints, hard_map, hard_nats, Int.reduceToNat, eqv_lst_nil, shp_lst_nil, x_encP0, x_encP1,  ↓List.forall_mem_map,  List.isEmpty_map, Int.reduceLT, Int.reduceLE, ln_enc, i_enc, sq_enc, enc_hard, tr_enc, ty_enc_tuple, ty_enc_list, ty_enc_int, ty_enc_bool, tyd_enc, isn_enc, b_enc, eqv_int, eqv_bl, eqv_str, eqv_nn, eqv_tn, eqv_nt, eqv_in, eqv_ni, eqv_sn, eqv_ns, x_pair0, x_pair1, shp_int, shp_non, shp_bl, lcF_eq, enc_int, enc_nat, enc_bool, decide_eq_true_eq, Bool.not_eq_true', decide_eq_false_iff_not, Bool.not_not, ite_not, List.length_map, Option.some.injEq, exists_eq_left', exists_eq_left, exists_eq_right, exists_eq_right', and_true, true_and, true_implies, List.length_cons, List.length_nil, if_true, if_false, ite_true, ite_false, Bool.false_eq_true, reduceCtorEq, false_implies, List.cons_append, List.nil_append, vars, gvars, D.hard, hardAll, Bool.and_true, Bool.true_and, Bool.not_true, Bool.not_false, List.any_cons, List.any_nil, List.all_cons, List.all_nil, Bool.or_false, Bool.or_true, Bool.false_or, Bool.true_or, Bool.and_false, Bool.false_and, beq_self_eq_true, itSlot, List.getElem?_cons_succ, List.getElem?_cons_zero, D.bl.injEq, fldAt, exists_const, false_or, or_false, false_and, and_false, exists_false, Int.sub_zero, Int.toNat_natCast, Int.zero_add, zs_tt, zs_ll, zs_ee, st_lst, st_dct, exists_eq', D.lst.injEq, D.int.injEq, Option.isNone_none, Option.isNone_some, List.set_cons_zero, b_snoc, Nat.reduceAdd, Nat.reduceLeDiff, Nat.reduceSub, enQ])
def n__law_any : List Str := ["hand", "some"]
def p__law_any : List Str := ["hand", "some"]
def b__law_any : MS := (.seq (.ret (.op .idx (.acons (.var 1) (.acons (.callh s__law_draw 0 (.acons (.op (.blt .len) (.acons (.var 1) .anil)) .anil)) .anil)))) .nil)
theorem w__law_any : FW s__law_any b__law_any 0 := .hd rfl fun a c _ Q E ⟨d, es, e, e2, ⟨h0, h1⟩, q⟩ => by
  subst e
  unfold b__law_any
  simp only [List.map_cons, List.map_nil, List.replicate, List.append_nil]
  walk_at "wl"
  have key : ∀ k : Int, 0 ≤ k → k < es.length → idxSem d (.int k) Q := by
    intro k k0 k1
    obtain ⟨m, rfl⟩ := Int.eq_ofNat_of_zero_le k0
    have hm : m < es.length := by omega
    cases d <;> first | (simp [seqOf] at e2; done) | skip
    · cases e2
      rw [x_tupN (List.getElem?_eq_getElem hm)]
      exact q _ (List.getElem_mem hm)
    · cases e2
      rw [x_lstN (List.getElem?_eq_getElem hm)]
      exact q _ (List.getElem_mem hm)
  cases d <;> first | (simp [seqOf] at e2; done) | skip
  · cases e2
    walk_at "wl"
    exact ⟨le_lim h1, by omega, by omega, key⟩
  · cases e2
    walk_at "wl"
    exact ⟨le_lim h1, by omega, by omega, key⟩
def between (lo hi : Int) (g : Int) (ns : List Int) : Prop := (ns.length : Int) = g ∧ ∀ n ∈ ns, lo ≤ n ∧ n ≤ hi
/-- a list of drawn numbers -/
theorem ints_ex {lo hi : Int} {items : List D} {ys : List D} (hl : ys.length = items.length) (h : ∀ (i : Nat) d y, items[i]? = some d → ys[i]? = some y → ∃ n : Int, y = .int n ∧ lo ≤ n ∧ n ≤ hi) : ∃ ns : List Int, ys = ns.map D.int ∧ ns.length = items.length ∧ ∀ n ∈ ns, lo ≤ n ∧ n ≤ hi := by
  induction ys generalizing items with
  | nil => exact ⟨[], rfl, by simpa using hl, fun n hn => by cases hn⟩
  | cons y ys ih =>
    cases items with
    | nil => simp at hl
    | cons d items =>
      obtain ⟨n, e, hn⟩ := h 0 d y rfl rfl
      obtain ⟨ns, e2, hl2, h2⟩ := ih (items := items) (by simpa using hl) fun i d y h1 h2 => h (i + 1) d y (by simpa using h1) (by simpa using h2)
      refine ⟨n :: ns, by rw [e, e2]; rfl, by simp [hl2], fun m hm => ?_⟩
      rcases List.mem_cons.mp hm with z | z
      · rw [z]; exact hn
      · exact h2 m z
theorem bools_ex : ∀ {ys : List D}, (∀ y ∈ ys, ∃ b : Bool, y = .bl b) → ∃ bs : List Bool, boolsOf ys = some bs
  | [], _ => ⟨[], rfl⟩
  | y :: ys, h => by
    obtain ⟨b, e⟩ := h y List.mem_cons_self
    obtain ⟨bs, e2⟩ := bools_ex fun z hz => h z (List.mem_cons_of_mem _ hz)
    exact ⟨b :: bs, by rw [e, boolsOf, e2]; rfl⟩
theorem getElem?_map_range {n i : Nat} {d : D} (h : ((List.range n).map fun (k : Nat) => D.int k)[i]? = some d) : i < n ∧ d = .int i := by
  rw [List.getElem?_map] at h
  obtain ⟨k, h1, h2⟩ := Option.map_eq_some_iff.mp h
  have h3 : i < n := by
    have := (List.getElem?_eq_some_iff.mp h1).1
    rwa [List.length_range] at this
  rw [List.getElem?_range h3] at h1
  cases h1
  exact ⟨h3, h2.symm⟩
def inB (m : Int) (d : D) : Prop := ∃ n : Int, d = .int n ∧ 0 ≤ n ∧ n ≤ m
theorem putVals_in {m : Int} {k v : D} (hv : inB m v) : ∀ (ks vs : List D), (∀ x ∈ vs, inB m x) → ∀ x ∈ putVals k v ks vs, inB m x
  | x :: r, y :: s, h, z, hz => by
    rw [putVals] at hz
    rcases List.mem_cons.mp hz with e | hz
    · rw [e]
      split
      · exact hv
      · exact h y List.mem_cons_self
    · exact putVals_in hv r s (fun w hw => h w (List.mem_cons_of_mem _ hw)) z hz
  | [], vs, h, z, hz => by simp [putVals] at hz
  | _ :: _, [], h, z, hz => by simp [putVals] at hz
theorem putKey_in {m : Int} {k v : D} (hv : inB m v) {ks vs : List D} (h : ∀ x ∈ vs, inB m x) : ∀ x ∈ (putKey k v ks vs).2, inB m x := by
  unfold putKey
  split
  · exact putVals_in hv ks vs h
  · intro x hx
    rcases List.mem_append.mp hx with z | z
    · exact h x z
    · rw [List.mem_singleton.mp z]; exact hv
theorem pairs_in {m : Int} : ∀ (items ks vs : List D), (∀ d ∈ items, ∃ (k : Int) (v : D), d = .tup [.int k, v] ∧ inB m v) → (∀ x ∈ vs, inB m x) → ∃ ks' vs', fromPairs items ks vs = some (ks', vs') ∧ ∀ x ∈ vs', inB m x
  | [], ks, vs, _, h => ⟨ks, vs, rfl, h⟩
  | d :: items, ks, vs, hi, h => by
    obtain ⟨k, v, rfl, hv⟩ := hi d List.mem_cons_self
    obtain ⟨ks', vs', e, h'⟩ := pairs_in items (putKey (.int k) v ks vs).1 (putKey (.int k) v ks vs).2 (fun d hd => hi d (List.mem_cons_of_mem _ hd)) (putKey_in hv h)
    exact ⟨ks', vs', by rw [fromPairs]; exact e, h'⟩
theorem dgot_in {m : Int} {o : Option Nat} {vs : List D} {z : D} (h : ∀ x ∈ vs, inB m x) (hz : inB m z) : inB m (dgot o vs z) := by
  cases o with
  | none => exact hz
  | some j =>
    show inB m (vs.getD j z)
    rw [List.getD_eq_getElem?_getD]
    cases e : vs[j]? with
    | none => exact hz
    | some y => exact h y (List.mem_of_getElem? e)
def okD (g m : Int) (r : Row) : Prop := between 1 m g r.1 ∧ between 0 m g r.2
theorem okR_of {g m : Int} {rs : Rows} (g0 : 1 ≤ g) (g1 : g ≤ 6) (h : rs.length ≤ 20) (hm : m ≤ 1000000) (hr : ∀ r ∈ rs, okD g m r) : OkR g rs :=
  ⟨g0, g1, h, fun r hrr => ⟨⟨(hr r hrr).1.1, fun x hx => by have := (hr r hrr).1.2 x hx; omega⟩, (hr r hrr).2.1, fun x hx => by have := (hr r hrr).2.2 x hx; omega⟩⟩
theorem map_natD {α : Type} (f : Nat → α) (n : Nat) : ((List.range n).map fun (k : Nat) => D.int k).map (fun d => f (natD d)) = (List.range n).map f := by
  rw [List.map_map]
  exact List.map_congr_left fun k _ => by simp [natD]
/-- plain data, at most so deep -/
def pl : Nat → D → Bool
  | _, .non => true
  | _, .bl _ => true
  | _, .int _ => true
  | _, .str s => (D.str s).shp
  | d + 1, .tup ds => decide (ds.length ≤ 1000) && ds.all (pl d)
  | d + 1, .lst ds => decide (ds.length ≤ 1000) && ds.all (pl d)
  | _, _ => false
theorem zipT_self : ∀ ds : List D, zipT ds ds = ds.map fun x => .tup [x, x]
  | [] => rfl
  | d :: ds => by rw [zipT, zipT_self ds]; rfl
theorem pl_nats (n : Nat) {xs : List Nat} (h : xs.length ≤ 1000) : pl (n + 1) (enc xs) = true := by
  rw [enc_list]
  simp only [pl, List.length_map, decide_eq_true h, Bool.true_and, List.all_map, List.all_eq_true]
  intro x _
  cases n <;> rfl
theorem pl_opt (n : Nat) {o : Option (List Nat)} (h : ∀ xs, o = some xs → xs.length ≤ 1000) : pl (n + 1) (optD o) = true := by
  cases o with
  | none => rfl
  | some xs => exact pl_nats n (h xs rfl)
theorem pl_one (n : Nat) {d : D} (h : pl n d = true) : pl (n + 1) (.lst [d]) = true := by
  simp [pl, h]
theorem x_nat_at {Q : DK} {xs : List Nat} {k : Nat} (h : k < xs.length) : idxSem (.lst (xs.map fun (k : Nat) => D.int k)) (.int k) Q = Q (.int (xs.getD k 0 : Nat)) := by
  rw [x_lstM h, List.getD_eq_getElem?_getD, List.getElem?_eq_getElem h]
  rfl
theorem x_nat_0 {Q : DK} {xs : List Nat} (h : 0 < xs.length) : idxSem (.lst (xs.map fun (k : Nat) => D.int k)) (.int 0) Q = Q (.int (xs.getD 0 0 : Nat)) := x_nat_at (k := 0) h
theorem x_nat_last {Q : DK} {xs : List Nat} (h : 0 < xs.length) : idxSem (.lst (xs.map fun (k : Nat) => D.int k)) (.int (-1)) Q = Q (.int (xs.getD (xs.length - 1) 0 : Nat)) := by
  rw [x_lst]
  have e : ixAt (xs.map fun (k : Nat) => D.int k).length (-1) = some (xs.length - 1) := by
    rw [List.length_map]
    exact ix_neg (k := 1) (by omega) h
  rw [e]
  have hg : xs[xs.length - 1]? = some xs[xs.length - 1] := List.getElem?_eq_getElem (by omega)
  simp [List.getD_eq_getElem?_getD, hg]
theorem cut_nat (n d k : Nat) : cutIx n d (some (k : Int)) = min k n := by
  show (if (k : Int) < 0 then ((k : Int) + n).toNat else min (k : Int).toNat n) = min k n
  rw [if_neg (by omega)]
  simp
theorem perm_erase : ∀ (l : List Nat) (j : Nat) (h : j < l.length), (l[j] :: l.eraseIdx j).Perm l
  | x :: l, 0, _ => List.Perm.refl _
  | x :: l, j + 1, h => by
    have hj : j < l.length := by simpa using h
    exact (List.Perm.swap x l[j] _).trans (List.Perm.cons x (perm_erase l j hj))
theorem erase_map {α β : Type} (f : α → β) : ∀ (l : List α) (j : Nat), (l.map f).eraseIdx j = (l.eraseIdx j).map f
  | [], _ => rfl
  | x :: l, 0 => rfl
  | x :: l, j + 1 => by
    show f x :: (l.map f).eraseIdx j = _
    rw [erase_map f l j]
    rfl
theorem pl_ints (n : Nat) {xs : List Int} (h : xs.length ≤ 1000) : pl (n + 1) (enc xs) = true := by
  rw [enc_list]
  simp only [pl, List.length_map, decide_eq_true h, Bool.true_and, List.all_map, List.all_eq_true]
  intro x _
  cases n <;> rfl
theorem pl_row (n : Nat) {r : Row} (h1 : r.1.length ≤ 1000) (h2 : r.2.length ≤ 1000) : pl (n + 2) (enc r) = true := by
  rw [enc_pair]
  simp [pl, pl_ints n h1, pl_ints n h2]
theorem pl_rows (n : Nat) {g : Int} {rs : Rows} (h : OkR g rs) : pl (n + 3) (enc rs) = true := by
  have hl := h.len
  have hg := h.hi
  rw [enc_list]
  have h1 : rs.length ≤ 1000 := by omega
  simp only [pl, List.length_map, decide_eq_true h1, Bool.true_and, List.all_map, List.all_eq_true]
  intro x hx
  obtain ⟨h2, h3⟩ := h.rows x hx
  exact pl_row n (by have := h2.1; omega) (by have := h3.1; omega)
end Pk
set_option maxHeartbeats 1000000
namespace Pk
open PySem Mi Bf
open Mi.Enc (enc)
local macro_rules | `(tactic| walk_at "wl") => `(tactic| simp only [recD_tyd, recD_own, recD_goods, recD_rows, recD_hard, a__law_draw, c__law_draw, a__law_any, c__law_any, c__law_anyE, ↓gS_va, ↓gS_ow, ↓gS_lk, ↓gS_s, ↓gO_ow, ↓gO_s, ↓f1_va, ↓f1_ow, ↓f1_lk, ↓f1_hn, ↓f1_sc, ↓f1_un, ↓f1_s, ↓f1_nil, ↓frz_nil, ↓frz_cons, ↓wip_nil, ↓wip_cons, ↓thaw_t, ↓thaw_f, ↓set_z, ↓set_s, ↓lock_n, ↓zs_tt, ↓zs_ll, ↓st_lst, ↓st_dct, ↓noHn_nil, ↓noHn_cons, ↓nhn_va, ↓nhn_ow, ↓nhn_lk, ↓nhn_un, ↓nhn_sc, ↓w_var, ↓w_con, ↓w_glo, ↓w_op, ↓w_bm, ↓w_chn, ↓w_and, ↓w_or, ↓w_not, ↓w_ife, ↓w_isi, ↓w_call, ↓w_callh, ↓w_meth, ↓w_eqo, ↓w_lz, ↓w_ds1, ↓w_ss, ↓w_make, ↓w_slc, ↓w_nop, ↓w_lc, ↓w_dsp, ↓w_pop, ↓w_popAt, ↓w_anil, ↓w_acons, ↓w_itS, ↓w_itX, ↓w_itR, ↓w_itE, ↓w_itZ, ↓t_and, ↓t_or, ↓t_not, ↓t_var, ↓t_con, ↓t_op, ↓t_chn, ↓t_isi, ↓t_call, ↓t_callh, ↓t_meth, ↓t_eqo, ↓hn_ex, ↓tr_bl, ↓tr_int, ↓tr_non, ↓tr_tup, ↓tr_lst, ↓o_bin, ↓o_cmp, ↓o_neg, ↓o_tup, ↓o_lst, ↓o_idx, ↓o_fld, ↓o_blt, ↓b_add, ↓b_addT, ↓b_addL, ↓b_addS, ↓b_sub, ↓b_mul, ↓b_mulT, ↓b_mulL, ↓b_div, ↓b_mod, ↓b_pow, ↓c_eq, ↓c_ne, ↓c_lt, ↓c_le, ↓c_gt, ↓c_ge, ↓c_is, ↓c_isn, ↓c_isB, ↓c_isnB, ↓isBl_t, ↓isBl_f, ↓c_inL, ↓c_inT, ↓c_inD, ↓c_niL, ↓c_niT, ↓c_niD, ↓x_dct, ↓fl_ins, ↓bl_len, ↓bl_all, ↓bl_any, ↓bl_sum, ↓bl_tupL, ↓bl_tupT, ↓bl_lstR, ↓bl_lstL, ↓bl_lstT, ↓bl_int, ↓bl_intB, ↓bl_abs, ↓bl_min2, ↓bl_max2, ↓bl_dict, ↓bl_rng, ↓bl_srt, ↓ln_lst, ↓ln_tup, ↓ln_dct, ↓sq_lst, ↓sq_tup, ↓m_get2, ↓m_get1, ↓m_ix, ↓h_get2, ↓h_get1, ↓h_ix, ↓i_lst, ↓i_tup, ↓i_rng, ↓r_one, ↓r_two, ↓g_nm, ↓g_tp, ↓g_nil, ↓g_cons, ↓gl_nil, ↓gl_cons, ↓ty_non_int, ↓ty_non_bool, ↓ty_non_tuple, ↓ty_non_list, ↓ty_non_str, ↓ty_non_dict, ↓tyd_non, ↓ty_non_own, ↓isn_non, ↓con_non, ↓ty_bl_int, ↓ty_bl_bool, ↓ty_bl_tuple, ↓ty_bl_list, ↓ty_bl_str, ↓ty_bl_dict, ↓tyd_bl, ↓ty_bl_own, ↓isn_bl, ↓con_bl, ↓ty_int_int, ↓ty_int_bool, ↓ty_int_tuple, ↓ty_int_list, ↓ty_int_str, ↓ty_int_dict, ↓tyd_int, ↓ty_int_own, ↓isn_int, ↓con_int, ↓ty_str_int, ↓ty_str_bool, ↓ty_str_tuple, ↓ty_str_list, ↓ty_str_str, ↓ty_str_dict, ↓tyd_str, ↓ty_str_own, ↓isn_str, ↓con_str, ↓ty_tup_int, ↓ty_tup_bool, ↓ty_tup_tuple, ↓ty_tup_list, ↓ty_tup_str, ↓ty_tup_dict, ↓tyd_tup, ↓ty_tup_own, ↓isn_tup, ↓con_tup, ↓ty_lst_int, ↓ty_lst_bool, ↓ty_lst_tuple, ↓ty_lst_list, ↓ty_lst_str, ↓ty_lst_dict, ↓tyd_lst, ↓ty_lst_own, ↓isn_lst, ↓con_lst, ↓ty_dct_int, ↓ty_dct_bool, ↓ty_dct_tuple, ↓ty_dct_list, ↓ty_dct_str, ↓ty_dct_dict, ↓tyd_dct, ↓ty_dct_own, ↓isn_dct, ↓con_dct, ↓ty_ins_int, ↓ty_ins_bool, ↓ty_ins_tuple, ↓ty_ins_list, ↓ty_ins_str, ↓ty_ins_dict, ↓tyd_ins, ↓ty_ins_own, ↓isn_ins, ↓con_ins, ↓hin_lst, ↓hin_dct, ↓fla_non, ↓fla_bl, ↓fla_int, ↓fla_str, ↓key_int, ↓key_str, ↓po_nop, ↓po_var, ↓po_con, ↓po_op, ↓sl_tup, ↓sl_lst, ↓s_nil, ↓s_seq, ↓s_asg, ↓s_par, ↓s_aug, ↓s_exp, ↓s_app, ↓s_ext, ↓s_sti, ↓s_ret, ↓s_retn, ↓s_ifs, ↓s_wh, ↓s_rs, ↓s_pas, ↓s_con, ↓s_brk, ↓s_nev, ↓s_mkh, ↓s_frX, ↓s_frS, ↓s_frR, ↓s_frE, ↓s_frZ, ↓p_nil, ↓p_cons, ↓ps_nil, ↓ps_cons, ↓po_nil, ↓po_cons, ↓pv_nil, ↓pv_cons, ↓ok_t, ↓ok_f, ↓mk_t, ↓mk_f, ↓sef_nil, ↓sef_cons, hard_ints, hard_map, hard_nats, Int.reduceToNat, eqv_lst_nil, shp_lst_nil, x_encP0, x_encP1,  ↓List.forall_mem_map,  List.isEmpty_map, Int.reduceLT, Int.reduceLE, ln_enc, i_enc, sq_enc, enc_hard, tr_enc, ty_enc_tuple, ty_enc_list, ty_enc_int, ty_enc_bool, tyd_enc, isn_enc, b_enc, eqv_int, eqv_bl, eqv_str, eqv_nn, eqv_tn, eqv_nt, eqv_in, eqv_ni, eqv_sn, eqv_ns, x_pair0, x_pair1, shp_int, shp_non, shp_bl, lcF_eq, enc_int, enc_nat, enc_bool, decide_eq_true_eq, Bool.not_eq_true', decide_eq_false_iff_not, Bool.not_not, ite_not, List.length_map, Option.some.injEq, exists_eq_left', exists_eq_left, exists_eq_right, exists_eq_right', and_true, true_and, true_implies, List.length_cons, List.length_nil, if_true, if_false, ite_true, ite_false, Bool.false_eq_true, reduceCtorEq, false_implies, List.cons_append, List.nil_append, vars, gvars, D.hard, hardAll, Bool.and_true, Bool.true_and, Bool.not_true, Bool.not_false, List.any_cons, List.any_nil, List.all_cons, List.all_nil, Bool.or_false, Bool.or_true, Bool.false_or, Bool.true_or, Bool.and_false, Bool.false_and, beq_self_eq_true, itSlot, List.getElem?_cons_succ, List.getElem?_cons_zero, D.bl.injEq, fldAt, exists_const, false_or, or_false, false_and, and_false, exists_false, Int.sub_zero, Int.toNat_natCast, Int.zero_add, zs_tt, zs_ll, zs_ee, st_lst, st_dct, exists_eq', D.lst.injEq, D.int.injEq, Option.isNone_none, Option.isNone_some, List.set_cons_zero, b_snoc, Nat.reduceAdd, Nat.reduceLeDiff, Nat.reduceSub, enQ])
def s__law_bill : FSpec := ⟨"_law_bill", "", 1, 2, false, fun ds Q _ => ∃ (a b : List Int), ds = [enc a, enc b] ∧ (a.length ≤ 1000 ∧ ∀ x ∈ a, -1000000000000000000 ≤ x ∧ x ≤ 1000000000000000000) ∧ Q (.int (dot a b))⟩
theorem a__law_bill : s__law_bill.ar = 2 := rfl
theorem c__law_bill (a b : List Int) (Q : DK) (E : XP) : s__law_bill.spec [enc a, enc b] Q E = ((a.length ≤ 1000 ∧ ∀ x ∈ a, -1000000000000000000 ≤ x ∧ x ≤ 1000000000000000000) ∧ Q (.int (dot a b))) := by
  refine propext ⟨?_, fun h => ⟨a, b, rfl, h⟩⟩
  rintro ⟨a', b', e, h⟩
  simp only [List.cons.injEq, enc_inj, and_true] at e
  obtain ⟨rfl, rfl⟩ := e
  exact h
def n__law_bill : List Str := ["prices", "bundle", "price", "many"]
def p__law_bill : List Str := ["prices", "bundle"]
def b__law_bill : MS := (.seq (.ret (.op (.blt .sum) (.acons (.lc [2, 3] (.op (.bin .Mult) (.acons (.var 2) (.acons (.var 3) .anil))) (.tp (.gcons (.nm 2) (.gcons (.nm 3) .gnil))) (.itZ (.var 0) (.var 1)) (.con (.bl true))) .anil))) .nil)
theorem w__law_bill : FW s__law_bill b__law_bill 2 := .of rfl fun _ Q E ⟨a, b, e, ⟨h, h2⟩, q⟩ => by
  subst e
  unfold b__law_bill
  simp only [List.map_cons, List.map_nil, List.replicate, List.cons_append, List.nil_append]
  walk_at "wl"
  rw [zipT_map]
  refine ⟨?_, lcGo_map prD (fun d hd K k => ?_) ?_⟩
  · rw [List.length_map, List.length_zip]
    exact le_lim (Nat.le_trans (Nat.min_le_left _ _) h)
  · obtain ⟨p, hp, rfl⟩ := List.mem_map.mp hd
    walk_at "wl"
    have := h2 p.1 (List.of_mem_zip hp).1
    exact ⟨.inl (by omega), k⟩
  · refine ⟨(a.zip b).map fun p => p.1 * p.2, ?_, ?_⟩
    · rw [List.nil_append, List.map_map]
      exact ints_map (fun p : Int × Int => p.1 * p.2) _
    · rw [zip_mul]; exact q
/-- rows in a tuple or in a list -/
def rwD (l : Bool) (rs : Rows) : D := if l = true then .lst (rs.map enc) else enc rs
theorem rwD_t (rs : Rows) : D.lst (rs.map enc) = rwD true rs := rfl
theorem rwD_f (rs : Rows) : enc rs = rwD false rs := rfl
theorem rwD_inj {l l' : Bool} {rs rs' : Rows} (h : rwD l rs = rwD l' rs') : rs = rs' := by
  cases l <;> cases l'
  · exact enc_inj.mp h
  · have h' : D.tup (rs.map enc) = D.lst (rs'.map enc) := h
    cases h'
  · have h' : D.lst (rs.map enc) = D.tup (rs'.map enc) := h
    cases h'
  · have h' : D.lst (rs.map enc) = D.lst (rs'.map enc) := h
    injection h' with h'
    exact map_inj (fun a b e => enc_inj.mp e) h'
theorem rwD_len (l : Bool) (rs : Rows) : lenOf (rwD l rs) = some rs.length := by cases l <;> simp [rwD, enc_list, lenOf]
theorem x_rwD {l : Bool} {rs : Rows} {i : Nat} (h : i < rs.length) (Q : DK) : idxSem (rwD l rs) (.int i) Q = Q (.tup [enc (rowAt rs i).1, enc (rowAt rs i).2]) := by
  cases l
  · exact x_row h Q
  · have h2 := x_row h Q
    rw [x_enc h] at h2
    rw [← h2]
    exact x_lstM h
def spW (pre : Rows → Nat → Nat → Prop) (r : Rows → Nat → Nat → D) : List D → DK → XP → Prop := fun ds Q _ => ∃ (l : Bool) (rs : Rows) (i j : Nat), ds = [rwD l rs, .int i, .int j] ∧ pre rs i j ∧ Q (r rs i j)
def s__law_shows : FSpec := ⟨"_law_shows", "", 2, 3, false, fun ds Q _ => ∃ (l : Bool) (g : Int) (rs : Rows) (i j : Nat), ds = [rwD l rs, .int i, .int j] ∧ (OkR g rs ∧ i < rs.length ∧ j < rs.length) ∧ Q (.tup [.bl (decide (cost rs i j ≤ cost rs i i)), .bl (decide (cost rs i j < cost rs i i))])⟩
theorem a__law_shows : s__law_shows.ar = 3 := rfl
theorem c__law_shows {l : Bool} {g : Int} {rs : Rows} {i j : Nat} {Q : DK} {E : XP} (h : OkR g rs) (hi : i < rs.length) (hj : j < rs.length) (q : Q (.tup [.bl (decide (cost rs i j ≤ cost rs i i)), .bl (decide (cost rs i j < cost rs i i))])) : s__law_shows.spec [rwD l rs, .int i, .int j] Q E := ⟨l, g, rs, i, j, rfl, ⟨h, hi, hj⟩, q⟩
local macro_rules | `(tactic| walk_at "wl") => `(tactic| simp only [a__law_bill, c__law_bill, rwD_len, ↓gS_va, ↓gS_ow, ↓gS_lk, ↓gS_s, ↓gO_ow, ↓gO_s, ↓f1_va, ↓f1_ow, ↓f1_lk, ↓f1_hn, ↓f1_sc, ↓f1_un, ↓f1_s, ↓f1_nil, ↓frz_nil, ↓frz_cons, ↓wip_nil, ↓wip_cons, ↓thaw_t, ↓thaw_f, ↓set_z, ↓set_s, ↓lock_n, ↓zs_tt, ↓zs_ll, ↓st_lst, ↓st_dct, ↓noHn_nil, ↓noHn_cons, ↓nhn_va, ↓nhn_ow, ↓nhn_lk, ↓nhn_un, ↓nhn_sc, ↓w_var, ↓w_con, ↓w_glo, ↓w_op, ↓w_bm, ↓w_chn, ↓w_and, ↓w_or, ↓w_not, ↓w_ife, ↓w_isi, ↓w_call, ↓w_callh, ↓w_meth, ↓w_eqo, ↓w_lz, ↓w_ds1, ↓w_ss, ↓w_make, ↓w_slc, ↓w_nop, ↓w_lc, ↓w_dsp, ↓w_pop, ↓w_popAt, ↓w_anil, ↓w_acons, ↓w_itS, ↓w_itX, ↓w_itR, ↓w_itE, ↓w_itZ, ↓t_and, ↓t_or, ↓t_not, ↓t_var, ↓t_con, ↓t_op, ↓t_chn, ↓t_isi, ↓t_call, ↓t_callh, ↓t_meth, ↓t_eqo, ↓hn_ex, ↓tr_bl, ↓tr_int, ↓tr_non, ↓tr_tup, ↓tr_lst, ↓o_bin, ↓o_cmp, ↓o_neg, ↓o_tup, ↓o_lst, ↓o_idx, ↓o_fld, ↓o_blt, ↓b_add, ↓b_addT, ↓b_addL, ↓b_addS, ↓b_sub, ↓b_mul, ↓b_mulT, ↓b_mulL, ↓b_div, ↓b_mod, ↓b_pow, ↓c_eq, ↓c_ne, ↓c_lt, ↓c_le, ↓c_gt, ↓c_ge, ↓c_is, ↓c_isn, ↓c_isB, ↓c_isnB, ↓isBl_t, ↓isBl_f, ↓c_inL, ↓c_inT, ↓c_inD, ↓c_niL, ↓c_niT, ↓c_niD, ↓x_dct, ↓fl_ins, ↓bl_len, ↓bl_all, ↓bl_any, ↓bl_sum, ↓bl_tupL, ↓bl_tupT, ↓bl_lstR, ↓bl_lstL, ↓bl_lstT, ↓bl_int, ↓bl_intB, ↓bl_abs, ↓bl_min2, ↓bl_max2, ↓bl_dict, ↓bl_rng, ↓bl_srt, ↓ln_lst, ↓ln_tup, ↓ln_dct, ↓sq_lst, ↓sq_tup, ↓m_get2, ↓m_get1, ↓m_ix, ↓h_get2, ↓h_get1, ↓h_ix, ↓i_lst, ↓i_tup, ↓i_rng, ↓r_one, ↓r_two, ↓g_nm, ↓g_tp, ↓g_nil, ↓g_cons, ↓gl_nil, ↓gl_cons, ↓ty_non_int, ↓ty_non_bool, ↓ty_non_tuple, ↓ty_non_list, ↓ty_non_str, ↓ty_non_dict, ↓tyd_non, ↓ty_non_own, ↓isn_non, ↓con_non, ↓ty_bl_int, ↓ty_bl_bool, ↓ty_bl_tuple, ↓ty_bl_list, ↓ty_bl_str, ↓ty_bl_dict, ↓tyd_bl, ↓ty_bl_own, ↓isn_bl, ↓con_bl, ↓ty_int_int, ↓ty_int_bool, ↓ty_int_tuple, ↓ty_int_list, ↓ty_int_str, ↓ty_int_dict, ↓tyd_int, ↓ty_int_own, ↓isn_int, ↓con_int, ↓ty_str_int, ↓ty_str_bool, ↓ty_str_tuple, ↓ty_str_list, ↓ty_str_str, ↓ty_str_dict, ↓tyd_str, ↓ty_str_own, ↓isn_str, ↓con_str, ↓ty_tup_int, ↓ty_tup_bool, ↓ty_tup_tuple, ↓ty_tup_list, ↓ty_tup_str, ↓ty_tup_dict, ↓tyd_tup, ↓ty_tup_own, ↓isn_tup, ↓con_tup, ↓ty_lst_int, ↓ty_lst_bool, ↓ty_lst_tuple, ↓ty_lst_list, ↓ty_lst_str, ↓ty_lst_dict, ↓tyd_lst, ↓ty_lst_own, ↓isn_lst, ↓con_lst, ↓ty_dct_int, ↓ty_dct_bool, ↓ty_dct_tuple, ↓ty_dct_list, ↓ty_dct_str, ↓ty_dct_dict, ↓tyd_dct, ↓ty_dct_own, ↓isn_dct, ↓con_dct, ↓ty_ins_int, ↓ty_ins_bool, ↓ty_ins_tuple, ↓ty_ins_list, ↓ty_ins_str, ↓ty_ins_dict, ↓tyd_ins, ↓ty_ins_own, ↓isn_ins, ↓con_ins, ↓hin_lst, ↓hin_dct, ↓fla_non, ↓fla_bl, ↓fla_int, ↓fla_str, ↓key_int, ↓key_str, ↓po_nop, ↓po_var, ↓po_con, ↓po_op, ↓sl_tup, ↓sl_lst, ↓s_nil, ↓s_seq, ↓s_asg, ↓s_par, ↓s_aug, ↓s_exp, ↓s_app, ↓s_ext, ↓s_sti, ↓s_ret, ↓s_retn, ↓s_ifs, ↓s_wh, ↓s_rs, ↓s_pas, ↓s_con, ↓s_brk, ↓s_nev, ↓s_mkh, ↓s_frX, ↓s_frS, ↓s_frR, ↓s_frE, ↓s_frZ, ↓p_nil, ↓p_cons, ↓ps_nil, ↓ps_cons, ↓po_nil, ↓po_cons, ↓pv_nil, ↓pv_cons, ↓ok_t, ↓ok_f, ↓mk_t, ↓mk_f, ↓sef_nil, ↓sef_cons, hard_ints, hard_map, hard_nats, Int.reduceToNat, eqv_lst_nil, shp_lst_nil, x_encP0, x_encP1,  ↓List.forall_mem_map,  List.isEmpty_map, Int.reduceLT, Int.reduceLE, ln_enc, i_enc, sq_enc, enc_hard, tr_enc, ty_enc_tuple, ty_enc_list, ty_enc_int, ty_enc_bool, tyd_enc, isn_enc, b_enc, eqv_int, eqv_bl, eqv_str, eqv_nn, eqv_tn, eqv_nt, eqv_in, eqv_ni, eqv_sn, eqv_ns, x_pair0, x_pair1, shp_int, shp_non, shp_bl, lcF_eq, enc_int, enc_nat, enc_bool, decide_eq_true_eq, Bool.not_eq_true', decide_eq_false_iff_not, Bool.not_not, ite_not, List.length_map, Option.some.injEq, exists_eq_left', exists_eq_left, exists_eq_right, exists_eq_right', and_true, true_and, true_implies, List.length_cons, List.length_nil, if_true, if_false, ite_true, ite_false, Bool.false_eq_true, reduceCtorEq, false_implies, List.cons_append, List.nil_append, vars, gvars, D.hard, hardAll, Bool.and_true, Bool.true_and, Bool.not_true, Bool.not_false, List.any_cons, List.any_nil, List.all_cons, List.all_nil, Bool.or_false, Bool.or_true, Bool.false_or, Bool.true_or, Bool.and_false, Bool.false_and, beq_self_eq_true, itSlot, List.getElem?_cons_succ, List.getElem?_cons_zero, D.bl.injEq, fldAt, exists_const, false_or, or_false, false_and, and_false, exists_false, Int.sub_zero, Int.toNat_natCast, Int.zero_add, zs_tt, zs_ll, zs_ee, st_lst, st_dct, exists_eq', D.lst.injEq, D.int.injEq, Option.isNone_none, Option.isNone_some, List.set_cons_zero, b_snoc, Nat.reduceAdd, Nat.reduceLeDiff, Nat.reduceSub, enQ])
def n__law_shows : List Str := ["rows", "i", "j", "mine", "other"]
def p__law_shows : List Str := ["rows", "i", "j"]
def b__law_shows : MS := (.seq (.par [(3, false, (.call s__law_bill (.acons (.op .idx (.acons (.op .idx (.acons (.var 0) (.acons (.var 1) .anil))) (.acons (.con (.int 0)) .anil))) (.acons (.op .idx (.acons (.op .idx (.acons (.var 0) (.acons (.var 1) .anil))) (.acons (.con (.int 1)) .anil))) .anil)))), (4, false, (.call s__law_bill (.acons (.op .idx (.acons (.op .idx (.acons (.var 0) (.acons (.var 1) .anil))) (.acons (.con (.int 0)) .anil))) (.acons (.op .idx (.acons (.op .idx (.acons (.var 0) (.acons (.var 2) .anil))) (.acons (.con (.int 1)) .anil))) .anil))))]) (.seq (.ret (.op .tup (.acons (.op (.cmp .LtE) (.acons (.var 4) (.acons (.var 3) .anil))) (.acons (.op (.cmp .Lt) (.acons (.var 4) (.acons (.var 3) .anil))) .anil)))) .nil))
theorem w__law_shows : FW s__law_shows b__law_shows 2 := .of rfl fun _ Q E ⟨l, g, rs, i, j, e, ⟨h, hi, hj⟩, q⟩ => by
  subst e
  unfold b__law_shows
  simp only [List.map_cons, List.map_nil, List.replicate, List.cons_append, List.nil_append]
  walk_at "wl"
  have hg := h.hi
  obtain ⟨⟨h1, h2⟩, _⟩ := h.rows _ (rowAt_mem hi)
  have pb : (rowAt rs i).1.length ≤ 1000 ∧ ∀ x ∈ (rowAt rs i).1, -1000000000000000000 ≤ x ∧ x ≤ 1000000000000000000 := ⟨by omega, fun x hx => by have := h2 x hx; omega⟩
  repeat (rw [x_rwD hi]; try walk_at "wl")
  refine ⟨pb, ?_⟩
  rw [x_rwD hj]
  walk_at "wl"
  exact ⟨pb, q⟩
def nxD (nb : Nat → List Nat) (n : Nat) : D := .lst ((List.range n).map fun i => .lst ((nb i).map fun (j : Nat) => D.int j))
theorem x_nxD {nb : Nat → List Nat} {n i : Nat} (h : i < n) (Q : DK) : idxSem (nxD nb n) (.int i) Q = Q (.lst ((nb i).map fun (j : Nat) => D.int j)) := by
  unfold nxD
  rw [x_lstM (by simpa using h)]
  simp
theorem nxD_hard (nb : Nat → List Nat) (n : Nat) : (nxD nb n).hard = false := rfl
theorem rel_nb {g : Int} {rs : Rows} (h : OkR g rs) {i j : Nat} (hi : i < rs.length) (hj : j < rs.length) : j ∈ nbR rs i ↔ cost rs i j ≤ cost rs i i := by
  rw [nbR_eq hi, List.mem_filter, List.mem_range]
  unfold wordOf
  by_cases z : cost rs i j > cost rs i i
  · rw [if_pos z]
    constructor
    · rintro ⟨_, h⟩; cases h
    · intro h; omega
  · rw [if_neg z]
    exact ⟨fun _ => by omega, fun _ => ⟨hj, rfl⟩⟩
theorem bt_iff {rs : Rows} {i j : Nat} (hi : i < rs.length) (hj : j < rs.length) : btT (tabOf rs) i j = true ↔ cost rs i j < cost rs i i := by
  unfold btT
  rw [tw_tabOf hi hj]
  unfold wordOf
  by_cases z : cost rs i j > cost rs i i
  · rw [if_pos z]
    constructor
    · intro h; cases h
    · intro h; omega
  · rw [if_neg z]
    simp
def s__law_nexts : FSpec := ⟨"_law_nexts", "", 3, 1, false, fun ds Q _ => ∃ (l : Bool) (g : Int) (rs : Rows), ds = [rwD l rs] ∧ OkR g rs ∧ Q (nxD (nbR rs) rs.length)⟩
theorem a__law_nexts : s__law_nexts.ar = 1 := rfl
theorem c__law_nexts {l : Bool} {g : Int} {rs : Rows} {Q : DK} {E : XP} (h : OkR g rs) (q : Q (nxD (nbR rs) rs.length)) : s__law_nexts.spec [rwD l rs] Q E := ⟨l, g, rs, rfl, h, q⟩
local macro_rules | `(tactic| walk_at "wl") => `(tactic| simp only [a__law_bill, c__law_bill, rwD_len, a__law_shows, ↓gS_va, ↓gS_ow, ↓gS_lk, ↓gS_s, ↓gO_ow, ↓gO_s, ↓f1_va, ↓f1_ow, ↓f1_lk, ↓f1_hn, ↓f1_sc, ↓f1_un, ↓f1_s, ↓f1_nil, ↓frz_nil, ↓frz_cons, ↓wip_nil, ↓wip_cons, ↓thaw_t, ↓thaw_f, ↓set_z, ↓set_s, ↓lock_n, ↓zs_tt, ↓zs_ll, ↓st_lst, ↓st_dct, ↓noHn_nil, ↓noHn_cons, ↓nhn_va, ↓nhn_ow, ↓nhn_lk, ↓nhn_un, ↓nhn_sc, ↓w_var, ↓w_con, ↓w_glo, ↓w_op, ↓w_bm, ↓w_chn, ↓w_and, ↓w_or, ↓w_not, ↓w_ife, ↓w_isi, ↓w_call, ↓w_callh, ↓w_meth, ↓w_eqo, ↓w_lz, ↓w_ds1, ↓w_ss, ↓w_make, ↓w_slc, ↓w_nop, ↓w_lc, ↓w_dsp, ↓w_pop, ↓w_popAt, ↓w_anil, ↓w_acons, ↓w_itS, ↓w_itX, ↓w_itR, ↓w_itE, ↓w_itZ, ↓t_and, ↓t_or, ↓t_not, ↓t_var, ↓t_con, ↓t_op, ↓t_chn, ↓t_isi, ↓t_call, ↓t_callh, ↓t_meth, ↓t_eqo, ↓hn_ex, ↓tr_bl, ↓tr_int, ↓tr_non, ↓tr_tup, ↓tr_lst, ↓o_bin, ↓o_cmp, ↓o_neg, ↓o_tup, ↓o_lst, ↓o_idx, ↓o_fld, ↓o_blt, ↓b_add, ↓b_addT, ↓b_addL, ↓b_addS, ↓b_sub, ↓b_mul, ↓b_mulT, ↓b_mulL, ↓b_div, ↓b_mod, ↓b_pow, ↓c_eq, ↓c_ne, ↓c_lt, ↓c_le, ↓c_gt, ↓c_ge, ↓c_is, ↓c_isn, ↓c_isB, ↓c_isnB, ↓isBl_t, ↓isBl_f, ↓c_inL, ↓c_inT, ↓c_inD, ↓c_niL, ↓c_niT, ↓c_niD, ↓x_dct, ↓fl_ins, ↓bl_len, ↓bl_all, ↓bl_any, ↓bl_sum, ↓bl_tupL, ↓bl_tupT, ↓bl_lstR, ↓bl_lstL, ↓bl_lstT, ↓bl_int, ↓bl_intB, ↓bl_abs, ↓bl_min2, ↓bl_max2, ↓bl_dict, ↓bl_rng, ↓bl_srt, ↓ln_lst, ↓ln_tup, ↓ln_dct, ↓sq_lst, ↓sq_tup, ↓m_get2, ↓m_get1, ↓m_ix, ↓h_get2, ↓h_get1, ↓h_ix, ↓i_lst, ↓i_tup, ↓i_rng, ↓r_one, ↓r_two, ↓g_nm, ↓g_tp, ↓g_nil, ↓g_cons, ↓gl_nil, ↓gl_cons, ↓ty_non_int, ↓ty_non_bool, ↓ty_non_tuple, ↓ty_non_list, ↓ty_non_str, ↓ty_non_dict, ↓tyd_non, ↓ty_non_own, ↓isn_non, ↓con_non, ↓ty_bl_int, ↓ty_bl_bool, ↓ty_bl_tuple, ↓ty_bl_list, ↓ty_bl_str, ↓ty_bl_dict, ↓tyd_bl, ↓ty_bl_own, ↓isn_bl, ↓con_bl, ↓ty_int_int, ↓ty_int_bool, ↓ty_int_tuple, ↓ty_int_list, ↓ty_int_str, ↓ty_int_dict, ↓tyd_int, ↓ty_int_own, ↓isn_int, ↓con_int, ↓ty_str_int, ↓ty_str_bool, ↓ty_str_tuple, ↓ty_str_list, ↓ty_str_str, ↓ty_str_dict, ↓tyd_str, ↓ty_str_own, ↓isn_str, ↓con_str, ↓ty_tup_int, ↓ty_tup_bool, ↓ty_tup_tuple, ↓ty_tup_list, ↓ty_tup_str, ↓ty_tup_dict, ↓tyd_tup, ↓ty_tup_own, ↓isn_tup, ↓con_tup, ↓ty_lst_int, ↓ty_lst_bool, ↓ty_lst_tuple, ↓ty_lst_list, ↓ty_lst_str, ↓ty_lst_dict, ↓tyd_lst, ↓ty_lst_own, ↓isn_lst, ↓con_lst, ↓ty_dct_int, ↓ty_dct_bool, ↓ty_dct_tuple, ↓ty_dct_list, ↓ty_dct_str, ↓ty_dct_dict, ↓tyd_dct, ↓ty_dct_own, ↓isn_dct, ↓con_dct, ↓ty_ins_int, ↓ty_ins_bool, ↓ty_ins_tuple, ↓ty_ins_list, ↓ty_ins_str, ↓ty_ins_dict, ↓tyd_ins, ↓ty_ins_own, ↓isn_ins, ↓con_ins, ↓hin_lst, ↓hin_dct, ↓fla_non, ↓fla_bl, ↓fla_int, ↓fla_str, ↓key_int, ↓key_str, ↓po_nop, ↓po_var, ↓po_con, ↓po_op, ↓sl_tup, ↓sl_lst, ↓s_nil, ↓s_seq, ↓s_asg, ↓s_par, ↓s_aug, ↓s_exp, ↓s_app, ↓s_ext, ↓s_sti, ↓s_ret, ↓s_retn, ↓s_ifs, ↓s_wh, ↓s_rs, ↓s_pas, ↓s_con, ↓s_brk, ↓s_nev, ↓s_mkh, ↓s_frX, ↓s_frS, ↓s_frR, ↓s_frE, ↓s_frZ, ↓p_nil, ↓p_cons, ↓ps_nil, ↓ps_cons, ↓po_nil, ↓po_cons, ↓pv_nil, ↓pv_cons, ↓ok_t, ↓ok_f, ↓mk_t, ↓mk_f, ↓sef_nil, ↓sef_cons, hard_ints, hard_map, hard_nats, Int.reduceToNat, eqv_lst_nil, shp_lst_nil, x_encP0, x_encP1,  ↓List.forall_mem_map,  List.isEmpty_map, Int.reduceLT, Int.reduceLE, ln_enc, i_enc, sq_enc, enc_hard, tr_enc, ty_enc_tuple, ty_enc_list, ty_enc_int, ty_enc_bool, tyd_enc, isn_enc, b_enc, eqv_int, eqv_bl, eqv_str, eqv_nn, eqv_tn, eqv_nt, eqv_in, eqv_ni, eqv_sn, eqv_ns, x_pair0, x_pair1, shp_int, shp_non, shp_bl, lcF_eq, enc_int, enc_nat, enc_bool, decide_eq_true_eq, Bool.not_eq_true', decide_eq_false_iff_not, Bool.not_not, ite_not, List.length_map, Option.some.injEq, exists_eq_left', exists_eq_left, exists_eq_right, exists_eq_right', and_true, true_and, true_implies, List.length_cons, List.length_nil, if_true, if_false, ite_true, ite_false, Bool.false_eq_true, reduceCtorEq, false_implies, List.cons_append, List.nil_append, vars, gvars, D.hard, hardAll, Bool.and_true, Bool.true_and, Bool.not_true, Bool.not_false, List.any_cons, List.any_nil, List.all_cons, List.all_nil, Bool.or_false, Bool.or_true, Bool.false_or, Bool.true_or, Bool.and_false, Bool.false_and, beq_self_eq_true, itSlot, List.getElem?_cons_succ, List.getElem?_cons_zero, D.bl.injEq, fldAt, exists_const, false_or, or_false, false_and, and_false, exists_false, Int.sub_zero, Int.toNat_natCast, Int.zero_add, zs_tt, zs_ll, zs_ee, st_lst, st_dct, exists_eq', D.lst.injEq, D.int.injEq, Option.isNone_none, Option.isNone_some, List.set_cons_zero, b_snoc, Nat.reduceAdd, Nat.reduceLeDiff, Nat.reduceSub, enQ])
def n__law_nexts : List Str := ["rows", "found", "i", "j"]
def p__law_nexts : List Str := ["rows"]
def b__law_nexts : MS := (.seq (.par [(1, true, (.op .lst .anil))]) (.seq (.fr (.nm 2) (.itR (.acons (.op (.blt .len) (.acons (.var 0) .anil)) .anil)) (.seq (.app 1 (.lc [3] (.var 3) (.nm 3) (.itR (.acons (.op (.blt .len) (.acons (.var 0) .anil)) .anil)) (.op .idx (.acons (.call s__law_shows (.acons (.var 0) (.acons (.var 2) (.acons (.var 3) .anil)))) (.acons (.con (.int 0)) .anil))))) .nil)) (.seq (.ret (.var 1)) .nil)))
theorem w__law_nexts : FW s__law_nexts b__law_nexts 3 := .of rfl fun _ Q E ⟨l, g, rs, e, h, q⟩ => by
  subst e
  unfold b__law_nexts
  simp only [List.map_cons, List.map_nil, List.replicate, List.cons_append, List.nil_append]
  have hl := h.len
  walk_at "wl"
  refine ⟨by rw [lim_eq']; omega, rngOk_nat (by omega), ?_⟩
  refine frGo_rng (fun m S => ∃ (x2 : Sl), S = [.va (rwD l rs), .ow (.lst ((List.range m).map fun i => .lst ((nbR rs i).map fun (j : Nat) => D.int j))), x2, .un]) ⟨_, rfl⟩ ?_ ?_
  · rintro m S N hm ⟨x2, rfl⟩ kN
    walk_at "wl"
    refine ⟨by rw [lim_eq']; omega, rngOk_nat (by omega), by rw [List.length_range, lim_eq']; omega, ?_⟩
    refine lcGo_fm (fun d => if decide (cost rs m (natD d) ≤ cost rs m m) = true then some (.int (natD d)) else none) (fun d hd K k => ?_) ?_
    · obtain ⟨j, hj, rfl⟩ := List.mem_map.mp hd
      have hj := List.mem_range.mp hj
      walk_at "wl"
      refine c__law_shows h hm hj ?_
      walk_at "wl"
      have e : natD (.int (j : Int)) = j := by simp [natD]
      rw [e] at k
      by_cases z : cost rs m j ≤ cost rs m m
      · simp only [z, decide_true, if_true] at k ⊢
        exact k
      · simp only [z, decide_false, if_false, Bool.false_eq_true] at k ⊢
        exact k
    · rw [List.nil_append, List.filterMap_map]
      have e : ((fun d => if decide (cost rs m (natD d) ≤ cost rs m m) = true then some (D.int (natD d)) else none) ∘ fun (k : Nat) => D.int k) = fun (k : Nat) => if decide (cost rs m k ≤ cost rs m m) = true then some (D.int k) else none := by
        funext k
        simp only [Function.comp, natD, Int.toNat_natCast]
        rfl
      rw [e, filterMap_if (fun k => decide (cost rs m k ≤ cost rs m m)) (fun (k : Nat) => D.int k)]
      have e2 : (List.range rs.length).filter (fun k => decide (cost rs m k ≤ cost rs m m)) = nbR rs m := by
        rw [nbR_eq hm]
        refine List.filter_congr fun j hj => ?_
        have := rel_nb h hm (List.mem_range.mp hj)
        rw [nbR_eq hm, List.mem_filter] at this
        rw [Bool.eq_iff_iff, decide_eq_true_eq, ← this]
        exact ⟨fun z => z.2, fun z => ⟨hj, z⟩⟩
      rw [e2]
      refine ⟨by rw [List.length_range, lim_eq']; omega, kN _ ⟨.va (.int m), ?_⟩⟩
      rw [List.range_succ, List.map_append]
      rfl
  · rintro S ⟨x2, rfl⟩
    walk_at "wl"
    exact q
def s__law_all_behind : FSpec := ⟨"_law_all_behind", "", 1, 2, false, fun ds Q _ => ∃ (nb : Nat → List Nat) (n i : Nat), ds = [nxD nb n, .int i] ∧ (n ≤ 1000 ∧ i < n ∧ (∀ a, ∀ l ∈ nb a, l < n)) ∧ ∀ found : List Nat, (∀ x, x ∈ found ↔ Reach nb i x) → Q (.dct (found.map fun (k : Nat) => D.int k) (found.map fun _ => .bl true))⟩
theorem a__law_all_behind : s__law_all_behind.ar = 2 := rfl
theorem c__law_all_behind {nb : Nat → List Nat} {n i : Nat} {Q : DK} {E : XP} (h1 : n ≤ 1000) (h2 : i < n) (h3 : ∀ a, ∀ l ∈ nb a, l < n) (q : ∀ found : List Nat, (∀ x, x ∈ found ↔ Reach nb i x) → Q (.dct (found.map fun (k : Nat) => D.int k) (found.map fun _ => .bl true))) : s__law_all_behind.spec [nxD nb n, .int i] Q E := ⟨nb, n, i, rfl, ⟨h1, h2, h3⟩, q⟩
def n__law_all_behind : List Str := ["nexts", "begin", "found", "waiting", "there"]
def p__law_all_behind : List Str := ["nexts", "begin"]
def b__law_all_behind : MS := (.seq (.par [(2, true, (.ds1 (.var 1) (.con (.bl true)))), (3, true, (.op .lst (.acons (.var 1) .anil)))]) (.seq (.wh (.op (.cmp .Gt) (.acons (.op (.blt .len) (.acons (.var 3) .anil)) (.acons (.con (.int 0)) .anil))) (.seq (.fr (.nm 4) (.itS (.op .idx (.acons (.var 0) (.acons (.pop 3) .anil)))) (.seq (.ifs (.op (.cmp .NotIn) (.acons (.var 4) (.acons (.var 2) .anil))) (.seq (.sti 2 (.var 4) (.con (.bl true))) (.seq (.app 3 (.var 4)) .nil)) .nil) .nil)) .nil)) (.seq (.ret (.var 2)) .nil)))
theorem key_nat (l : Nat) (f : List Nat) : keyAt (.int l) (f.map fun (k : Nat) => D.int k) = none ↔ l ∉ f := by
  have := keyAt_map l f
  rw [show (f.map fun (k : Nat) => D.int k) = f.map enc from rfl, show (D.int (l : Int)) = enc l from rfl, this, List.findIdx?_eq_none_iff]
  constructor
  · intro h hm
    simpa using h l hm
  · intro h x hx
    simp only [decide_eq_false_iff_not]
    rintro rfl
    exact h hx
theorem key_isNone (l : Nat) (f : List Nat) : (keyAt (.int l) (f.map fun (k : Nat) => D.int k)).isNone = !decide (l ∈ f) := by
  by_cases h : l ∈ f
  · have hk : keyAt (.int (l : Int)) (f.map fun (k : Nat) => D.int k) ≠ none := fun z => (key_nat l f).mp z h
    cases z : keyAt (.int (l : Int)) (f.map fun (k : Nat) => D.int k) with
    | none => exact absurd z hk
    | some _ => simp [h]
  · rw [(key_nat l f).mpr h]; simp [h]
theorem key_isSome (l : Nat) (f : List Nat) : (keyAt (.int l) (f.map fun (k : Nat) => D.int k)).isSome = decide (l ∈ f) := by
  have := key_isNone l f
  cases z : keyAt (.int (l : Int)) (f.map fun (k : Nat) => D.int k) with
  | none => rw [z] at this; simpa using this
  | some _ => rw [z] at this; simpa using this
def behS (nb : Nat → List Nat) (n i : Nat) (f w : List Nat) (x4 : Sl) : List Sl := [.va (nxD nb n), .va (.int i), .ow (.dct (f.map fun (k : Nat) => D.int k) (f.map fun _ => .bl true)), .ow (.lst (w.map fun (k : Nat) => D.int k)), x4]
/-- while one is looked at -/
structure Mid (nb : Nat → List Nat) (i x : Nat) (done found waiting : List Nat) : Prop where
  has : i ∈ found
  nd : found.Nodup
  reach : ∀ y ∈ found, Reach nb i y
  sub : ∀ y ∈ waiting, y ∈ found
  hx : x ∈ found
  cl : ∀ y ∈ found, y ∈ waiting ∨ y = x ∨ ∀ l ∈ nb y, l ∈ found
  dn : ∀ y ∈ done, y ∈ found
theorem w__law_all_behind : FW s__law_all_behind b__law_all_behind 3 := .of rfl fun _ Q E ⟨nb, n, i, e, ⟨h1, h2, h3⟩, q⟩ => by
  subst e
  unfold b__law_all_behind
  simp only [List.map_cons, List.map_nil, List.replicate, List.cons_append, List.nil_append]
  walk_at "wl"
  refine whGo_f (fun f S => ∃ fd wt x4, f = 2 * (n - fd.length) + wt.length ∧ wt.length ≤ fd.length ∧ Grow nb i fd wt ∧ S = behS nb n i fd wt x4) ?_ (f := 2 * (n - 1) + 1) ⟨[i], [i], _, rfl, Nat.le_refl _, ⟨by simp, by simp, fun x hx => by rw [List.mem_singleton.mp hx]; exact .refl i, fun x hx => hx, fun x hx => .inl hx⟩, rfl⟩
  rintro f S N ⟨fd, wt, x4, rfl, hwl, gr, rfl⟩ kN
  have hfd : fd.length ≤ n := nodup_le n fd gr.nd fun x hx => (gr.reach x hx).lt h3 h2
  have hwd : ∀ x ∈ fd, x < n := fun x hx => (gr.reach x hx).lt h3 h2
  unfold behS
  walk_at "wl"
  refine ⟨by rw [lim_eq']; omega, ?_⟩
  by_cases hw : 0 < wt.length
  · rw [if_pos (by omega)]
    obtain ⟨w0, x, rfl⟩ : ∃ w0 x, wt = w0 ++ [x] := ⟨wt.dropLast, wt.getLast (List.length_pos_iff.mp hw), (List.dropLast_concat_getLast _).symm⟩
    have hx : x ∈ fd := gr.sub x (by simp)
    have hxn := hwd x hx
    refine ⟨_, .int x, rfl, by simp, ?_⟩
    rw [x_nxD hxn]
    have edl : (List.map (fun (k : Nat) => D.int k) (w0 ++ [x])).dropLast = w0.map fun (k : Nat) => D.int k := by simp
    rw [edl]
    walk_at "wl"
    have hw0 : w0.length + 1 ≤ fd.length := by simpa using hwl
    refine frGo_pre (fun pre S => ∃ (x4 : Sl) (ls f2 w2 : List Nat), pre = ls.map (fun (k : Nat) => D.int k) ∧ Mid nb i x ls f2 w2 ∧ (2 * (n - f2.length) + w2.length ≤ 2 * (n - fd.length) + w0.length ∧ w2.length ≤ f2.length) ∧ S = behS nb n i f2 w2 x4) ⟨x4, [], fd, w0, rfl, ⟨gr.has, gr.nd, gr.reach, fun y hy => gr.sub y (by simp [hy]), hx, fun y hy => ?_, fun y hy => by cases hy⟩, ⟨Nat.le_refl _, by omega⟩, rfl⟩ ?_ ?_
    · rcases gr.cl y hy with z | z
      · rcases List.mem_append.mp z with z | z
        · exact .inl z
        · exact .inr (.inl (List.mem_singleton.mp z))
      · exact .inr (.inr z)
    · rintro pre d post S N' hpre ⟨x4, ls, f2, w2, rfl, md, ⟨hm, hw2⟩, rfl⟩ kN'
      refine ⟨trivial, ?_⟩
      have hd : d ∈ (nb x).map fun (j : Nat) => D.int j := by rw [hpre]; simp
      obtain ⟨l, hl, rfl⟩ := List.mem_map.mp hd
      have hln := h3 _ l hl
      have hf2 : f2.length ≤ n := nodup_le n f2 md.nd fun y hy => (md.reach y hy).lt h3 h2
      unfold behS
      walk_at "wl"
      rw [key_isNone]
      by_cases hin : l ∈ f2
      · rw [if_neg (by simp [hin])]
        refine kN' _ ⟨_, ls ++ [l], f2, w2, by simp, ⟨md.has, md.nd, md.reach, md.sub, md.hx, md.cl, fun y hy => ?_⟩, ⟨hm, hw2⟩, rfl⟩
        rcases List.mem_append.mp hy with z | z
        · exact md.dn y z
        · rw [List.mem_singleton.mp z]; exact hin
      · rw [if_pos (by simp [hin])]
        have hf3 : (f2 ++ [l]).length ≤ n := by
          refine nodup_le n _ ?_ fun y hy => ?_
          · rw [List.nodup_append]
            exact ⟨md.nd, by simp, fun a ha b hb e => hin (by rw [← List.mem_singleton.mp hb, ← e]; exact ha)⟩
          · rcases List.mem_append.mp hy with z | z
            · exact (md.reach y z).lt h3 h2
            · rw [List.mem_singleton.mp z]; exact hln
        simp only [List.length_append, List.length_cons, List.length_nil] at hf3
        rw [putKey_new ((key_nat l f2).mpr hin)]
        refine ⟨by rw [lim_eq']; omega, by rw [lim_eq']; omega, kN' _ ⟨.va (.int l), ls ++ [l], f2 ++ [l], w2 ++ [l], by simp, ⟨?_, ?_, ?_, ?_, ?_, ?_, ?_⟩, ⟨by simp only [List.length_append, List.length_cons, List.length_nil]; omega, by simp only [List.length_append, List.length_cons, List.length_nil]; omega⟩, ?_⟩⟩
        · exact List.mem_append_left _ md.has
        · rw [List.nodup_append]
          exact ⟨md.nd, by simp, fun a ha b hb e => hin (by rw [← List.mem_singleton.mp hb, ← e]; exact ha)⟩
        · intro y hy
          rcases List.mem_append.mp hy with z | z
          · exact md.reach y z
          · rw [List.mem_singleton.mp z]; exact (gr.reach x hx).step hl
        · intro y hy
          rcases List.mem_append.mp hy with z | z
          · exact List.mem_append_left _ (md.sub y z)
          · exact List.mem_append_right _ z
        · exact List.mem_append_left _ md.hx
        · intro y hy
          rcases List.mem_append.mp hy with z | z
          · rcases md.cl y z with u | u | u
            · exact .inl (List.mem_append_left _ u)
            · exact .inr (.inl u)
            · exact .inr (.inr fun l' hl' => List.mem_append_left _ (u l' hl'))
          · exact .inl (List.mem_append_right _ z)
        · intro y hy
          rcases List.mem_append.mp hy with z | z
          · exact List.mem_append_left _ (md.dn y z)
          · exact List.mem_append_right _ z
        · simp [behS]
    · rintro S ⟨x4, ls, f2, w2, e, md, ⟨hm, hw2⟩, rfl⟩
      have els : ls = nb x := (map_inj (fun (a b : Nat) (z : D.int a = D.int b) => by injection z with z; omega) e).symm
      subst els
      refine ⟨trivial, kN _ (2 * (n - f2.length) + w2.length) ?_ ⟨f2, w2, _, rfl, hw2, ⟨md.has, md.nd, md.reach, md.sub, fun y hy => ?_⟩, rfl⟩⟩
      · simp only [List.length_append, List.length_cons, List.length_nil]; omega
      · rcases md.cl y hy with u | u | u
        · exact .inl u
        · subst u; exact .inr md.dn
        · exact .inr u
  · rw [if_neg (by omega)]
    have hw0 : wt = [] := List.length_eq_zero_iff.mp (by omega)
    subst hw0
    exact q fd gr.fin
def s__law_is_fitting : FSpec := ⟨"_law_is_fitting", "", 4, 1, false, fun ds Q _ => ∃ (l : Bool) (g : Int) (rs : Rows), ds = [rwD l rs] ∧ OkR g rs ∧ ∀ b : Bool, (b = true ↔ ¬ HasR rs) → Q (.bl b)⟩
theorem a__law_is_fitting : s__law_is_fitting.ar = 1 := rfl
theorem c__law_is_fitting {l : Bool} {g : Int} {rs : Rows} {Q : DK} {E : XP} (h : OkR g rs) (q : ∀ b : Bool, (b = true ↔ ¬ HasR rs) → Q (.bl b)) : s__law_is_fitting.spec [rwD l rs] Q E := ⟨l, g, rs, rfl, h, q⟩
local macro_rules | `(tactic| walk_at "wl") => `(tactic| simp only [a__law_bill, c__law_bill, rwD_len, a__law_shows, a__law_nexts, a__law_all_behind, nxD_hard, ↓gS_va, ↓gS_ow, ↓gS_lk, ↓gS_s, ↓gO_ow, ↓gO_s, ↓f1_va, ↓f1_ow, ↓f1_lk, ↓f1_hn, ↓f1_sc, ↓f1_un, ↓f1_s, ↓f1_nil, ↓frz_nil, ↓frz_cons, ↓wip_nil, ↓wip_cons, ↓thaw_t, ↓thaw_f, ↓set_z, ↓set_s, ↓lock_n, ↓zs_tt, ↓zs_ll, ↓st_lst, ↓st_dct, ↓noHn_nil, ↓noHn_cons, ↓nhn_va, ↓nhn_ow, ↓nhn_lk, ↓nhn_un, ↓nhn_sc, ↓w_var, ↓w_con, ↓w_glo, ↓w_op, ↓w_bm, ↓w_chn, ↓w_and, ↓w_or, ↓w_not, ↓w_ife, ↓w_isi, ↓w_call, ↓w_callh, ↓w_meth, ↓w_eqo, ↓w_lz, ↓w_ds1, ↓w_ss, ↓w_make, ↓w_slc, ↓w_nop, ↓w_lc, ↓w_dsp, ↓w_pop, ↓w_popAt, ↓w_anil, ↓w_acons, ↓w_itS, ↓w_itX, ↓w_itR, ↓w_itE, ↓w_itZ, ↓t_and, ↓t_or, ↓t_not, ↓t_var, ↓t_con, ↓t_op, ↓t_chn, ↓t_isi, ↓t_call, ↓t_callh, ↓t_meth, ↓t_eqo, ↓hn_ex, ↓tr_bl, ↓tr_int, ↓tr_non, ↓tr_tup, ↓tr_lst, ↓o_bin, ↓o_cmp, ↓o_neg, ↓o_tup, ↓o_lst, ↓o_idx, ↓o_fld, ↓o_blt, ↓b_add, ↓b_addT, ↓b_addL, ↓b_addS, ↓b_sub, ↓b_mul, ↓b_mulT, ↓b_mulL, ↓b_div, ↓b_mod, ↓b_pow, ↓c_eq, ↓c_ne, ↓c_lt, ↓c_le, ↓c_gt, ↓c_ge, ↓c_is, ↓c_isn, ↓c_isB, ↓c_isnB, ↓isBl_t, ↓isBl_f, ↓c_inL, ↓c_inT, ↓c_inD, ↓c_niL, ↓c_niT, ↓c_niD, ↓x_dct, ↓fl_ins, ↓bl_len, ↓bl_all, ↓bl_any, ↓bl_sum, ↓bl_tupL, ↓bl_tupT, ↓bl_lstR, ↓bl_lstL, ↓bl_lstT, ↓bl_int, ↓bl_intB, ↓bl_abs, ↓bl_min2, ↓bl_max2, ↓bl_dict, ↓bl_rng, ↓bl_srt, ↓ln_lst, ↓ln_tup, ↓ln_dct, ↓sq_lst, ↓sq_tup, ↓m_get2, ↓m_get1, ↓m_ix, ↓h_get2, ↓h_get1, ↓h_ix, ↓i_lst, ↓i_tup, ↓i_rng, ↓r_one, ↓r_two, ↓g_nm, ↓g_tp, ↓g_nil, ↓g_cons, ↓gl_nil, ↓gl_cons, ↓ty_non_int, ↓ty_non_bool, ↓ty_non_tuple, ↓ty_non_list, ↓ty_non_str, ↓ty_non_dict, ↓tyd_non, ↓ty_non_own, ↓isn_non, ↓con_non, ↓ty_bl_int, ↓ty_bl_bool, ↓ty_bl_tuple, ↓ty_bl_list, ↓ty_bl_str, ↓ty_bl_dict, ↓tyd_bl, ↓ty_bl_own, ↓isn_bl, ↓con_bl, ↓ty_int_int, ↓ty_int_bool, ↓ty_int_tuple, ↓ty_int_list, ↓ty_int_str, ↓ty_int_dict, ↓tyd_int, ↓ty_int_own, ↓isn_int, ↓con_int, ↓ty_str_int, ↓ty_str_bool, ↓ty_str_tuple, ↓ty_str_list, ↓ty_str_str, ↓ty_str_dict, ↓tyd_str, ↓ty_str_own, ↓isn_str, ↓con_str, ↓ty_tup_int, ↓ty_tup_bool, ↓ty_tup_tuple, ↓ty_tup_list, ↓ty_tup_str, ↓ty_tup_dict, ↓tyd_tup, ↓ty_tup_own, ↓isn_tup, ↓con_tup, ↓ty_lst_int, ↓ty_lst_bool, ↓ty_lst_tuple, ↓ty_lst_list, ↓ty_lst_str, ↓ty_lst_dict, ↓tyd_lst, ↓ty_lst_own, ↓isn_lst, ↓con_lst, ↓ty_dct_int, ↓ty_dct_bool, ↓ty_dct_tuple, ↓ty_dct_list, ↓ty_dct_str, ↓ty_dct_dict, ↓tyd_dct, ↓ty_dct_own, ↓isn_dct, ↓con_dct, ↓ty_ins_int, ↓ty_ins_bool, ↓ty_ins_tuple, ↓ty_ins_list, ↓ty_ins_str, ↓ty_ins_dict, ↓tyd_ins, ↓ty_ins_own, ↓isn_ins, ↓con_ins, ↓hin_lst, ↓hin_dct, ↓fla_non, ↓fla_bl, ↓fla_int, ↓fla_str, ↓key_int, ↓key_str, ↓po_nop, ↓po_var, ↓po_con, ↓po_op, ↓sl_tup, ↓sl_lst, ↓s_nil, ↓s_seq, ↓s_asg, ↓s_par, ↓s_aug, ↓s_exp, ↓s_app, ↓s_ext, ↓s_sti, ↓s_ret, ↓s_retn, ↓s_ifs, ↓s_wh, ↓s_rs, ↓s_pas, ↓s_con, ↓s_brk, ↓s_nev, ↓s_mkh, ↓s_frX, ↓s_frS, ↓s_frR, ↓s_frE, ↓s_frZ, ↓p_nil, ↓p_cons, ↓ps_nil, ↓ps_cons, ↓po_nil, ↓po_cons, ↓pv_nil, ↓pv_cons, ↓ok_t, ↓ok_f, ↓mk_t, ↓mk_f, ↓sef_nil, ↓sef_cons, hard_ints, hard_map, hard_nats, Int.reduceToNat, eqv_lst_nil, shp_lst_nil, x_encP0, x_encP1,  ↓List.forall_mem_map,  List.isEmpty_map, Int.reduceLT, Int.reduceLE, ln_enc, i_enc, sq_enc, enc_hard, tr_enc, ty_enc_tuple, ty_enc_list, ty_enc_int, ty_enc_bool, tyd_enc, isn_enc, b_enc, eqv_int, eqv_bl, eqv_str, eqv_nn, eqv_tn, eqv_nt, eqv_in, eqv_ni, eqv_sn, eqv_ns, x_pair0, x_pair1, shp_int, shp_non, shp_bl, lcF_eq, enc_int, enc_nat, enc_bool, decide_eq_true_eq, Bool.not_eq_true', decide_eq_false_iff_not, Bool.not_not, ite_not, List.length_map, Option.some.injEq, exists_eq_left', exists_eq_left, exists_eq_right, exists_eq_right', and_true, true_and, true_implies, List.length_cons, List.length_nil, if_true, if_false, ite_true, ite_false, Bool.false_eq_true, reduceCtorEq, false_implies, List.cons_append, List.nil_append, vars, gvars, D.hard, hardAll, Bool.and_true, Bool.true_and, Bool.not_true, Bool.not_false, List.any_cons, List.any_nil, List.all_cons, List.all_nil, Bool.or_false, Bool.or_true, Bool.false_or, Bool.true_or, Bool.and_false, Bool.false_and, beq_self_eq_true, itSlot, List.getElem?_cons_succ, List.getElem?_cons_zero, D.bl.injEq, fldAt, exists_const, false_or, or_false, false_and, and_false, exists_false, Int.sub_zero, Int.toNat_natCast, Int.zero_add, zs_tt, zs_ll, zs_ee, st_lst, st_dct, exists_eq', D.lst.injEq, D.int.injEq, Option.isNone_none, Option.isNone_some, List.set_cons_zero, b_snoc, Nat.reduceAdd, Nat.reduceLeDiff, Nat.reduceSub, enQ])
def n__law_is_fitting : List Str := ["rows", "nexts", "j", "behind", "i"]
def p__law_is_fitting : List Str := ["rows"]
def b__law_is_fitting : MS := (.seq (.asg (.nm 1) (.call s__law_nexts (.acons (.var 0) .anil))) (.seq (.fr (.nm 2) (.itR (.acons (.op (.blt .len) (.acons (.var 0) .anil)) .anil)) (.seq (.asg (.nm 3) (.call s__law_all_behind (.acons (.var 1) (.acons (.var 2) .anil)))) (.seq (.ifs (.op (.blt .any) (.acons (.lc [4] (.and (.op (.cmp .In) (.acons (.var 4) (.acons (.var 3) .anil))) (.op .idx (.acons (.call s__law_shows (.acons (.var 0) (.acons (.var 4) (.acons (.var 2) .anil)))) (.acons (.con (.int 1)) .anil)))) (.nm 4) (.itR (.acons (.op (.blt .len) (.acons (.var 0) .anil)) .anil)) (.con (.bl true))) .anil)) (.seq (.ret (.con (.bl false))) .nil) .nil) .nil))) (.seq (.ret (.con (.bl true))) .nil)))
def fitS (l : Bool) (rs : Rows) (x2 x3 : Sl) : List Sl := [.va (rwD l rs), .va (nxD (nbR rs) rs.length), x2, x3, .un]
theorem any_id {α : Type} (f : α → Bool) (xs : List α) : (xs.map f).any id = xs.any f := by
  rw [List.any_map]; rfl
theorem w__law_is_fitting : FW s__law_is_fitting b__law_is_fitting 4 := .of rfl fun _ Q E ⟨l, g, rs, e, h, q⟩ => by
  subst e
  unfold b__law_is_fitting
  simp only [List.map_cons, List.map_nil, List.replicate, List.cons_append, List.nil_append]
  have hl := h.len
  walk_at "wl"
  refine c__law_nexts h ?_
  walk_at "wl"
  have hfr : ∀ x2 x3 x4, frz [0] [Sl.va (rwD l rs), x2, x3, x4, Sl.un] = [Sl.va (rwD l rs), x2, x3, x4, Sl.un] := fun _ _ _ => rfl
  refine ⟨by rw [lim_eq']; omega, rngOk_nat (by omega), ?_⟩
  refine frGo_rng (fun m S => ∃ x2 x3, (∀ j, j < m → ∀ i, i < rs.length → Reach (nbR rs) j i → ¬ cost rs i j < cost rs i i) ∧ S = fitS l rs x2 x3) ⟨_, _, fun j hj => by omega, rfl⟩ ?_ ?_
  · rintro j S N hj ⟨x2, x3, hno, rfl⟩ kN
    unfold fitS
    walk_at "wl"
    refine c__law_all_behind (by omega) hj (nbR_lt rs) fun fd hfd => ?_
    walk_at "wl"
    refine ⟨by rw [lim_eq']; omega, rngOk_nat (by omega), by rw [List.length_range, lim_eq']; omega, ?_⟩
    refine lcGo_map (fun d => .bl (decide (natD d ∈ fd) && decide (cost rs (natD d) j < cost rs (natD d) (natD d)))) (fun d hd K k => ?_) ?_
    · obtain ⟨i, hi, rfl⟩ := List.mem_map.mp hd
      have hi := List.mem_range.mp hi
      have e : natD (.int (i : Int)) = i := by simp [natD]
      rw [e] at k
      walk_at "wl"
      rw [key_isSome]
      by_cases hin : i ∈ fd
      · simp only [hin, decide_true, if_true, Bool.true_and] at k ⊢
        refine c__law_shows h hi hj ?_
        walk_at "wl"
        exact k
      · simp only [hin, decide_false, Bool.false_and, Bool.false_eq_true, if_false] at k ⊢
        exact k
    · rw [List.nil_append, map_natD (fun i => D.bl (decide (i ∈ fd) && decide (cost rs i j < cost rs i i)))]
      refine ⟨_, bools_map (fun i => decide (i ∈ fd) && decide (cost rs i j < cost rs i i)) _, ?_⟩
      rw [any_id]
      cases hb : (List.range rs.length).any fun i => decide (i ∈ fd) && decide (cost rs i j < cost rs i i) with
      | true =>
        rw [if_pos rfl]
        refine q false ⟨fun z => (by cases z), fun z => ?_⟩
        obtain ⟨i, hi, hi2⟩ := List.any_eq_true.mp hb
        have hi := List.mem_range.mp hi
        simp only [Bool.and_eq_true, decide_eq_true_eq] at hi2
        refine absurd ?_ z
        exact ⟨i, j, hi, (rel_nb h hi hj).mpr (by omega), fun e => by rw [e] at hi2; omega, (bt_iff hi hj).mpr hi2.2, (hfd i).mp hi2.1⟩
      | false =>
        rw [if_neg Bool.false_ne_true]
        refine kN _ ⟨_, _, fun j' hj' i hi hr hc => ?_, rfl⟩
        by_cases e : j' = j
        · subst e
          have := List.any_eq_false.mp hb i (List.mem_range.mpr hi)
          simp only [Bool.and_eq_true, decide_eq_true_eq, not_and] at this
          exact this ((hfd i).mpr hr) hc
        · exact hno j' (by omega) i hi hr hc
  · rintro S ⟨x2, x3, hno, rfl⟩
    refine ⟨trivial, q true ⟨fun _ ⟨i, j, h1, h2, h3, h4, h5⟩ => ?_, fun _ => rfl⟩⟩
    have hj := nbR_lt rs _ _ h2
    exact hno j hj i h1 h5 ((bt_iff h1 hj).mp h4)
def spC : List D → DK → XP → Prop := fun ds Q _ => ∃ g m : Int, ds = [.int g, .int m] ∧ (1 ≤ g ∧ g ≤ 6 ∧ 1 ≤ m ∧ m ≤ 1000000) ∧ ∀ r : Row, okD g m r → Q (enc r)
def s__law_choice : FSpec := ⟨"_law_choice", "", 3, 2, true, spC⟩
theorem a__law_choice : s__law_choice.ar = 2 := rfl
theorem c__law_choice (g m : Int) (Q : DK) (E : XP) : s__law_choice.spec [.int g, .int m] Q E = ((1 ≤ g ∧ g ≤ 6 ∧ 1 ≤ m ∧ m ≤ 1000000) ∧ ∀ r : Row, okD g m r → Q (enc r)) := by
  refine propext ⟨?_, fun h => ⟨g, m, rfl, h⟩⟩
  rintro ⟨g', m', e, h⟩
  cases e
  exact h
local macro_rules | `(tactic| walk_at "wl") => `(tactic| simp only [a__law_draw, c__law_draw, a__law_any, c__law_any, c__law_anyE, a__law_choice, c__law_choice, ↓gS_va, ↓gS_ow, ↓gS_lk, ↓gS_s, ↓gO_ow, ↓gO_s, ↓f1_va, ↓f1_ow, ↓f1_lk, ↓f1_hn, ↓f1_sc, ↓f1_un, ↓f1_s, ↓f1_nil, ↓frz_nil, ↓frz_cons, ↓wip_nil, ↓wip_cons, ↓thaw_t, ↓thaw_f, ↓set_z, ↓set_s, ↓lock_n, ↓zs_tt, ↓zs_ll, ↓st_lst, ↓st_dct, ↓noHn_nil, ↓noHn_cons, ↓nhn_va, ↓nhn_ow, ↓nhn_lk, ↓nhn_un, ↓nhn_sc, ↓w_var, ↓w_con, ↓w_glo, ↓w_op, ↓w_bm, ↓w_chn, ↓w_and, ↓w_or, ↓w_not, ↓w_ife, ↓w_isi, ↓w_call, ↓w_callh, ↓w_meth, ↓w_eqo, ↓w_lz, ↓w_ds1, ↓w_ss, ↓w_make, ↓w_slc, ↓w_nop, ↓w_lc, ↓w_dsp, ↓w_pop, ↓w_popAt, ↓w_anil, ↓w_acons, ↓w_itS, ↓w_itX, ↓w_itR, ↓w_itE, ↓w_itZ, ↓t_and, ↓t_or, ↓t_not, ↓t_var, ↓t_con, ↓t_op, ↓t_chn, ↓t_isi, ↓t_call, ↓t_callh, ↓t_meth, ↓t_eqo, ↓hn_ex, ↓tr_bl, ↓tr_int, ↓tr_non, ↓tr_tup, ↓tr_lst, ↓o_bin, ↓o_cmp, ↓o_neg, ↓o_tup, ↓o_lst, ↓o_idx, ↓o_fld, ↓o_blt, ↓b_add, ↓b_addT, ↓b_addL, ↓b_addS, ↓b_sub, ↓b_mul, ↓b_mulT, ↓b_mulL, ↓b_div, ↓b_mod, ↓b_pow, ↓c_eq, ↓c_ne, ↓c_lt, ↓c_le, ↓c_gt, ↓c_ge, ↓c_is, ↓c_isn, ↓c_isB, ↓c_isnB, ↓isBl_t, ↓isBl_f, ↓c_inL, ↓c_inT, ↓c_inD, ↓c_niL, ↓c_niT, ↓c_niD, ↓x_dct, ↓fl_ins, ↓bl_len, ↓bl_all, ↓bl_any, ↓bl_sum, ↓bl_tupL, ↓bl_tupT, ↓bl_lstR, ↓bl_lstL, ↓bl_lstT, ↓bl_int, ↓bl_intB, ↓bl_abs, ↓bl_min2, ↓bl_max2, ↓bl_dict, ↓bl_rng, ↓bl_srt, ↓ln_lst, ↓ln_tup, ↓ln_dct, ↓sq_lst, ↓sq_tup, ↓m_get2, ↓m_get1, ↓m_ix, ↓h_get2, ↓h_get1, ↓h_ix, ↓i_lst, ↓i_tup, ↓i_rng, ↓r_one, ↓r_two, ↓g_nm, ↓g_tp, ↓g_nil, ↓g_cons, ↓gl_nil, ↓gl_cons, ↓ty_non_int, ↓ty_non_bool, ↓ty_non_tuple, ↓ty_non_list, ↓ty_non_str, ↓ty_non_dict, ↓tyd_non, ↓ty_non_own, ↓isn_non, ↓con_non, ↓ty_bl_int, ↓ty_bl_bool, ↓ty_bl_tuple, ↓ty_bl_list, ↓ty_bl_str, ↓ty_bl_dict, ↓tyd_bl, ↓ty_bl_own, ↓isn_bl, ↓con_bl, ↓ty_int_int, ↓ty_int_bool, ↓ty_int_tuple, ↓ty_int_list, ↓ty_int_str, ↓ty_int_dict, ↓tyd_int, ↓ty_int_own, ↓isn_int, ↓con_int, ↓ty_str_int, ↓ty_str_bool, ↓ty_str_tuple, ↓ty_str_list, ↓ty_str_str, ↓ty_str_dict, ↓tyd_str, ↓ty_str_own, ↓isn_str, ↓con_str, ↓ty_tup_int, ↓ty_tup_bool, ↓ty_tup_tuple, ↓ty_tup_list, ↓ty_tup_str, ↓ty_tup_dict, ↓tyd_tup, ↓ty_tup_own, ↓isn_tup, ↓con_tup, ↓ty_lst_int, ↓ty_lst_bool, ↓ty_lst_tuple, ↓ty_lst_list, ↓ty_lst_str, ↓ty_lst_dict, ↓tyd_lst, ↓ty_lst_own, ↓isn_lst, ↓con_lst, ↓ty_dct_int, ↓ty_dct_bool, ↓ty_dct_tuple, ↓ty_dct_list, ↓ty_dct_str, ↓ty_dct_dict, ↓tyd_dct, ↓ty_dct_own, ↓isn_dct, ↓con_dct, ↓ty_ins_int, ↓ty_ins_bool, ↓ty_ins_tuple, ↓ty_ins_list, ↓ty_ins_str, ↓ty_ins_dict, ↓tyd_ins, ↓ty_ins_own, ↓isn_ins, ↓con_ins, ↓hin_lst, ↓hin_dct, ↓fla_non, ↓fla_bl, ↓fla_int, ↓fla_str, ↓key_int, ↓key_str, ↓po_nop, ↓po_var, ↓po_con, ↓po_op, ↓sl_tup, ↓sl_lst, ↓s_nil, ↓s_seq, ↓s_asg, ↓s_par, ↓s_aug, ↓s_exp, ↓s_app, ↓s_ext, ↓s_sti, ↓s_ret, ↓s_retn, ↓s_ifs, ↓s_wh, ↓s_rs, ↓s_pas, ↓s_con, ↓s_brk, ↓s_nev, ↓s_mkh, ↓s_frX, ↓s_frS, ↓s_frR, ↓s_frE, ↓s_frZ, ↓p_nil, ↓p_cons, ↓ps_nil, ↓ps_cons, ↓po_nil, ↓po_cons, ↓pv_nil, ↓pv_cons, ↓ok_t, ↓ok_f, ↓mk_t, ↓mk_f, ↓sef_nil, ↓sef_cons, hard_ints, hard_map, hard_nats, Int.reduceToNat, eqv_lst_nil, shp_lst_nil, x_encP0, x_encP1,  ↓List.forall_mem_map,  List.isEmpty_map, Int.reduceLT, Int.reduceLE, ln_enc, i_enc, sq_enc, enc_hard, tr_enc, ty_enc_tuple, ty_enc_list, ty_enc_int, ty_enc_bool, tyd_enc, isn_enc, b_enc, eqv_int, eqv_bl, eqv_str, eqv_nn, eqv_tn, eqv_nt, eqv_in, eqv_ni, eqv_sn, eqv_ns, x_pair0, x_pair1, shp_int, shp_non, shp_bl, lcF_eq, enc_int, enc_nat, enc_bool, decide_eq_true_eq, Bool.not_eq_true', decide_eq_false_iff_not, Bool.not_not, ite_not, List.length_map, Option.some.injEq, exists_eq_left', exists_eq_left, exists_eq_right, exists_eq_right', and_true, true_and, true_implies, List.length_cons, List.length_nil, if_true, if_false, ite_true, ite_false, Bool.false_eq_true, reduceCtorEq, false_implies, List.cons_append, List.nil_append, vars, gvars, D.hard, hardAll, Bool.and_true, Bool.true_and, Bool.not_true, Bool.not_false, List.any_cons, List.any_nil, List.all_cons, List.all_nil, Bool.or_false, Bool.or_true, Bool.false_or, Bool.true_or, Bool.and_false, Bool.false_and, beq_self_eq_true, itSlot, List.getElem?_cons_succ, List.getElem?_cons_zero, D.bl.injEq, fldAt, exists_const, false_or, or_false, false_and, and_false, exists_false, Int.sub_zero, Int.toNat_natCast, Int.zero_add, zs_tt, zs_ll, zs_ee, st_lst, st_dct, exists_eq', D.lst.injEq, D.int.injEq, Option.isNone_none, Option.isNone_some, List.set_cons_zero, b_snoc, Nat.reduceAdd, Nat.reduceLeDiff, Nat.reduceSub, enQ])
def n__law_choice : List Str := ["hand", "goods", "great", "prices", "good"]
def p__law_choice : List Str := ["hand", "goods", "great"]
def b__law_choice : MS := (.seq (.asg (.nm 3) (.op (.blt .tuple) (.acons (.lc [4] (.op (.bin .Add) (.acons (.con (.int 1)) (.acons (.callh s__law_draw 0 (.acons (.var 2) .anil)) .anil))) (.nm 4) (.itR (.acons (.var 1) .anil)) (.con (.bl true))) .anil))) (.seq (.ret (.op .tup (.acons (.var 3) (.acons (.op (.blt .tuple) (.acons (.lc [4] (.callh s__law_any 0 (.acons (.op .lst (.acons (.con (.int 0)) (.acons (.callh s__law_draw 0 (.acons (.op (.bin .Add) (.acons (.var 2) (.acons (.con (.int 1)) .anil))) .anil)) .anil))) .anil)) (.nm 4) (.itR (.acons (.var 1) .anil)) (.con (.bl true))) .anil)) .anil)))) .nil))
theorem w__law_choice : FW s__law_choice b__law_choice 2 := .hd rfl fun a c _ Q E ⟨g, m, e, ⟨g0, g1, m0, m1⟩, q⟩ => by
  subst e
  obtain ⟨n, rfl⟩ := Int.eq_ofNat_of_zero_le (show 0 ≤ g by omega)
  unfold b__law_choice
  simp only [List.map_cons, List.map_nil, List.replicate, List.cons_append, List.nil_append]
  walk_at "wl"
  refine ⟨rngOk_nat (by omega), by rw [List.length_range, lim_eq']; omega, ?_⟩
  refine lcGo_ex (fun _ y => ∃ k : Int, y = .int k ∧ 1 ≤ k ∧ k ≤ m) (fun d hd K k => ?_) fun ys hl hr => ?_
  · walk_at "wl"
    exact ⟨by omega, by omega, fun j j0 j1 => k _ ⟨_, rfl, by omega, by omega⟩⟩
  · obtain ⟨ns, e, hl2, h2⟩ := ints_ex hl hr
    subst e
    have e1 : D.tup (ns.map D.int) = enc ns := rfl
    rw [List.nil_append, e1]
    walk_at "wl"
    refine ⟨rngOk_nat (by omega), by rw [List.length_range, lim_eq']; omega, ?_⟩
    refine lcGo_ex (fun _ y => ∃ k : Int, y = .int k ∧ 0 ≤ k ∧ k ≤ m) (fun d hd K k => ?_) fun ys hl3 hr3 => ?_
    · walk_at "wl"
      refine ⟨by omega, by omega, fun j j0 j1 => ⟨by decide, fun e he => ?_⟩⟩
      simp only [List.mem_cons, List.not_mem_nil, or_false] at he
      rcases he with rfl | rfl
      · exact k _ ⟨_, rfl, by omega, by omega⟩
      · exact k _ ⟨_, rfl, by omega, by omega⟩
    · obtain ⟨us, e, hl4, h4⟩ := ints_ex hl3 hr3
      subst e
      have := q (ns, us) ⟨⟨by rw [hl2]; simp, h2⟩, by rw [hl4]; simp, h4⟩
      exact this
def spF : List D → DK → XP → Prop := fun ds Q _ => ∃ (g : Int) (n : Nat) (m : Int), ds = [.int g, .int n, .int m] ∧ (1 ≤ g ∧ g ≤ 6 ∧ n ≤ 19 ∧ 1 ≤ m ∧ m ≤ 1000000) ∧ ∀ rs : Rows, (rs.length ≤ n ∧ (∀ r ∈ rs, okD g m r) ∧ ¬ HasR rs) → Q (enc rs)
def s__law_rows : FSpec := ⟨"_law_rows", "", 5, 3, true, spF⟩
theorem a__law_rows : s__law_rows.ar = 3 := rfl
theorem c__law_rows (g : Int) (n : Nat) (m : Int) (Q : DK) (E : XP) : s__law_rows.spec [.int g, .int n, .int m] Q E = ((1 ≤ g ∧ g ≤ 6 ∧ n ≤ 19 ∧ 1 ≤ m ∧ m ≤ 1000000) ∧ ∀ rs : Rows, (rs.length ≤ n ∧ (∀ r ∈ rs, okD g m r) ∧ ¬ HasR rs) → Q (enc rs)) := by
  refine propext ⟨?_, fun h => ⟨g, n, m, rfl, h⟩⟩
  rintro ⟨g', n', m', e, h⟩
  simp only [List.cons.injEq, D.int.injEq, Int.natCast_inj, and_true] at e
  obtain ⟨rfl, rfl, rfl⟩ := e
  exact h
theorem noRing_nil : ¬ HasR [] := fun ⟨i, _, h, _⟩ => Nat.not_lt_zero i h
local macro_rules | `(tactic| walk_at "wl") => `(tactic| simp only [a__law_draw, c__law_draw, a__law_any, c__law_any, c__law_anyE, a__law_choice, c__law_choice, a__law_is_fitting, ↓gS_va, ↓gS_ow, ↓gS_lk, ↓gS_s, ↓gO_ow, ↓gO_s, ↓f1_va, ↓f1_ow, ↓f1_lk, ↓f1_hn, ↓f1_sc, ↓f1_un, ↓f1_s, ↓f1_nil, ↓frz_nil, ↓frz_cons, ↓wip_nil, ↓wip_cons, ↓thaw_t, ↓thaw_f, ↓set_z, ↓set_s, ↓lock_n, ↓zs_tt, ↓zs_ll, ↓st_lst, ↓st_dct, ↓noHn_nil, ↓noHn_cons, ↓nhn_va, ↓nhn_ow, ↓nhn_lk, ↓nhn_un, ↓nhn_sc, ↓w_var, ↓w_con, ↓w_glo, ↓w_op, ↓w_bm, ↓w_chn, ↓w_and, ↓w_or, ↓w_not, ↓w_ife, ↓w_isi, ↓w_call, ↓w_callh, ↓w_meth, ↓w_eqo, ↓w_lz, ↓w_ds1, ↓w_ss, ↓w_make, ↓w_slc, ↓w_nop, ↓w_lc, ↓w_dsp, ↓w_pop, ↓w_popAt, ↓w_anil, ↓w_acons, ↓w_itS, ↓w_itX, ↓w_itR, ↓w_itE, ↓w_itZ, ↓t_and, ↓t_or, ↓t_not, ↓t_var, ↓t_con, ↓t_op, ↓t_chn, ↓t_isi, ↓t_call, ↓t_callh, ↓t_meth, ↓t_eqo, ↓hn_ex, ↓tr_bl, ↓tr_int, ↓tr_non, ↓tr_tup, ↓tr_lst, ↓o_bin, ↓o_cmp, ↓o_neg, ↓o_tup, ↓o_lst, ↓o_idx, ↓o_fld, ↓o_blt, ↓b_add, ↓b_addT, ↓b_addL, ↓b_addS, ↓b_sub, ↓b_mul, ↓b_mulT, ↓b_mulL, ↓b_div, ↓b_mod, ↓b_pow, ↓c_eq, ↓c_ne, ↓c_lt, ↓c_le, ↓c_gt, ↓c_ge, ↓c_is, ↓c_isn, ↓c_isB, ↓c_isnB, ↓isBl_t, ↓isBl_f, ↓c_inL, ↓c_inT, ↓c_inD, ↓c_niL, ↓c_niT, ↓c_niD, ↓x_dct, ↓fl_ins, ↓bl_len, ↓bl_all, ↓bl_any, ↓bl_sum, ↓bl_tupL, ↓bl_tupT, ↓bl_lstR, ↓bl_lstL, ↓bl_lstT, ↓bl_int, ↓bl_intB, ↓bl_abs, ↓bl_min2, ↓bl_max2, ↓bl_dict, ↓bl_rng, ↓bl_srt, ↓ln_lst, ↓ln_tup, ↓ln_dct, ↓sq_lst, ↓sq_tup, ↓m_get2, ↓m_get1, ↓m_ix, ↓h_get2, ↓h_get1, ↓h_ix, ↓i_lst, ↓i_tup, ↓i_rng, ↓r_one, ↓r_two, ↓g_nm, ↓g_tp, ↓g_nil, ↓g_cons, ↓gl_nil, ↓gl_cons, ↓ty_non_int, ↓ty_non_bool, ↓ty_non_tuple, ↓ty_non_list, ↓ty_non_str, ↓ty_non_dict, ↓tyd_non, ↓ty_non_own, ↓isn_non, ↓con_non, ↓ty_bl_int, ↓ty_bl_bool, ↓ty_bl_tuple, ↓ty_bl_list, ↓ty_bl_str, ↓ty_bl_dict, ↓tyd_bl, ↓ty_bl_own, ↓isn_bl, ↓con_bl, ↓ty_int_int, ↓ty_int_bool, ↓ty_int_tuple, ↓ty_int_list, ↓ty_int_str, ↓ty_int_dict, ↓tyd_int, ↓ty_int_own, ↓isn_int, ↓con_int, ↓ty_str_int, ↓ty_str_bool, ↓ty_str_tuple, ↓ty_str_list, ↓ty_str_str, ↓ty_str_dict, ↓tyd_str, ↓ty_str_own, ↓isn_str, ↓con_str, ↓ty_tup_int, ↓ty_tup_bool, ↓ty_tup_tuple, ↓ty_tup_list, ↓ty_tup_str, ↓ty_tup_dict, ↓tyd_tup, ↓ty_tup_own, ↓isn_tup, ↓con_tup, ↓ty_lst_int, ↓ty_lst_bool, ↓ty_lst_tuple, ↓ty_lst_list, ↓ty_lst_str, ↓ty_lst_dict, ↓tyd_lst, ↓ty_lst_own, ↓isn_lst, ↓con_lst, ↓ty_dct_int, ↓ty_dct_bool, ↓ty_dct_tuple, ↓ty_dct_list, ↓ty_dct_str, ↓ty_dct_dict, ↓tyd_dct, ↓ty_dct_own, ↓isn_dct, ↓con_dct, ↓ty_ins_int, ↓ty_ins_bool, ↓ty_ins_tuple, ↓ty_ins_list, ↓ty_ins_str, ↓ty_ins_dict, ↓tyd_ins, ↓ty_ins_own, ↓isn_ins, ↓con_ins, ↓hin_lst, ↓hin_dct, ↓fla_non, ↓fla_bl, ↓fla_int, ↓fla_str, ↓key_int, ↓key_str, ↓po_nop, ↓po_var, ↓po_con, ↓po_op, ↓sl_tup, ↓sl_lst, ↓s_nil, ↓s_seq, ↓s_asg, ↓s_par, ↓s_aug, ↓s_exp, ↓s_app, ↓s_ext, ↓s_sti, ↓s_ret, ↓s_retn, ↓s_ifs, ↓s_wh, ↓s_rs, ↓s_pas, ↓s_con, ↓s_brk, ↓s_nev, ↓s_mkh, ↓s_frX, ↓s_frS, ↓s_frR, ↓s_frE, ↓s_frZ, ↓p_nil, ↓p_cons, ↓ps_nil, ↓ps_cons, ↓po_nil, ↓po_cons, ↓pv_nil, ↓pv_cons, ↓ok_t, ↓ok_f, ↓mk_t, ↓mk_f, ↓sef_nil, ↓sef_cons, hard_ints, hard_map, hard_nats, Int.reduceToNat, eqv_lst_nil, shp_lst_nil, x_encP0, x_encP1,  ↓List.forall_mem_map,  List.isEmpty_map, Int.reduceLT, Int.reduceLE, ln_enc, i_enc, sq_enc, enc_hard, tr_enc, ty_enc_tuple, ty_enc_list, ty_enc_int, ty_enc_bool, tyd_enc, isn_enc, b_enc, eqv_int, eqv_bl, eqv_str, eqv_nn, eqv_tn, eqv_nt, eqv_in, eqv_ni, eqv_sn, eqv_ns, x_pair0, x_pair1, shp_int, shp_non, shp_bl, lcF_eq, enc_int, enc_nat, enc_bool, decide_eq_true_eq, Bool.not_eq_true', decide_eq_false_iff_not, Bool.not_not, ite_not, List.length_map, Option.some.injEq, exists_eq_left', exists_eq_left, exists_eq_right, exists_eq_right', and_true, true_and, true_implies, List.length_cons, List.length_nil, if_true, if_false, ite_true, ite_false, Bool.false_eq_true, reduceCtorEq, false_implies, List.cons_append, List.nil_append, vars, gvars, D.hard, hardAll, Bool.and_true, Bool.true_and, Bool.not_true, Bool.not_false, List.any_cons, List.any_nil, List.all_cons, List.all_nil, Bool.or_false, Bool.or_true, Bool.false_or, Bool.true_or, Bool.and_false, Bool.false_and, beq_self_eq_true, itSlot, List.getElem?_cons_succ, List.getElem?_cons_zero, D.bl.injEq, fldAt, exists_const, false_or, or_false, false_and, and_false, exists_false, Int.sub_zero, Int.toNat_natCast, Int.zero_add, zs_tt, zs_ll, zs_ee, st_lst, st_dct, exists_eq', D.lst.injEq, D.int.injEq, Option.isNone_none, Option.isNone_some, List.set_cons_zero, b_snoc, Nat.reduceAdd, Nat.reduceLeDiff, Nat.reduceSub, enQ])
def n__law_rows : List Str := ["hand", "goods", "most", "great", "found", "turn", "one"]
def p__law_rows : List Str := ["hand", "goods", "most", "great"]
def b__law_rows : MS := (.seq (.par [(4, true, (.op .lst .anil))]) (.seq (.fr (.nm 5) (.itR (.acons (.callh s__law_draw 0 (.acons (.op (.bin .Add) (.acons (.var 2) (.acons (.con (.int 1)) .anil))) .anil)) .anil)) (.seq (.asg (.nm 6) (.callh s__law_choice 0 (.acons (.var 1) (.acons (.var 3) .anil)))) (.seq (.ifs (.call s__law_is_fitting (.acons (.op (.bin .Add) (.acons (.var 4) (.acons (.op .lst (.acons (.var 6) .anil)) .anil))) .anil)) (.seq (.app 4 (.var 6)) .nil) .nil) .nil))) (.seq (.ret (.op (.blt .tuple) (.acons (.var 4) .anil))) .nil)))
theorem w__law_rows : FW s__law_rows b__law_rows 3 := .hd rfl fun a c _ Q E ⟨g, n, m, e, ⟨g0, g1, hn, m0, m1⟩, q⟩ => by
  subst e
  unfold b__law_rows
  simp only [List.map_cons, List.map_nil, List.replicate, List.cons_append, List.nil_append]
  walk_at "wl"
  refine ⟨by omega, by omega, fun k k0 k1 => ?_⟩
  obtain ⟨t, rfl⟩ := Int.eq_ofNat_of_zero_le k0
  refine ⟨rngOk_nat (by omega), ?_⟩
  refine frGo_rng (fun i S => ∃ (rs : Rows) (x5 x6 : Sl), (rs.length ≤ i ∧ (∀ r ∈ rs, okD g m r) ∧ ¬ HasR rs) ∧ S = [.hn a c, .va (.int g), .va (.int n), .va (.int m), .ow (.lst (rs.map enc)), x5, x6]) ⟨[], _, _, ⟨Nat.le_refl _, fun r hr => by (cases hr), noRing_nil⟩, rfl⟩ ?_ ?_
  · rintro i S N hi ⟨rs, x5, x6, ⟨hl, hr, hf⟩, rfl⟩ kN
    walk_at "wl"
    refine ⟨by omega, fun r hrr => ?_⟩
    have hr2 : ∀ r' ∈ rs ++ [r], okD g m r' := fun r' hr' => by
      rcases List.mem_append.mp hr' with z | z
      · exact hr r' z
      · rw [List.mem_singleton.mp z]; exact hrr
    have ok2 : OkR g (rs ++ [r]) := okR_of g0 g1 (by simp only [List.length_append, List.length_cons, List.length_nil]; omega) m1 hr2
    refine ⟨by rw [lim_eq']; omega, ?_⟩
    have e1 : D.lst (rs.map enc ++ [enc r]) = rwD true (rs ++ [r]) := by
      rw [← rwD_t, List.map_append]; rfl
    rw [e1]
    refine c__law_is_fitting ok2 fun b hb => ?_
    walk_at "wl"
    cases b with
    | true =>
      rw [if_pos rfl]
      refine ⟨by rw [lim_eq']; omega, kN _ ⟨rs ++ [r], .va (.int i), .va (enc r), ⟨by simp only [List.length_append, List.length_cons, List.length_nil]; omega, hr2, hb.mp rfl⟩, by rw [rwD_t]⟩⟩
    | false =>
      rw [if_neg Bool.false_ne_true]
      exact kN _ ⟨rs, _, _, ⟨by omega, hr, hf⟩, rfl⟩
  · rintro S ⟨rs, x5, x6, ⟨hl, hr, hf⟩, rfl⟩
    walk_at "wl"
    exact q rs ⟨by omega, hr, hf⟩
def s__law_sameN (n : Nat) : FSpec := ⟨"_law_same", "", 1 + n, 2, false, fun ds Q _ => ∃ a : D, ds = [a, a] ∧ pl n a = true ∧ Q (.bl true)⟩
theorem a__law_sameN (n : Nat) : (s__law_sameN n).ar = 2 := rfl
theorem c__law_sameN {n : Nat} {a b : D} {Q : DK} {E : XP} (h : a = b) (hp : pl n a = true) (q : Q (.bl true)) : (s__law_sameN n).spec [a, b] Q E := ⟨a, by rw [h], hp, q⟩
def n__law_same : List Str := ["one", "due", "two", "other"]
def p__law_same : List Str := ["one", "due"]
def b__law_same (s__law_same : FSpec) : MS := (.seq (.ifs (.isi [.bt "tuple", .bt "list"] (.var 1)) (.seq (.ifs (.or (.op (.cmp .NotEq) (.acons (.isi [.bt "tuple"] (.var 0)) (.acons (.isi [.bt "tuple"] (.var 1)) .anil))) (.not (.isi [.bt "tuple", .bt "list"] (.var 0)))) (.seq (.ret (.con (.bl false))) .nil) .nil) (.seq (.ret (.and (.op (.cmp .Eq) (.acons (.op (.blt .len) (.acons (.var 0) .anil)) (.acons (.op (.blt .len) (.acons (.var 1) .anil)) .anil))) (.op (.blt .all) (.acons (.lc [2, 3] (.call s__law_same (.acons (.var 2) (.acons (.var 3) .anil))) (.tp (.gcons (.nm 2) (.gcons (.nm 3) .gnil))) (.itZ (.var 0) (.var 1)) (.con (.bl true))) .anil)))) .nil)) .nil) (.seq (.ifs (.or (.isi [.bt "bool"] (.var 1)) (.or (.isi [.bt "bool"] (.var 0)) (.or (.op (.cmp .Is) (.acons (.var 1) (.acons (.con .non) .anil))) (.op (.cmp .Is) (.acons (.var 0) (.acons (.con .non) .anil)))))) (.seq (.ret (.and (.op (.cmp .Eq) (.acons (.isi [.bt "bool"] (.var 0)) (.acons (.isi [.bt "bool"] (.var 1)) .anil))) (.and (.op (.cmp .Eq) (.acons (.op (.cmp .Is) (.acons (.var 0) (.acons (.con .non) .anil))) (.acons (.op (.cmp .Is) (.acons (.var 1) (.acons (.con .non) .anil))) .anil))) (.op (.cmp .Eq) (.acons (.var 0) (.acons (.var 1) .anil)))))) .nil) .nil) (.seq (.ret (.and (.op (.cmp .Eq) (.acons (.isi [.bt "str"] (.var 0)) (.acons (.isi [.bt "str"] (.var 1)) .anil))) (.and (.isi [.bt "int", .bt "str"] (.var 0)) (.op (.cmp .Eq) (.acons (.var 0) (.acons (.var 1) .anil)))))) .nil)))
def b__law_same0 : MS := (.seq (.ifs (.isi [.bt "tuple", .bt "list"] (.var 1)) (.seq .nev (.seq .nev .nil)) .nil) (.seq (.ifs (.or (.isi [.bt "bool"] (.var 1)) (.or (.isi [.bt "bool"] (.var 0)) (.or (.op (.cmp .Is) (.acons (.var 1) (.acons (.con .non) .anil))) (.op (.cmp .Is) (.acons (.var 0) (.acons (.con .non) .anil)))))) (.seq (.ret (.and (.op (.cmp .Eq) (.acons (.isi [.bt "bool"] (.var 0)) (.acons (.isi [.bt "bool"] (.var 1)) .anil))) (.and (.op (.cmp .Eq) (.acons (.op (.cmp .Is) (.acons (.var 0) (.acons (.con .non) .anil))) (.acons (.op (.cmp .Is) (.acons (.var 1) (.acons (.con .non) .anil))) .anil))) (.op (.cmp .Eq) (.acons (.var 0) (.acons (.var 1) .anil)))))) .nil) .nil) (.seq (.ret (.and (.op (.cmp .Eq) (.acons (.isi [.bt "str"] (.var 0)) (.acons (.isi [.bt "str"] (.var 1)) .anil))) (.and (.isi [.bt "int", .bt "str"] (.var 0)) (.op (.cmp .Eq) (.acons (.var 0) (.acons (.var 1) .anil)))))) .nil)))
local macro_rules | `(tactic| walk_at "wl") => `(tactic| simp only [decide_true, isn_non, isn_bl, isn_int, isn_str, isn_tup, isn_lst, ↓gS_va, ↓gS_ow, ↓gS_lk, ↓gS_s, ↓gO_ow, ↓gO_s, ↓f1_va, ↓f1_ow, ↓f1_lk, ↓f1_hn, ↓f1_sc, ↓f1_un, ↓f1_s, ↓f1_nil, ↓frz_nil, ↓frz_cons, ↓wip_nil, ↓wip_cons, ↓thaw_t, ↓thaw_f, ↓set_z, ↓set_s, ↓lock_n, ↓zs_tt, ↓zs_ll, ↓st_lst, ↓st_dct, ↓noHn_nil, ↓noHn_cons, ↓nhn_va, ↓nhn_ow, ↓nhn_lk, ↓nhn_un, ↓nhn_sc, ↓w_var, ↓w_con, ↓w_glo, ↓w_op, ↓w_bm, ↓w_chn, ↓w_and, ↓w_or, ↓w_not, ↓w_ife, ↓w_isi, ↓w_call, ↓w_callh, ↓w_meth, ↓w_eqo, ↓w_lz, ↓w_ds1, ↓w_ss, ↓w_make, ↓w_slc, ↓w_nop, ↓w_lc, ↓w_dsp, ↓w_pop, ↓w_popAt, ↓w_anil, ↓w_acons, ↓w_itS, ↓w_itX, ↓w_itR, ↓w_itE, ↓w_itZ, ↓t_and, ↓t_or, ↓t_not, ↓t_var, ↓t_con, ↓t_op, ↓t_chn, ↓t_isi, ↓t_call, ↓t_callh, ↓t_meth, ↓t_eqo, ↓hn_ex, ↓tr_bl, ↓tr_int, ↓tr_non, ↓tr_tup, ↓tr_lst, ↓o_bin, ↓o_cmp, ↓o_neg, ↓o_tup, ↓o_lst, ↓o_idx, ↓o_fld, ↓o_blt, ↓b_add, ↓b_addT, ↓b_addL, ↓b_addS, ↓b_sub, ↓b_mul, ↓b_mulT, ↓b_mulL, ↓b_div, ↓b_mod, ↓b_pow, ↓c_eq, ↓c_ne, ↓c_lt, ↓c_le, ↓c_gt, ↓c_ge, ↓c_is, ↓c_isn, ↓c_isB, ↓c_isnB, ↓isBl_t, ↓isBl_f, ↓c_inL, ↓c_inT, ↓c_inD, ↓c_niL, ↓c_niT, ↓c_niD, ↓x_dct, ↓fl_ins, ↓bl_len, ↓bl_all, ↓bl_any, ↓bl_sum, ↓bl_tupL, ↓bl_tupT, ↓bl_lstR, ↓bl_lstL, ↓bl_lstT, ↓bl_int, ↓bl_intB, ↓bl_abs, ↓bl_min2, ↓bl_max2, ↓bl_dict, ↓bl_rng, ↓bl_srt, ↓ln_lst, ↓ln_tup, ↓ln_dct, ↓sq_lst, ↓sq_tup, ↓m_get2, ↓m_get1, ↓m_ix, ↓h_get2, ↓h_get1, ↓h_ix, ↓i_lst, ↓i_tup, ↓i_rng, ↓r_one, ↓r_two, ↓g_nm, ↓g_tp, ↓g_nil, ↓g_cons, ↓gl_nil, ↓gl_cons, ↓ty_non_int, ↓ty_non_bool, ↓ty_non_tuple, ↓ty_non_list, ↓ty_non_str, ↓ty_non_dict, ↓tyd_non, ↓ty_non_own, ↓isn_non, ↓con_non, ↓ty_bl_int, ↓ty_bl_bool, ↓ty_bl_tuple, ↓ty_bl_list, ↓ty_bl_str, ↓ty_bl_dict, ↓tyd_bl, ↓ty_bl_own, ↓isn_bl, ↓con_bl, ↓ty_int_int, ↓ty_int_bool, ↓ty_int_tuple, ↓ty_int_list, ↓ty_int_str, ↓ty_int_dict, ↓tyd_int, ↓ty_int_own, ↓isn_int, ↓con_int, ↓ty_str_int, ↓ty_str_bool, ↓ty_str_tuple, ↓ty_str_list, ↓ty_str_str, ↓ty_str_dict, ↓tyd_str, ↓ty_str_own, ↓isn_str, ↓con_str, ↓ty_tup_int, ↓ty_tup_bool, ↓ty_tup_tuple, ↓ty_tup_list, ↓ty_tup_str, ↓ty_tup_dict, ↓tyd_tup, ↓ty_tup_own, ↓isn_tup, ↓con_tup, ↓ty_lst_int, ↓ty_lst_bool, ↓ty_lst_tuple, ↓ty_lst_list, ↓ty_lst_str, ↓ty_lst_dict, ↓tyd_lst, ↓ty_lst_own, ↓isn_lst, ↓con_lst, ↓ty_dct_int, ↓ty_dct_bool, ↓ty_dct_tuple, ↓ty_dct_list, ↓ty_dct_str, ↓ty_dct_dict, ↓tyd_dct, ↓ty_dct_own, ↓isn_dct, ↓con_dct, ↓ty_ins_int, ↓ty_ins_bool, ↓ty_ins_tuple, ↓ty_ins_list, ↓ty_ins_str, ↓ty_ins_dict, ↓tyd_ins, ↓ty_ins_own, ↓isn_ins, ↓con_ins, ↓hin_lst, ↓hin_dct, ↓fla_non, ↓fla_bl, ↓fla_int, ↓fla_str, ↓key_int, ↓key_str, ↓po_nop, ↓po_var, ↓po_con, ↓po_op, ↓sl_tup, ↓sl_lst, ↓s_nil, ↓s_seq, ↓s_asg, ↓s_par, ↓s_aug, ↓s_exp, ↓s_app, ↓s_ext, ↓s_sti, ↓s_ret, ↓s_retn, ↓s_ifs, ↓s_wh, ↓s_rs, ↓s_pas, ↓s_con, ↓s_brk, ↓s_nev, ↓s_mkh, ↓s_frX, ↓s_frS, ↓s_frR, ↓s_frE, ↓s_frZ, ↓p_nil, ↓p_cons, ↓ps_nil, ↓ps_cons, ↓po_nil, ↓po_cons, ↓pv_nil, ↓pv_cons, ↓ok_t, ↓ok_f, ↓mk_t, ↓mk_f, ↓sef_nil, ↓sef_cons, hard_ints, hard_map, hard_nats, Int.reduceToNat, eqv_lst_nil, shp_lst_nil, x_encP0, x_encP1,  ↓List.forall_mem_map,  List.isEmpty_map, Int.reduceLT, Int.reduceLE, ln_enc, i_enc, sq_enc, enc_hard, tr_enc, ty_enc_tuple, ty_enc_list, ty_enc_int, ty_enc_bool, tyd_enc, isn_enc, b_enc, eqv_int, eqv_bl, eqv_str, eqv_nn, eqv_tn, eqv_nt, eqv_in, eqv_ni, eqv_sn, eqv_ns, x_pair0, x_pair1, shp_int, shp_non, shp_bl, lcF_eq, enc_int, enc_nat, enc_bool, decide_eq_true_eq, Bool.not_eq_true', decide_eq_false_iff_not, Bool.not_not, ite_not, List.length_map, Option.some.injEq, exists_eq_left', exists_eq_left, exists_eq_right, exists_eq_right', and_true, true_and, true_implies, List.length_cons, List.length_nil, if_true, if_false, ite_true, ite_false, Bool.false_eq_true, reduceCtorEq, false_implies, List.cons_append, List.nil_append, vars, gvars, D.hard, hardAll, Bool.and_true, Bool.true_and, Bool.not_true, Bool.not_false, List.any_cons, List.any_nil, List.all_cons, List.all_nil, Bool.or_false, Bool.or_true, Bool.false_or, Bool.true_or, Bool.and_false, Bool.false_and, beq_self_eq_true, itSlot, List.getElem?_cons_succ, List.getElem?_cons_zero, D.bl.injEq, fldAt, exists_const, false_or, or_false, false_and, and_false, exists_false, Int.sub_zero, Int.toNat_natCast, Int.zero_add, zs_tt, zs_ll, zs_ee, st_lst, st_dct, exists_eq', D.lst.injEq, D.int.injEq, Option.isNone_none, Option.isNone_some, List.set_cons_zero, b_snoc, Nat.reduceAdd, Nat.reduceLeDiff, Nat.reduceSub, enQ])
theorem w__law_same0 : FW (s__law_sameN 0) b__law_same0 2 := .of rfl fun _ Q E ⟨a, e, hp, q⟩ => by
  subst e
  unfold b__law_same0
  simp only [List.map_cons, List.map_nil, List.replicate, List.cons_append, List.nil_append]
  cases a <;> first | (simp [pl] at hp; done) | skip
  all_goals walk_at "wl"
  all_goals (try exact q)
  · exact ⟨hp, hp, q⟩
theorem w__law_same (n : Nat) : FW (s__law_sameN (n + 1)) (b__law_same (s__law_sameN n)) 2 := .of rfl fun _ Q E ⟨a, e, hp, q⟩ => by
  subst e
  unfold b__law_same
  simp only [List.map_cons, List.map_nil, List.replicate, List.cons_append, List.nil_append]
  cases a <;> first | (simp [pl] at hp; done) | skip
  all_goals walk_at "wl"
  all_goals (try exact q)
  · exact ⟨hp, hp, q⟩
  · rename_i ds _
    have h1 : ds.length ≤ 1000 ∧ ∀ d ∈ ds, pl n d = true := by simpa [pl] using hp
    refine ⟨le_lim h1.1, le_lim h1.1, ?_⟩
    rw [zipT_self]
    refine ⟨by rw [List.length_map]; exact le_lim h1.1, lcGo_map (fun _ => .bl true) (fun d hd K k => ?_) ?_⟩
    · obtain ⟨x, hx, rfl⟩ := List.mem_map.mp hd
      walk_at "wl"
      exact ⟨rfl, c__law_sameN rfl (h1.2 x hx) k⟩
    · refine ⟨_, bools_of (f := fun _ => true) (fun _ => rfl) _, ?_⟩
      rw [all_id, List.all_eq_true.mpr (fun _ _ => rfl)]
      exact q
  · rename_i ds _
    have h1 : ds.length ≤ 1000 ∧ ∀ d ∈ ds, pl n d = true := by simpa [pl] using hp
    refine ⟨le_lim h1.1, le_lim h1.1, ?_⟩
    rw [zipT_self]
    refine ⟨by rw [List.length_map]; exact le_lim h1.1, lcGo_map (fun _ => .bl true) (fun d hd K k => ?_) ?_⟩
    · obtain ⟨x, hx, rfl⟩ := List.mem_map.mp hd
      walk_at "wl"
      exact ⟨rfl, c__law_sameN rfl (h1.2 x hx) k⟩
    · refine ⟨_, bools_of (f := fun _ => true) (fun _ => rfl) _, ?_⟩
      rw [all_id, List.all_eq_true.mpr (fun _ _ => rfl)]
      exact q
end Pk
set_option maxHeartbeats 1000000
namespace Pk
open PySem Mi Bf
open Mi.Enc (enc)
/-- a record's rings, reckoned -/
def hasRB (rs : Rows) : Bool := (List.range rs.length).any fun i => (nbR rs i).any fun j => decide (i ≠ j) && (btT (tabOf rs) i j && (wayB (nbR rs) rs.length j i).isSome)
theorem hasRB_iff (rs : Rows) : hasRB rs = true ↔ HasR rs := by
  unfold hasRB
  rw [List.any_eq_true]
  constructor
  · rintro ⟨i, hi, h⟩
    obtain ⟨j, hj, h⟩ := List.any_eq_true.mp h
    simp only [Bool.and_eq_true, decide_eq_true_eq] at h
    exact ⟨i, j, List.mem_range.mp hi, hj, h.1, h.2.1, (way_reach_ne (nbR_lt rs) (Ne.symm h.1)).mp h.2.2⟩
  · rintro ⟨i, j, h1, h2, h3, h4, h5⟩
    refine ⟨i, List.mem_range.mpr h1, List.any_eq_true.mpr ⟨j, h2, ?_⟩⟩
    simp only [Bool.and_eq_true, decide_eq_true_eq]
    exact ⟨h3, h4, (way_reach_ne (nbR_lt rs) (Ne.symm h3)).mpr h5⟩
theorem bool_of {b : Bool} {rs : Rows} {v : Bool} (h : b = true ↔ ¬ HasR rs) (e : hasRB rs = !v) : b = v := by
  rw [← hasRB_iff, e] at h
  cases b <;> cases v <;> simp_all
theorem bool_uniq {b c : Bool} {P : Prop} (h : b = true ↔ P) (h2 : c = true ↔ P) : b = c := by
  rw [Bool.eq_iff_iff, h, h2]
theorem okRow_of {g m : Int} {r : Row} (hm : m ≤ 1000000) (h : okD g m r) : okRow g r := ⟨⟨h.1.1, fun x hx => by have := h.1.2 x hx; omega⟩, h.2.1, fun x hx => by have := h.2.2 x hx; omega⟩
def okRB (g : Int) (rs : Rows) : Bool := decide (1 ≤ g ∧ g ≤ 6 ∧ rs.length ≤ 20) && rs.all fun r => (decide ((r.1.length : Int) = g) && r.1.all fun n => decide (1 ≤ n ∧ n ≤ 1000000)) && (decide ((r.2.length : Int) = g) && r.2.all fun n => decide (0 ≤ n ∧ n ≤ 1000000))
theorem okRB_ok {g : Int} {rs : Rows} (h : okRB g rs = true) : OkR g rs := by
  unfold okRB at h
  rw [Bool.and_eq_true, decide_eq_true_eq, List.all_eq_true] at h
  refine ⟨h.1.1, h.1.2.1, h.1.2.2, fun r hr => ?_⟩
  have := h.2 r hr
  simp only [Bool.and_eq_true, decide_eq_true_eq, List.all_eq_true] at this
  exact ⟨⟨this.1.1, this.1.2⟩, this.2.1, this.2.2⟩
theorem okRow_B {g : Int} {r : Row} (h : okRB g [r] = true) : okRow g r := (okRB_ok h).rows r (by simp)
theorem tg_pair {a b : TG} {α β : Type} [Enc α] [Enc β] (p : α × β) {S : List Sl} {Q : List Sl → Prop} : tgW (.tp (.gcons a (.gcons b .gnil))) (enc p) S Q = tgW a (enc p.1) S fun S' => tgW b (enc p.2) S' Q := by
  rw [enc_pair, g_tp, g_cons]
  simp [glen, g_cons, g_nil]
theorem rows_ex {g m : Int} {items : List D} {ys : List D} (hl : ys.length = items.length) (h : ∀ (i : Nat) d y, items[i]? = some d → ys[i]? = some y → ∃ r : Row, y = enc r ∧ okD g m r) : ∃ rs : Rows, ys = rs.map enc ∧ rs.length = items.length ∧ ∀ r ∈ rs, okD g m r := by
  induction ys generalizing items with
  | nil => exact ⟨[], rfl, by simpa using hl, fun n hn => by cases hn⟩
  | cons y ys ih =>
    cases items with
    | nil => simp at hl
    | cons d items =>
      obtain ⟨r, e, hr⟩ := h 0 d y rfl rfl
      obtain ⟨rs, e2, hl2, h2⟩ := ih (items := items) (by simpa using hl) fun i d y h1 h2 => h (i + 1) d y (by simpa using h1) (by simpa using h2)
      refine ⟨r :: rs, by rw [e, e2]; rfl, by simp [hl2], fun m hm => ?_⟩
      rcases List.mem_cons.mp hm with z | z
      · rw [z]; exact hr
      · exact h2 m z
end Pk
set_option maxHeartbeats 1000000
namespace Bf
section
variable {nb : Nat → List Nat} {rel bt : Nat → Nat → Bool} {n : Nat} {r : List Nat}
theorem cyc_step {k : Nat} (h : k + 1 < r.length) : (r[k]'(by omega), r[k + 1]) ∈ cyc r := by
  unfold cyc
  refine List.mem_iff_getElem?.mpr ⟨k, ?_⟩
  rw [List.getElem?_zip_eq_some]
  refine ⟨List.getElem?_eq_getElem (by omega), ?_⟩
  show (r.drop 1 ++ r.take 1)[k]? = some r[k + 1]
  rw [List.getElem?_append_left (by rw [List.length_drop]; omega), List.getElem?_drop, Nat.add_comm 1 k]
  exact List.getElem?_eq_getElem h
theorem cyc_last (h : 0 < r.length) : (r[r.length - 1]'(by omega), r[0]) ∈ cyc r := by
  unfold cyc
  refine List.mem_iff_getElem?.mpr ⟨r.length - 1, ?_⟩
  rw [List.getElem?_zip_eq_some]
  refine ⟨List.getElem?_eq_getElem (by omega), ?_⟩
  show (r.drop 1 ++ r.take 1)[r.length - 1]? = some r[0]
  rw [List.getElem?_append_right (by rw [List.length_drop]; omega), List.length_drop, Nat.sub_self, List.getElem?_take]
  simp [h]
theorem cyc_mem {p : Nat × Nat} (h : p ∈ cyc r) : p.1 ∈ r ∧ p.2 ∈ r := by
  have h1 := List.of_mem_zip (show (p.1, p.2) ∈ cyc r from h)
  refine ⟨h1.1, ?_⟩
  rcases List.mem_append.mp h1.2 with z | z
  · exact List.mem_of_mem_drop z
  · exact List.mem_of_mem_take z
theorem reach_up (hs : ∀ p ∈ cyc r, p.2 ∈ nb p.1) (h0 : 0 < r.length) : ∀ (k : Nat) (h : k < r.length), Reach nb r[0] r[k]
  | 0, h => .refl _
  | k + 1, h => (reach_up hs h0 k (by omega)).step (hs _ (cyc_step h))
theorem reach_down (hs : ∀ p ∈ cyc r, p.2 ∈ nb p.1) (h0 : 0 < r.length) : ∀ (d k : Nat) (h : k < r.length), r.length - 1 - k = d → Reach nb r[k] r[0]
  | 0, k, h, e => by
    have : k = r.length - 1 := by omega
    subst this
    exact (Reach.refl _).step (hs _ (cyc_last h0))
  | d + 1, k, h, e => ((Reach.refl _).step (hs _ (cyc_step (k := k) (by omega)))).trans (reach_down hs h0 d (k + 1) (by omega) (by omega))
theorem reach_any (hs : ∀ p ∈ cyc r, p.2 ∈ nb p.1) {a b : Nat} (ha : a ∈ r) (hb : b ∈ r) : Reach nb a b := by
  obtain ⟨i, hi, rfl⟩ := List.mem_iff_getElem.mp ha
  obtain ⟨j, hj, rfl⟩ := List.mem_iff_getElem.mp hb
  exact (reach_down hs (by omega) _ i hi rfl).trans (reach_up hs (by omega) j hj)
theorem ring_has (h : IsRing rel bt n r) (hnb : ∀ a l, a < n → l < n → rel a l = true → l ∈ nb a) (hbt : ∀ a, a < n → bt a a = false) : HasRing nb bt n := by
  obtain ⟨p, hp, hb⟩ := h.bt
  have hm := cyc_mem hp
  have hs : ∀ p ∈ cyc r, p.2 ∈ nb p.1 := fun p hp => hnb _ _ (h.lt _ (cyc_mem hp).1) (h.lt _ (cyc_mem hp).2) (h.rel p hp)
  exact ⟨p.1, p.2, h.lt _ hm.1, hs p hp, fun (e : p.1 = p.2) => (by rw [e, hbt _ (h.lt _ hm.2)] at hb; cases hb), hb, reach_any hs hm.2 hm.1⟩
end
theorem pw_le_of_lt {l : List Int} (h : l.Pairwise (· < ·)) : l.Pairwise (· ≤ ·) := h.imp fun z => Int.le_of_lt z
theorem sorted_uniq : ∀ {l m : List Int}, l.Perm m → l.Pairwise (· ≤ ·) → m.Pairwise (· ≤ ·) → l = m := fun h1 h2 h3 =>
  h1.eq_of_pairwise (fun a b _ _ h h' => Int.le_antisymm h h') h2 h3
theorem perm_of_mem {l m : List Int} (h1 : l.Nodup) (h2 : m.Nodup) (h : ∀ k, k ∈ l ↔ k ∈ m) : l.Perm m := (List.perm_ext_iff_of_nodup h1 h2).mpr h
end Bf
set_option maxHeartbeats 1000000
namespace Pk
open PySem Mi Bf
open Mi.Enc (enc)
abbrev s__law_same : FSpec := s__law_sameN 4
theorem relT_iff {rs : Rows} {i j : Nat} (hi : i < rs.length) (hj : j < rs.length) : relT (tabOf rs) i j = true ↔ cost rs i j ≤ cost rs i i := by
  unfold relT
  rw [tw_tabOf hi hj]
  unfold wordOf
  by_cases z : cost rs i j > cost rs i i
  · rw [if_pos z]
    exact ⟨fun h => (by cases h), fun h => by omega⟩
  · rw [if_neg z]
    exact ⟨fun _ => by omega, fun _ => rfl⟩
theorem rowAt_app {rs : Rows} {r : Row} {i : Nat} (h : i < rs.length) : rowAt (rs ++ [r]) i = rowAt rs i := by
  unfold rowAt
  simp [List.getD_eq_getElem?_getD, List.getElem?_append_left h]
theorem cost_app {rs : Rows} {r : Row} {i j : Nat} (hi : i < rs.length) (hj : j < rs.length) : cost (rs ++ [r]) i j = cost rs i j := by
  unfold cost
  rw [rowAt_app hi, rowAt_app hj]
/-- a ring that the new choice makes goes through it -/
theorem ring_new {g : Int} {rs : Rows} {r : Row} {w : List Nat} (ok : OkR g rs) (hf : ¬ HasR rs) (h : IsRing (relT (tabOf (rs ++ [r]))) (btT (tabOf (rs ++ [r]))) (rs ++ [r]).length w) : rs.length ∈ w := by
  refine Classical.byContradiction fun hn => hf ?_
  have hlt : ∀ x ∈ w, x < rs.length := fun x hx => by
    have h1 := h.lt x hx
    have h2 : x ≠ rs.length := fun e => hn (e ▸ hx)
    rw [List.length_append] at h1
    simp only [List.length_cons, List.length_nil] at h1
    omega
  have la : ∀ {x : Nat}, x < rs.length → x < (rs ++ [r]).length := fun {x} hx => by rw [List.length_append]; omega
  have key : IsRing (relT (tabOf rs)) (btT (tabOf rs)) rs.length w := by
    refine ⟨h.nd, h.two, hlt, fun p hp => ?_, ?_⟩
    · have hm := cyc_mem hp
      have q := h.rel p hp
      rw [relT_iff (la (hlt _ hm.1)) (la (hlt _ hm.2)), cost_app (hlt _ hm.1) (hlt _ hm.2), cost_app (hlt _ hm.1) (hlt _ hm.1)] at q
      exact (relT_iff (hlt _ hm.1) (hlt _ hm.2)).mpr q
    · obtain ⟨p, hp, q⟩ := h.bt
      have hm := cyc_mem hp
      refine ⟨p, hp, ?_⟩
      rw [bt_iff (la (hlt _ hm.1)) (la (hlt _ hm.2)), cost_app (hlt _ hm.1) (hlt _ hm.2), cost_app (hlt _ hm.1) (hlt _ hm.1)] at q
      exact (bt_iff (hlt _ hm.1) (hlt _ hm.2)).mpr q
  exact ring_has key (fun a l ha hl q => (rel_nb ok ha hl).mpr ((relT_iff ha hl).mp q)) fun a ha => by
    cases e : btT (tabOf rs) a a with
    | false => rfl
    | true => exact absurd ((bt_iff ha ha).mp e) (Int.lt_irrefl _)
def s__law_is_ring : FSpec := ⟨"_law_is_ring", "", 3, 2, false, fun ds Q _ => ∃ (l : Bool) (g : Int) (rs : Rows) (r : List Nat), ds = [rwD l rs, enc r] ∧ (OkR g rs ∧ IsRing (relT (tabOf rs)) (btT (tabOf rs)) rs.length r ∧ r.length ≤ 40 ∧ rs.length - 1 ∈ r) ∧ Q (.bl true)⟩
theorem a__law_is_ring : s__law_is_ring.ar = 2 := rfl
theorem c__law_is_ring {l : Bool} {g : Int} {rs : Rows} {r : List Nat} {Q : DK} {E : XP} (h : OkR g rs) (h2 : IsRing (relT (tabOf rs)) (btT (tabOf rs)) rs.length r) (h3 : r.length ≤ 40) (h4 : rs.length - 1 ∈ r) (q : Q (.bl true)) : s__law_is_ring.spec [rwD l rs, enc r] Q E := ⟨l, g, rs, r, rfl, ⟨h, h2, h3, h4⟩, q⟩
local macro_rules | `(tactic| walk_at "wl") => `(tactic| simp only [a__law_bill, c__law_bill, rwD_len, a__law_shows, ↓gS_va, ↓gS_ow, ↓gS_lk, ↓gS_s, ↓gO_ow, ↓gO_s, ↓f1_va, ↓f1_ow, ↓f1_lk, ↓f1_hn, ↓f1_sc, ↓f1_un, ↓f1_s, ↓f1_nil, ↓frz_nil, ↓frz_cons, ↓wip_nil, ↓wip_cons, ↓thaw_t, ↓thaw_f, ↓set_z, ↓set_s, ↓lock_n, ↓zs_tt, ↓zs_ll, ↓st_lst, ↓st_dct, ↓noHn_nil, ↓noHn_cons, ↓nhn_va, ↓nhn_ow, ↓nhn_lk, ↓nhn_un, ↓nhn_sc, ↓w_var, ↓w_con, ↓w_glo, ↓w_op, ↓w_bm, ↓w_chn, ↓w_and, ↓w_or, ↓w_not, ↓w_ife, ↓w_isi, ↓w_call, ↓w_callh, ↓w_meth, ↓w_eqo, ↓w_lz, ↓w_ds1, ↓w_ss, ↓w_make, ↓w_slc, ↓w_nop, ↓w_lc, ↓w_dsp, ↓w_pop, ↓w_popAt, ↓w_anil, ↓w_acons, ↓w_itS, ↓w_itX, ↓w_itR, ↓w_itE, ↓w_itZ, ↓t_and, ↓t_or, ↓t_not, ↓t_var, ↓t_con, ↓t_op, ↓t_chn, ↓t_isi, ↓t_call, ↓t_callh, ↓t_meth, ↓t_eqo, ↓hn_ex, ↓tr_bl, ↓tr_int, ↓tr_non, ↓tr_tup, ↓tr_lst, ↓o_bin, ↓o_cmp, ↓o_neg, ↓o_tup, ↓o_lst, ↓o_idx, ↓o_fld, ↓o_blt, ↓b_add, ↓b_addT, ↓b_addL, ↓b_addS, ↓b_sub, ↓b_mul, ↓b_mulT, ↓b_mulL, ↓b_div, ↓b_mod, ↓b_pow, ↓c_eq, ↓c_ne, ↓c_lt, ↓c_le, ↓c_gt, ↓c_ge, ↓c_is, ↓c_isn, ↓c_isB, ↓c_isnB, ↓isBl_t, ↓isBl_f, ↓c_inL, ↓c_inT, ↓c_inD, ↓c_niL, ↓c_niT, ↓c_niD, ↓x_dct, ↓fl_ins, ↓bl_len, ↓bl_all, ↓bl_any, ↓bl_sum, ↓bl_tupL, ↓bl_tupT, ↓bl_lstR, ↓bl_lstL, ↓bl_lstT, ↓bl_int, ↓bl_intB, ↓bl_abs, ↓bl_min2, ↓bl_max2, ↓bl_dict, ↓bl_rng, ↓bl_srt, ↓ln_lst, ↓ln_tup, ↓ln_dct, ↓sq_lst, ↓sq_tup, ↓m_get2, ↓m_get1, ↓m_ix, ↓h_get2, ↓h_get1, ↓h_ix, ↓i_lst, ↓i_tup, ↓i_rng, ↓r_one, ↓r_two, ↓g_nm, ↓g_tp, ↓g_nil, ↓g_cons, ↓gl_nil, ↓gl_cons, ↓ty_non_int, ↓ty_non_bool, ↓ty_non_tuple, ↓ty_non_list, ↓ty_non_str, ↓ty_non_dict, ↓tyd_non, ↓ty_non_own, ↓isn_non, ↓con_non, ↓ty_bl_int, ↓ty_bl_bool, ↓ty_bl_tuple, ↓ty_bl_list, ↓ty_bl_str, ↓ty_bl_dict, ↓tyd_bl, ↓ty_bl_own, ↓isn_bl, ↓con_bl, ↓ty_int_int, ↓ty_int_bool, ↓ty_int_tuple, ↓ty_int_list, ↓ty_int_str, ↓ty_int_dict, ↓tyd_int, ↓ty_int_own, ↓isn_int, ↓con_int, ↓ty_str_int, ↓ty_str_bool, ↓ty_str_tuple, ↓ty_str_list, ↓ty_str_str, ↓ty_str_dict, ↓tyd_str, ↓ty_str_own, ↓isn_str, ↓con_str, ↓ty_tup_int, ↓ty_tup_bool, ↓ty_tup_tuple, ↓ty_tup_list, ↓ty_tup_str, ↓ty_tup_dict, ↓tyd_tup, ↓ty_tup_own, ↓isn_tup, ↓con_tup, ↓ty_lst_int, ↓ty_lst_bool, ↓ty_lst_tuple, ↓ty_lst_list, ↓ty_lst_str, ↓ty_lst_dict, ↓tyd_lst, ↓ty_lst_own, ↓isn_lst, ↓con_lst, ↓ty_dct_int, ↓ty_dct_bool, ↓ty_dct_tuple, ↓ty_dct_list, ↓ty_dct_str, ↓ty_dct_dict, ↓tyd_dct, ↓ty_dct_own, ↓isn_dct, ↓con_dct, ↓ty_ins_int, ↓ty_ins_bool, ↓ty_ins_tuple, ↓ty_ins_list, ↓ty_ins_str, ↓ty_ins_dict, ↓tyd_ins, ↓ty_ins_own, ↓isn_ins, ↓con_ins, ↓hin_lst, ↓hin_dct, ↓fla_non, ↓fla_bl, ↓fla_int, ↓fla_str, ↓key_int, ↓key_str, ↓po_nop, ↓po_var, ↓po_con, ↓po_op, ↓sl_tup, ↓sl_lst, ↓s_nil, ↓s_seq, ↓s_asg, ↓s_par, ↓s_aug, ↓s_exp, ↓s_app, ↓s_ext, ↓s_sti, ↓s_ret, ↓s_retn, ↓s_ifs, ↓s_wh, ↓s_rs, ↓s_pas, ↓s_con, ↓s_brk, ↓s_nev, ↓s_mkh, ↓s_frX, ↓s_frS, ↓s_frR, ↓s_frE, ↓s_frZ, ↓p_nil, ↓p_cons, ↓ps_nil, ↓ps_cons, ↓po_nil, ↓po_cons, ↓pv_nil, ↓pv_cons, ↓ok_t, ↓ok_f, ↓mk_t, ↓mk_f, ↓sef_nil, ↓sef_cons, hard_ints, hard_map, hard_nats, Int.reduceToNat, eqv_lst_nil, shp_lst_nil, x_encP0, x_encP1,  ↓List.forall_mem_map,  List.isEmpty_map, Int.reduceLT, Int.reduceLE, ln_enc, i_enc, sq_enc, enc_hard, tr_enc, ty_enc_tuple, ty_enc_list, ty_enc_int, ty_enc_bool, tyd_enc, isn_enc, b_enc, eqv_int, eqv_bl, eqv_str, eqv_nn, eqv_tn, eqv_nt, eqv_in, eqv_ni, eqv_sn, eqv_ns, x_pair0, x_pair1, shp_int, shp_non, shp_bl, lcF_eq, enc_int, enc_nat, enc_bool, decide_eq_true_eq, Bool.not_eq_true', decide_eq_false_iff_not, Bool.not_not, ite_not, List.length_map, Option.some.injEq, exists_eq_left', exists_eq_left, exists_eq_right, exists_eq_right', and_true, true_and, true_implies, List.length_cons, List.length_nil, if_true, if_false, ite_true, ite_false, Bool.false_eq_true, reduceCtorEq, false_implies, List.cons_append, List.nil_append, vars, gvars, D.hard, hardAll, Bool.and_true, Bool.true_and, Bool.not_true, Bool.not_false, List.any_cons, List.any_nil, List.all_cons, List.all_nil, Bool.or_false, Bool.or_true, Bool.false_or, Bool.true_or, Bool.and_false, Bool.false_and, beq_self_eq_true, itSlot, List.getElem?_cons_succ, List.getElem?_cons_zero, D.bl.injEq, fldAt, exists_const, false_or, or_false, false_and, and_false, exists_false, Int.sub_zero, Int.toNat_natCast, Int.zero_add, zs_tt, zs_ll, zs_ee, st_lst, st_dct, exists_eq', D.lst.injEq, D.int.injEq, Option.isNone_none, Option.isNone_some, List.set_cons_zero, b_snoc, Nat.reduceAdd, Nat.reduceLeDiff, Nat.reduceSub, enQ])
def n__law_is_ring : List Str := ["rows", "thing", "one", "told", "other"]
def p__law_is_ring : List Str := ["rows", "thing"]
def b__law_is_ring : MS := (.seq (.ifs (.or (.not (.isi [.bt "tuple"] (.var 1))) (.op (.cmp .Lt) (.acons (.op (.blt .len) (.acons (.var 1) .anil)) (.acons (.con (.int 2)) .anil)))) (.seq (.ret (.con (.bl false))) .nil) .nil) (.seq (.ifs (.not (.op (.blt .all) (.acons (.lc [2] (.and (.isi [.bt "int"] (.var 2)) (.and (.not (.isi [.bt "bool"] (.var 2))) (.chn .LtE .Lt (.con (.int 0)) (.var 2) (.op (.blt .len) (.acons (.var 0) .anil))))) (.nm 2) (.itX 1) (.con (.bl true))) .anil))) (.seq (.ret (.con (.bl false))) .nil) .nil) (.seq (.ifs (.or (.op (.cmp .NotEq) (.acons (.op (.blt .sorted) (.acons (.var 1) .anil)) (.acons (.ss true (.var 1)) .anil))) (.op (.cmp .NotIn) (.acons (.op (.bin .Sub) (.acons (.op (.blt .len) (.acons (.var 0) .anil)) (.acons (.con (.int 1)) .anil))) (.acons (.var 1) .anil)))) (.seq (.ret (.con (.bl false))) .nil) .nil) (.seq (.par [(3, false, (.lc [2, 4] (.call s__law_shows (.acons (.var 0) (.acons (.var 2) (.acons (.var 4) .anil)))) (.tp (.gcons (.nm 2) (.gcons (.nm 4) .gnil))) (.itZ (.var 1) (.op (.bin .Add) (.acons (.slc (.var 1) (.con (.int 1)) .nop) (.acons (.slc (.var 1) .nop (.con (.int 1))) .anil)))) (.con (.bl true))))]) (.seq (.ret (.and (.op (.blt .all) (.acons (.lc [2] (.op .idx (.acons (.var 2) (.acons (.con (.int 0)) .anil))) (.nm 2) (.itX 3) (.con (.bl true))) .anil)) (.op (.blt .any) (.acons (.lc [2] (.op .idx (.acons (.var 2) (.acons (.con (.int 1)) .anil))) (.nm 2) (.itX 3) (.con (.bl true))) .anil)))) .nil)))))
theorem intsN (r : List Nat) : intsOf (r.map enc) = some (r.map fun (n : Nat) => (n : Int)) := ints_map (fun (n : Nat) => (n : Int)) r
theorem shpLI (xs : List Int) : (D.lst (xs.map D.int)).shp = true := shp_lstE xs (by decide)
theorem eqvLI (xs ys : List Int) : D.eqv (.lst (xs.map D.int)) (.lst (ys.map D.int)) = decide (xs = ys) := by
  rw [eqv_lst]; exact eqv_tup xs ys
theorem sl_from {α : Type} [Enc α] {Q : DK} (r : List α) (k : Nat) : slcSem (enc r) (some (k : Int)) none Q = Q (enc (r.drop k)) := by
  rw [enc_list, sl_tup]
  have e1 : cutIx (r.map enc).length 0 (some (k : Int)) = min k r.length := by
    show (if (k : Int) < 0 then ((k : Int) + ((r.map enc).length : Nat)).toNat else min (k : Int).toNat (r.map enc).length) = _
    rw [if_neg (by omega), List.length_map, Int.toNat_natCast]
  have e2 : cutIx (r.map enc).length (r.map enc).length none = r.length := by
    show (r.map enc).length = _
    rw [List.length_map]
  rw [e1, e2, enc_list, ← List.map_drop, ← List.map_take, List.take_of_length_le (by rw [List.length_drop]; omega)]
  rcases Nat.le_total k r.length with z | z
  · rw [Nat.min_eq_left z]
  · rw [Nat.min_eq_right z, List.drop_of_length_le (Nat.le_refl _), List.drop_of_length_le z]
theorem sl_to {α : Type} [Enc α] {Q : DK} (r : List α) (k : Nat) : slcSem (enc r) none (some (k : Int)) Q = Q (enc (r.take k)) := by
  rw [enc_list, sl_tup]
  have e1 : cutIx (r.map enc).length 0 none = 0 := rfl
  have e2 : cutIx (r.map enc).length (r.map enc).length (some (k : Int)) = min k r.length := by
    show (if (k : Int) < 0 then ((k : Int) + ((r.map enc).length : Nat)).toNat else min (k : Int).toNat (r.map enc).length) = _
    rw [if_neg (by omega), List.length_map, Int.toNat_natCast]
  rw [e1, e2, List.drop_zero, Nat.sub_zero, ← List.map_take, enc_list, ← List.take_take, List.take_length]
theorem sl_from1 {α : Type} [Enc α] {Q : DK} (r : List α) : slcSem (enc r) (some 1) none Q = Q (enc (r.drop 1)) := sl_from r 1
theorem sl_to1 {α : Type} [Enc α] {Q : DK} (r : List α) : slcSem (enc r) none (some 1) Q = Q (enc (r.take 1)) := sl_to r 1
theorem w__law_is_ring : FW s__law_is_ring b__law_is_ring 3 := .of rfl fun _ Q E ⟨l, g, rs, r, e, ⟨h, h2, h3, h4⟩, q⟩ => by
  subst e
  unfold b__law_is_ring
  simp only [List.map_cons, List.map_nil, List.replicate, List.cons_append, List.nil_append]
  have hl := h.len
  have two := h2.two
  walk_at "wl"
  refine ⟨by rw [lim_eq']; omega, ?_⟩
  rw [if_neg (by omega)]
  refine ⟨by rw [lim_eq']; omega, lcGo_mapF (fun _ => .bl true) (fun x hx K k => ?_) ?_⟩
  · have := h2.lt x hx
    walk_at "wl"
    rw [if_pos (by omega)]
    refine ⟨by rw [lim_eq']; omega, ?_⟩
    rw [decide_eq_true (by omega)]
    exact k
  · refine ⟨_, bools_map (fun _ => true) _, ?_⟩
    rw [all_id, List.all_eq_true.mpr (fun _ _ => rfl), if_neg (by decide)]
    refine ⟨_, _, rfl, intsN r, fun out p1 p2 => ⟨_, _, enc_list r, intsN r, by rw [List.length_map]; omega, fun out2 d1 d2 d3 => ?_⟩⟩
    have e : out = out2 := by
      refine sorted_uniq (p1.trans (perm_of_mem ?_ d1 fun k => (d2 k).symm)) p2 (pw_le_of_lt d3)
      exact List.pairwise_map.mpr (h2.nd.imp fun z e => z (by omega))
    subst e
    rw [eqvLI]
    refine ⟨shpLI _, shpLI _, ?_⟩
    rw [if_neg (by simp)]
    refine ⟨by rw [lim_eq']; omega, ?_⟩
    have en : ((rs.length : Int) - 1) = ((rs.length - 1 : Nat) : Int) := by
      have := h2.lt _ h4
      omega
    have fl : (r.map enc).all D.flat = true := List.all_eq_true.mpr fun d hd => by
      obtain ⟨n, _, rfl⟩ := List.mem_map.mp hd
      rfl
    rw [en, enc_list, c_niT, ← enc_list, ← enc_nat, inAny_map]
    refine ⟨rfl, fl, ?_⟩
    rw [tr_bl, if_neg (by simp [h4]), sl_from1, sl_to1, b_enc]
    refine ⟨by rw [List.length_drop, List.length_take, lim_eq']; omega, ?_⟩
    walk_at "wl"
    have ez : zipT (r.map enc) ((r.drop 1 ++ r.take 1).map enc) = (cyc r).map fun p => .tup [enc p.1, enc p.2] := zipT_map enc enc _ _
    have lz : (cyc r).length ≤ r.length := by unfold cyc; rw [List.length_zip]; exact Nat.min_le_left _ _
    rw [ez]
    refine ⟨by rw [List.length_map, lim_eq']; omega, lcGo_mapF (fun p : Nat × Nat => .tup [.bl (decide (cost rs p.1 p.2 ≤ cost rs p.1 p.1)), .bl (decide (cost rs p.1 p.2 < cost rs p.1 p.1))]) (fun p hp K k => ?_) ?_⟩
    · have hm := cyc_mem hp
      walk_at "wl"
      exact c__law_shows h (h2.lt _ hm.1) (h2.lt _ hm.2) k
    · rw [List.nil_append]
      refine ⟨by rw [List.length_map, lim_eq']; omega, lcGo_mapF (fun p : Nat × Nat => .bl (decide (cost rs p.1 p.2 ≤ cost rs p.1 p.1))) (fun p hp K k => ?_) ?_⟩
      · walk_at "wl"
        exact k
      refine ⟨_, bools_map (fun p : Nat × Nat => decide (cost rs p.1 p.2 ≤ cost rs p.1 p.1)) _, ?_⟩
      rw [all_id, List.all_eq_true.mpr (fun p hp => ?_), if_pos rfl]
      · refine ⟨by rw [List.length_map, lim_eq']; omega, lcGo_mapF (fun p : Nat × Nat => .bl (decide (cost rs p.1 p.2 < cost rs p.1 p.1))) (fun p hp K k => ?_) ?_⟩
        · walk_at "wl"
          exact k
        refine ⟨_, bools_map (fun p : Nat × Nat => decide (cost rs p.1 p.2 < cost rs p.1 p.1)) _, ?_⟩
        obtain ⟨p, hp, hb⟩ := h2.bt
        have hm := cyc_mem hp
        rw [any_id, List.any_eq_true.mpr ⟨p, hp, decide_eq_true ((bt_iff (h2.lt _ hm.1) (h2.lt _ hm.2)).mp hb)⟩]
        exact q
      · have hm := cyc_mem hp
        exact decide_eq_true ((relT_iff (h2.lt _ hm.1) (h2.lt _ hm.2)).mp (h2.rel p hp))
theorem ring_step {g : Int} {rs : Rows} {r : Row} {w : Option (List Nat)} (h2 : OkR g (rs ++ [r])) (h : OkR g rs) (hf : ¬ HasR rs) (hw : RingRes (tabOf (rs ++ [r])) w) (hh : HasR (rs ++ [r])) {l : Bool} {Q : DK} {E : XP} (q : Q (.bl true)) : s__law_is_ring.spec [rwD l (rs ++ [r]), optD w] Q E := by
  cases w with
  | none => exact absurd hh ((ringRes_R hw).mp rfl)
  | some v =>
    obtain ⟨⟨ir, il⟩, _⟩ := hw
    rw [tabOf_len] at ir il
    have hl2 := h2.len
    rw [optD_some]
    refine c__law_is_ring h2 ir (by omega) ?_ q
    have := ring_new h hf ir
    rwa [List.length_append, List.length_singleton, Nat.add_sub_cancel]
def s__law_is_told : FSpec := ⟨"_law_is_told", "", 10, 3, false, fun ds Q _ => ∃ (g : Int) (rs : Rows) (r : Row), ds = [recD g rs, enc rs, enc r] ∧ (preN g rs r ∧ ¬ HasR rs) ∧ Q (.bl true)⟩
theorem a__law_is_told : s__law_is_told.ar = 3 := rfl
theorem c__law_is_told (g : Int) (rs : Rows) (r : Row) (Q : DK) (E : XP) : s__law_is_told.spec [recD g rs, enc rs, enc r] Q E = ((preN g rs r ∧ ¬ HasR rs) ∧ Q (.bl true)) := by
  refine propext ⟨?_, fun h => ⟨g, rs, r, rfl, h⟩⟩
  rintro ⟨g', rs', r', e, h⟩
  simp only [List.cons.injEq, recD_inj, enc_inj, and_true] at e
  obtain ⟨⟨rfl, rfl⟩, _, rfl⟩ := e
  exact h
local macro_rules | `(tactic| walk_at "wl") => `(tactic| simp only [a__law_is_fitting, a__law_sameN, a_may_choose, c_may_choose, a_is_fitting, c_is_fitting, recD_goods, recD_rows, recD_hard, a_forbids, c_forbids, optD_isN, optD_hard, b_rows, a__law_is_ring, ↓gS_va, ↓gS_ow, ↓gS_lk, ↓gS_s, ↓gO_ow, ↓gO_s, ↓f1_va, ↓f1_ow, ↓f1_lk, ↓f1_hn, ↓f1_sc, ↓f1_un, ↓f1_s, ↓f1_nil, ↓frz_nil, ↓frz_cons, ↓wip_nil, ↓wip_cons, ↓thaw_t, ↓thaw_f, ↓set_z, ↓set_s, ↓lock_n, ↓zs_tt, ↓zs_ll, ↓st_lst, ↓st_dct, ↓noHn_nil, ↓noHn_cons, ↓nhn_va, ↓nhn_ow, ↓nhn_lk, ↓nhn_un, ↓nhn_sc, ↓w_var, ↓w_con, ↓w_glo, ↓w_op, ↓w_bm, ↓w_chn, ↓w_and, ↓w_or, ↓w_not, ↓w_ife, ↓w_isi, ↓w_call, ↓w_callh, ↓w_meth, ↓w_eqo, ↓w_lz, ↓w_ds1, ↓w_ss, ↓w_make, ↓w_slc, ↓w_nop, ↓w_lc, ↓w_dsp, ↓w_pop, ↓w_popAt, ↓w_anil, ↓w_acons, ↓w_itS, ↓w_itX, ↓w_itR, ↓w_itE, ↓w_itZ, ↓t_and, ↓t_or, ↓t_not, ↓t_var, ↓t_con, ↓t_op, ↓t_chn, ↓t_isi, ↓t_call, ↓t_callh, ↓t_meth, ↓t_eqo, ↓hn_ex, ↓tr_bl, ↓tr_int, ↓tr_non, ↓tr_tup, ↓tr_lst, ↓o_bin, ↓o_cmp, ↓o_neg, ↓o_tup, ↓o_lst, ↓o_idx, ↓o_fld, ↓o_blt, ↓b_add, ↓b_addT, ↓b_addL, ↓b_addS, ↓b_sub, ↓b_mul, ↓b_mulT, ↓b_mulL, ↓b_div, ↓b_mod, ↓b_pow, ↓c_eq, ↓c_ne, ↓c_lt, ↓c_le, ↓c_gt, ↓c_ge, ↓c_is, ↓c_isn, ↓c_isB, ↓c_isnB, ↓isBl_t, ↓isBl_f, ↓c_inL, ↓c_inT, ↓c_inD, ↓c_niL, ↓c_niT, ↓c_niD, ↓x_dct, ↓fl_ins, ↓bl_len, ↓bl_all, ↓bl_any, ↓bl_sum, ↓bl_tupL, ↓bl_tupT, ↓bl_lstR, ↓bl_lstL, ↓bl_lstT, ↓bl_int, ↓bl_intB, ↓bl_abs, ↓bl_min2, ↓bl_max2, ↓bl_dict, ↓bl_rng, ↓bl_srt, ↓ln_lst, ↓ln_tup, ↓ln_dct, ↓sq_lst, ↓sq_tup, ↓m_get2, ↓m_get1, ↓m_ix, ↓h_get2, ↓h_get1, ↓h_ix, ↓i_lst, ↓i_tup, ↓i_rng, ↓r_one, ↓r_two, ↓g_nm, ↓g_tp, ↓g_nil, ↓g_cons, ↓gl_nil, ↓gl_cons, ↓ty_non_int, ↓ty_non_bool, ↓ty_non_tuple, ↓ty_non_list, ↓ty_non_str, ↓ty_non_dict, ↓tyd_non, ↓ty_non_own, ↓isn_non, ↓con_non, ↓ty_bl_int, ↓ty_bl_bool, ↓ty_bl_tuple, ↓ty_bl_list, ↓ty_bl_str, ↓ty_bl_dict, ↓tyd_bl, ↓ty_bl_own, ↓isn_bl, ↓con_bl, ↓ty_int_int, ↓ty_int_bool, ↓ty_int_tuple, ↓ty_int_list, ↓ty_int_str, ↓ty_int_dict, ↓tyd_int, ↓ty_int_own, ↓isn_int, ↓con_int, ↓ty_str_int, ↓ty_str_bool, ↓ty_str_tuple, ↓ty_str_list, ↓ty_str_str, ↓ty_str_dict, ↓tyd_str, ↓ty_str_own, ↓isn_str, ↓con_str, ↓ty_tup_int, ↓ty_tup_bool, ↓ty_tup_tuple, ↓ty_tup_list, ↓ty_tup_str, ↓ty_tup_dict, ↓tyd_tup, ↓ty_tup_own, ↓isn_tup, ↓con_tup, ↓ty_lst_int, ↓ty_lst_bool, ↓ty_lst_tuple, ↓ty_lst_list, ↓ty_lst_str, ↓ty_lst_dict, ↓tyd_lst, ↓ty_lst_own, ↓isn_lst, ↓con_lst, ↓ty_dct_int, ↓ty_dct_bool, ↓ty_dct_tuple, ↓ty_dct_list, ↓ty_dct_str, ↓ty_dct_dict, ↓tyd_dct, ↓ty_dct_own, ↓isn_dct, ↓con_dct, ↓ty_ins_int, ↓ty_ins_bool, ↓ty_ins_tuple, ↓ty_ins_list, ↓ty_ins_str, ↓ty_ins_dict, ↓tyd_ins, ↓ty_ins_own, ↓isn_ins, ↓con_ins, ↓hin_lst, ↓hin_dct, ↓fla_non, ↓fla_bl, ↓fla_int, ↓fla_str, ↓key_int, ↓key_str, ↓po_nop, ↓po_var, ↓po_con, ↓po_op, ↓sl_tup, ↓sl_lst, ↓s_nil, ↓s_seq, ↓s_asg, ↓s_par, ↓s_aug, ↓s_exp, ↓s_app, ↓s_ext, ↓s_sti, ↓s_ret, ↓s_retn, ↓s_ifs, ↓s_wh, ↓s_rs, ↓s_pas, ↓s_con, ↓s_brk, ↓s_nev, ↓s_mkh, ↓s_frX, ↓s_frS, ↓s_frR, ↓s_frE, ↓s_frZ, ↓p_nil, ↓p_cons, ↓ps_nil, ↓ps_cons, ↓po_nil, ↓po_cons, ↓pv_nil, ↓pv_cons, ↓ok_t, ↓ok_f, ↓mk_t, ↓mk_f, ↓sef_nil, ↓sef_cons, hard_ints, hard_map, hard_nats, Int.reduceToNat, eqv_lst_nil, shp_lst_nil, x_encP0, x_encP1,  ↓List.forall_mem_map,  List.isEmpty_map, Int.reduceLT, Int.reduceLE, ln_enc, i_enc, sq_enc, enc_hard, tr_enc, ty_enc_tuple, ty_enc_list, ty_enc_int, ty_enc_bool, tyd_enc, isn_enc, b_enc, eqv_int, eqv_bl, eqv_str, eqv_nn, eqv_tn, eqv_nt, eqv_in, eqv_ni, eqv_sn, eqv_ns, x_pair0, x_pair1, shp_int, shp_non, shp_bl, lcF_eq, enc_int, enc_nat, enc_bool, decide_eq_true_eq, Bool.not_eq_true', decide_eq_false_iff_not, Bool.not_not, ite_not, List.length_map, Option.some.injEq, exists_eq_left', exists_eq_left, exists_eq_right, exists_eq_right', and_true, true_and, true_implies, List.length_cons, List.length_nil, if_true, if_false, ite_true, ite_false, Bool.false_eq_true, reduceCtorEq, false_implies, List.cons_append, List.nil_append, vars, gvars, D.hard, hardAll, Bool.and_true, Bool.true_and, Bool.not_true, Bool.not_false, List.any_cons, List.any_nil, List.all_cons, List.all_nil, Bool.or_false, Bool.or_true, Bool.false_or, Bool.true_or, Bool.and_false, Bool.false_and, beq_self_eq_true, itSlot, List.getElem?_cons_succ, List.getElem?_cons_zero, D.bl.injEq, fldAt, exists_const, false_or, or_false, false_and, and_false, exists_false, Int.sub_zero, Int.toNat_natCast, Int.zero_add, zs_tt, zs_ll, zs_ee, st_lst, st_dct, exists_eq', D.lst.injEq, D.int.injEq, Option.isNone_none, Option.isNone_some, List.set_cons_zero, b_snoc, Nat.reduceAdd, Nat.reduceLeDiff, Nat.reduceSub, enQ])
def n__law_is_told : List Str := ["record", "rows", "new", "found"]
def p__law_is_told : List Str := ["record", "rows", "new"]
def b__law_is_told : MS := (.seq (.asg (.nm 3) (.call s_forbids (.acons (.var 0) (.acons (.var 2) .anil)))) (.seq (.ifs (.call s__law_is_fitting (.acons (.op (.bin .Add) (.acons (.var 1) (.acons (.op .tup (.acons (.var 2) .anil)) .anil))) .anil)) (.seq (.ret (.and (.op (.cmp .Is) (.acons (.var 3) (.acons (.con .non) .anil))) (.op (.cmp .Is) (.acons (.call s_may_choose (.acons (.var 0) (.acons (.var 2) .anil))) (.acons (.con (.bl true)) .anil))))) .nil) .nil) (.seq (.ifs (.or (.not (.call s__law_is_ring (.acons (.op (.bin .Add) (.acons (.var 1) (.acons (.op .tup (.acons (.var 2) .anil)) .anil))) (.acons (.var 3) .anil)))) (.not (.call s__law_is_ring (.acons (.op (.bin .Add) (.acons (.var 1) (.acons (.op .tup (.acons (.var 2) .anil)) .anil))) (.acons (.call s_forbids (.acons (.var 0) (.acons (.var 2) .anil))) .anil))))) (.seq (.ret (.con (.bl false))) .nil) .nil) (.seq (.ret (.and (.op (.cmp .Is) (.acons (.call s_may_choose (.acons (.var 0) (.acons (.var 2) .anil))) (.acons (.con (.bl false)) .anil))) (.call s__law_same (.acons (.op (.fld "rows") (.acons (.var 0) .anil)) (.acons (.var 1) .anil))))) .nil))))
theorem w__law_is_told : FW s__law_is_told b__law_is_told 1 := .of rfl fun _ Q E ⟨g, rs, r, e, ⟨⟨h, hr, hl⟩, hf⟩, q⟩ => by
  subst e
  unfold b__law_is_told
  simp only [List.map_cons, List.map_nil, List.replicate, List.cons_append, List.nil_append]
  walk_at "wl"
  have h2 := h.snoc hr hl
  refine ⟨⟨⟨h, hr, hl⟩, hf⟩, fun w hw => ?_⟩
  refine ⟨by rw [lim_eq']; omega, ?_⟩
  rw [rwD_f (rs ++ [r])]
  refine c__law_is_fitting h2 fun b hb => ?_
  walk_at "wl"
  have ew : w.isNone = b := bool_uniq (ringRes_R hw) hb
  cases b with
  | true =>
    rw [if_pos rfl, ew, if_pos rfl]
    refine ⟨⟨h, hr, hl⟩, fun b2 hb2 => ?_⟩
    rw [bool_uniq hb2 hb]
    exact q
  | false =>
    rw [if_neg Bool.false_ne_true]
    have hh : HasR (rs ++ [r]) := Classical.byContradiction fun z => Bool.false_ne_true (hb.mpr z)
    refine ⟨by rw [lim_eq']; omega, ring_step h2 h hf hw hh ?_⟩
    walk_at "wl"
    refine ⟨by rw [lim_eq']; omega, ⟨⟨h, hr, hl⟩, hf⟩, fun w2 hw2 => ring_step h2 h hf hw2 hh ?_⟩
    walk_at "wl"
    refine ⟨⟨h, hr, hl⟩, fun b2 hb2 => ?_⟩
    rw [bool_uniq hb2 hb]
    rw [if_pos rfl]
    exact c__law_sameN rfl (pl_rows 1 h) q
def okCh (n : Nat) (rs : Rows) : Prop := rs.length = n ∧ ∀ i, i < n → ∃ e : Int, 0 ≤ e ∧ e ≤ 4 ∧ rowAt rs i = ([1, 1], [10 * ((n : Int) - i), e])
theorem cost_ch {n : Nat} {rs : Rows} (h : okCh n rs) {i j : Nat} (hi : i < n) (hj : j < n) : cost rs i j ≤ cost rs i i → i ≤ j := by
  obtain ⟨e, e0, e1, h1⟩ := h.2 i hi
  obtain ⟨f, f0, f1, h2⟩ := h.2 j hj
  unfold cost
  rw [h1, h2]
  simp only [dot, List.zipWith_cons_cons, List.zipWith_nil_left, List.sum_cons, List.sum_nil, Int.one_mul]
  omega
theorem ch_ok {n : Nat} {rs : Rows} (h : okCh n rs) (hn : n ≤ 19) : OkR 2 rs := by
  refine ⟨by decide, by decide, by rw [h.1]; omega, fun r hr => ?_⟩
  obtain ⟨i, hi, e⟩ := List.mem_iff_getElem.mp hr
  obtain ⟨x, e0, e1, h1⟩ := h.2 i (by rw [← h.1]; exact hi)
  have e2 : rowAt rs i = r := by
    unfold rowAt
    rw [List.getD_eq_getElem?_getD, List.getElem?_eq_getElem hi]
    exact e
  have hi2 : i < n := by rw [← h.1]; exact hi
  rw [← e2, h1]
  refine ⟨⟨rfl, fun y hy => ?_⟩, rfl, fun y hy => ?_⟩
  · simp only [List.mem_cons, List.not_mem_nil, or_false, or_self] at hy
    omega
  · simp only [List.mem_cons, List.not_mem_nil, or_false] at hy
    omega
theorem ch_no {n : Nat} {rs : Rows} (h : okCh n rs) (hn : n ≤ 19) : ¬ HasR rs := by
  have ok := ch_ok h hn
  have up : ∀ a b, a < n → Reach (nbR rs) a b → a ≤ b ∧ b < n := by
    intro a b ha hr
    induction hr with
    | refl => exact ⟨Nat.le_refl _, ha⟩
    | step _ hc ih =>
      have hc2 := nbR_lt rs _ _ hc
      rw [h.1] at hc2
      have := cost_ch h ih.2 hc2 ((rel_nb ok (by rw [h.1]; exact ih.2) (by rw [h.1]; exact hc2)).mp hc)
      exact ⟨by omega, hc2⟩
  rintro ⟨i, j, h1, h2, h3, h4, h5⟩
  have hj := nbR_lt rs _ _ h2
  have a := cost_ch h (by rw [← h.1]; exact h1) (by rw [← h.1]; exact hj) ((rel_nb ok h1 hj).mp h2)
  have b := up j i (by rw [← h.1]; exact hj) h5
  omega
theorem rows_ix {P : Nat → Row → Prop} {n : Nat} {ys : List D} (hl : ys.length = n) (h : ∀ (i : Nat) y, i < n → ys[i]? = some y → ∃ r : Row, y = enc r ∧ P i r) : ∃ rs : Rows, ys = rs.map enc ∧ rs.length = n ∧ ∀ i, i < n → P i (rowAt rs i) := by
  have : ∀ (ys : List D) (k : Nat), k + ys.length = n → (∀ (i : Nat) y, ys[i]? = some y → ∃ r : Row, y = enc r ∧ P (k + i) r) → ∃ rs : Rows, ys = rs.map enc ∧ rs.length = ys.length ∧ ∀ i, i < rs.length → P (k + i) (rowAt rs i) := by
    intro ys
    induction ys with
    | nil => intro k _ _; exact ⟨[], rfl, rfl, fun i hi => by simp at hi⟩
    | cons y ys ih =>
      intro k hk hh
      obtain ⟨r, e, hr⟩ := hh 0 y rfl
      obtain ⟨rs, e2, hl2, h2⟩ := ih (k + 1) (by simp only [List.length_cons] at hk; omega) fun i y hy => by
        have := hh (i + 1) y (by simpa using hy)
        rwa [show k + (i + 1) = k + 1 + i by omega] at this
      refine ⟨r :: rs, by rw [e, e2]; rfl, by simp [hl2], fun i hi => ?_⟩
      cases i with
      | zero => exact hr
      | succ i =>
        have := h2 i (by simpa using hi)
        rw [show k + (i + 1) = k + 1 + i by omega]
        exact this
  obtain ⟨rs, h1, h2, h3⟩ := this ys 0 (by omega) fun i y hy => by
    have hi : i < n := by rw [← hl]; exact (List.getElem?_eq_some_iff.mp hy).1
    have := h i y hi hy
    rwa [Nat.zero_add]
  refine ⟨rs, h1, by omega, fun i hi => ?_⟩
  have := h3 i (by omega)
  rwa [Nat.zero_add] at this
def s__law_chain : FSpec := ⟨"_law_chain", "", 3, 1, true, fun ds Q _ => ∃ n : Nat, ds = [.int n] ∧ (2 ≤ n ∧ n ≤ 19) ∧ ∀ (rs : Rows) (r : Row), okCh n rs → okRow 2 r → Q (.tup [.int 2, enc rs, enc r])⟩
theorem a__law_chain : s__law_chain.ar = 1 := rfl
theorem c__law_chain (n : Nat) (Q : DK) (E : XP) : s__law_chain.spec [.int n] Q E = ((2 ≤ n ∧ n ≤ 19) ∧ ∀ (rs : Rows) (r : Row), okCh n rs → okRow 2 r → Q (.tup [.int 2, enc rs, enc r])) := by
  refine propext ⟨?_, fun h => ⟨n, rfl, h⟩⟩
  rintro ⟨n', e, h⟩
  simp only [List.cons.injEq, D.int.injEq, Int.natCast_inj, and_true] at e
  subst e
  exact h
local macro_rules | `(tactic| walk_at "wl") => `(tactic| simp only [a__law_draw, c__law_draw, a__law_any, c__law_any, c__law_anyE, ↓gS_va, ↓gS_ow, ↓gS_lk, ↓gS_s, ↓gO_ow, ↓gO_s, ↓f1_va, ↓f1_ow, ↓f1_lk, ↓f1_hn, ↓f1_sc, ↓f1_un, ↓f1_s, ↓f1_nil, ↓frz_nil, ↓frz_cons, ↓wip_nil, ↓wip_cons, ↓thaw_t, ↓thaw_f, ↓set_z, ↓set_s, ↓lock_n, ↓zs_tt, ↓zs_ll, ↓st_lst, ↓st_dct, ↓noHn_nil, ↓noHn_cons, ↓nhn_va, ↓nhn_ow, ↓nhn_lk, ↓nhn_un, ↓nhn_sc, ↓w_var, ↓w_con, ↓w_glo, ↓w_op, ↓w_bm, ↓w_chn, ↓w_and, ↓w_or, ↓w_not, ↓w_ife, ↓w_isi, ↓w_call, ↓w_callh, ↓w_meth, ↓w_eqo, ↓w_lz, ↓w_ds1, ↓w_ss, ↓w_make, ↓w_slc, ↓w_nop, ↓w_lc, ↓w_dsp, ↓w_pop, ↓w_popAt, ↓w_anil, ↓w_acons, ↓w_itS, ↓w_itX, ↓w_itR, ↓w_itE, ↓w_itZ, ↓t_and, ↓t_or, ↓t_not, ↓t_var, ↓t_con, ↓t_op, ↓t_chn, ↓t_isi, ↓t_call, ↓t_callh, ↓t_meth, ↓t_eqo, ↓hn_ex, ↓tr_bl, ↓tr_int, ↓tr_non, ↓tr_tup, ↓tr_lst, ↓o_bin, ↓o_cmp, ↓o_neg, ↓o_tup, ↓o_lst, ↓o_idx, ↓o_fld, ↓o_blt, ↓b_add, ↓b_addT, ↓b_addL, ↓b_addS, ↓b_sub, ↓b_mul, ↓b_mulT, ↓b_mulL, ↓b_div, ↓b_mod, ↓b_pow, ↓c_eq, ↓c_ne, ↓c_lt, ↓c_le, ↓c_gt, ↓c_ge, ↓c_is, ↓c_isn, ↓c_isB, ↓c_isnB, ↓isBl_t, ↓isBl_f, ↓c_inL, ↓c_inT, ↓c_inD, ↓c_niL, ↓c_niT, ↓c_niD, ↓x_dct, ↓fl_ins, ↓bl_len, ↓bl_all, ↓bl_any, ↓bl_sum, ↓bl_tupL, ↓bl_tupT, ↓bl_lstR, ↓bl_lstL, ↓bl_lstT, ↓bl_int, ↓bl_intB, ↓bl_abs, ↓bl_min2, ↓bl_max2, ↓bl_dict, ↓bl_rng, ↓bl_srt, ↓ln_lst, ↓ln_tup, ↓ln_dct, ↓sq_lst, ↓sq_tup, ↓m_get2, ↓m_get1, ↓m_ix, ↓h_get2, ↓h_get1, ↓h_ix, ↓i_lst, ↓i_tup, ↓i_rng, ↓r_one, ↓r_two, ↓g_nm, ↓g_tp, ↓g_nil, ↓g_cons, ↓gl_nil, ↓gl_cons, ↓ty_non_int, ↓ty_non_bool, ↓ty_non_tuple, ↓ty_non_list, ↓ty_non_str, ↓ty_non_dict, ↓tyd_non, ↓ty_non_own, ↓isn_non, ↓con_non, ↓ty_bl_int, ↓ty_bl_bool, ↓ty_bl_tuple, ↓ty_bl_list, ↓ty_bl_str, ↓ty_bl_dict, ↓tyd_bl, ↓ty_bl_own, ↓isn_bl, ↓con_bl, ↓ty_int_int, ↓ty_int_bool, ↓ty_int_tuple, ↓ty_int_list, ↓ty_int_str, ↓ty_int_dict, ↓tyd_int, ↓ty_int_own, ↓isn_int, ↓con_int, ↓ty_str_int, ↓ty_str_bool, ↓ty_str_tuple, ↓ty_str_list, ↓ty_str_str, ↓ty_str_dict, ↓tyd_str, ↓ty_str_own, ↓isn_str, ↓con_str, ↓ty_tup_int, ↓ty_tup_bool, ↓ty_tup_tuple, ↓ty_tup_list, ↓ty_tup_str, ↓ty_tup_dict, ↓tyd_tup, ↓ty_tup_own, ↓isn_tup, ↓con_tup, ↓ty_lst_int, ↓ty_lst_bool, ↓ty_lst_tuple, ↓ty_lst_list, ↓ty_lst_str, ↓ty_lst_dict, ↓tyd_lst, ↓ty_lst_own, ↓isn_lst, ↓con_lst, ↓ty_dct_int, ↓ty_dct_bool, ↓ty_dct_tuple, ↓ty_dct_list, ↓ty_dct_str, ↓ty_dct_dict, ↓tyd_dct, ↓ty_dct_own, ↓isn_dct, ↓con_dct, ↓ty_ins_int, ↓ty_ins_bool, ↓ty_ins_tuple, ↓ty_ins_list, ↓ty_ins_str, ↓ty_ins_dict, ↓tyd_ins, ↓ty_ins_own, ↓isn_ins, ↓con_ins, ↓hin_lst, ↓hin_dct, ↓fla_non, ↓fla_bl, ↓fla_int, ↓fla_str, ↓key_int, ↓key_str, ↓po_nop, ↓po_var, ↓po_con, ↓po_op, ↓sl_tup, ↓sl_lst, ↓s_nil, ↓s_seq, ↓s_asg, ↓s_par, ↓s_aug, ↓s_exp, ↓s_app, ↓s_ext, ↓s_sti, ↓s_ret, ↓s_retn, ↓s_ifs, ↓s_wh, ↓s_rs, ↓s_pas, ↓s_con, ↓s_brk, ↓s_nev, ↓s_mkh, ↓s_frX, ↓s_frS, ↓s_frR, ↓s_frE, ↓s_frZ, ↓p_nil, ↓p_cons, ↓ps_nil, ↓ps_cons, ↓po_nil, ↓po_cons, ↓pv_nil, ↓pv_cons, ↓ok_t, ↓ok_f, ↓mk_t, ↓mk_f, ↓sef_nil, ↓sef_cons, hard_ints, hard_map, hard_nats, Int.reduceToNat, eqv_lst_nil, shp_lst_nil, x_encP0, x_encP1,  ↓List.forall_mem_map,  List.isEmpty_map, Int.reduceLT, Int.reduceLE, ln_enc, i_enc, sq_enc, enc_hard, tr_enc, ty_enc_tuple, ty_enc_list, ty_enc_int, ty_enc_bool, tyd_enc, isn_enc, b_enc, eqv_int, eqv_bl, eqv_str, eqv_nn, eqv_tn, eqv_nt, eqv_in, eqv_ni, eqv_sn, eqv_ns, x_pair0, x_pair1, shp_int, shp_non, shp_bl, lcF_eq, enc_int, enc_nat, enc_bool, decide_eq_true_eq, Bool.not_eq_true', decide_eq_false_iff_not, Bool.not_not, ite_not, List.length_map, Option.some.injEq, exists_eq_left', exists_eq_left, exists_eq_right, exists_eq_right', and_true, true_and, true_implies, List.length_cons, List.length_nil, if_true, if_false, ite_true, ite_false, Bool.false_eq_true, reduceCtorEq, false_implies, List.cons_append, List.nil_append, vars, gvars, D.hard, hardAll, Bool.and_true, Bool.true_and, Bool.not_true, Bool.not_false, List.any_cons, List.any_nil, List.all_cons, List.all_nil, Bool.or_false, Bool.or_true, Bool.false_or, Bool.true_or, Bool.and_false, Bool.false_and, beq_self_eq_true, itSlot, List.getElem?_cons_succ, List.getElem?_cons_zero, D.bl.injEq, fldAt, exists_const, false_or, or_false, false_and, and_false, exists_false, Int.sub_zero, Int.toNat_natCast, Int.zero_add, zs_tt, zs_ll, zs_ee, st_lst, st_dct, exists_eq', D.lst.injEq, D.int.injEq, Option.isNone_none, Option.isNone_some, List.set_cons_zero, b_snoc, Nat.reduceAdd, Nat.reduceLeDiff, Nat.reduceSub, enQ])
def n__law_chain : List Str := ["hand", "many", "rows", "at"]
def p__law_chain : List Str := ["hand", "many"]
def b__law_chain : MS := (.seq (.asg (.nm 2) (.op (.blt .tuple) (.acons (.lc [3] (.op .tup (.acons (.op .tup (.acons (.con (.int 1)) (.acons (.con (.int 1)) .anil))) (.acons (.op .tup (.acons (.op (.bin .Mult) (.acons (.con (.int 10)) (.acons (.op (.bin .Sub) (.acons (.var 1) (.acons (.var 3) .anil))) .anil))) (.acons (.callh s__law_draw 0 (.acons (.con (.int 5)) .anil)) .anil))) .anil))) (.nm 3) (.itR (.acons (.var 1) .anil)) (.con (.bl true))) .anil))) (.seq (.ret (.op .tup (.acons (.con (.int 2)) (.acons (.var 2) (.acons (.op .tup (.acons (.op .tup (.acons (.con (.int 1)) (.acons (.op (.bin .Pow) (.acons (.con (.int 10)) (.acons (.con (.int 4)) .anil))) .anil))) (.acons (.op .tup (.acons (.con (.int 0)) (.acons (.callh s__law_any 0 (.acons (.op .lst (.acons (.con (.int 1)) (.acons (.con (.int 2)) (.acons (.con (.int 3)) (.acons (.con (.int 4)) (.acons (.con (.int 5)) .anil)))))) .anil)) .anil))) .anil))) .anil))))) .nil))
theorem w__law_chain : FW s__law_chain b__law_chain 2 := .hd rfl fun a c _ Q E ⟨n, e, ⟨n0, n1⟩, q⟩ => by
  subst e
  unfold b__law_chain
  simp only [List.map_cons, List.map_nil, List.replicate, List.cons_append, List.nil_append]
  walk_at "wl"
  refine ⟨rngOk_nat (by omega), by rw [List.length_range, lim_eq']; omega, ?_⟩
  refine lcGo_ex (fun d y => ∃ (i : Nat) (e : Int), d = .int i ∧ 0 ≤ e ∧ e ≤ 4 ∧ y = enc ((([1, 1] : List Int), ([10 * ((n : Int) - i), e] : List Int)) : Row)) (fun d hd K k => ?_) fun ys hl hy => ?_
  · obtain ⟨i, hi, rfl⟩ := List.mem_map.mp hd
    have hi := List.mem_range.mp hi
    walk_at "wl"
    exact ⟨.inl (by decide), fun e e0 e1 => k _ ⟨i, e, rfl, e0, by omega, rfl⟩⟩
  · rw [List.length_map, List.length_range] at hl
    obtain ⟨rs, e, hrl, hr⟩ := rows_ix (P := fun i r => ∃ e : Int, 0 ≤ e ∧ e ≤ 4 ∧ r = ([1, 1], [10 * ((n : Int) - i), e])) hl fun i y hi hy' => by
      obtain ⟨j, e, ej, e0, e1, ey⟩ := hy i (.int i) y (by simp [hi]) hy'
      obtain rfl : i = j := by injection ej with ej; omega
      exact ⟨_, ey, e, e0, e1, rfl⟩
    subst e
    have er : D.tup (rs.map enc) = enc rs := rfl
    rw [List.nil_append]
    walk_at "wl"
    rw [er]
    refine ⟨by decide, by decide, fun e he => ?_⟩
    have fin : ∀ z : Int, 1 ≤ z → z ≤ 5 → Q (.tup [.int 2, enc rs, .tup [.tup [.int 1, .int 10000], .tup [.int 0, .int z]]]) := fun z z0 z1 => q rs ([1, 10000], [0, z]) ⟨hrl, hr⟩ ⟨⟨rfl, fun y hy => by
      simp only [List.mem_cons, List.not_mem_nil, or_false] at hy
      omega⟩, rfl, fun y hy => by
      simp only [List.mem_cons, List.not_mem_nil, or_false] at hy
      omega⟩
    simp only [List.mem_cons, List.not_mem_nil, or_false] at he
    rcases he with rfl | rfl | rfl | rfl | rfl <;> exact fin _ (by decide) (by decide)
local macro_rules | `(tactic| walk_at "wl") => `(tactic| simp only [a__law_draw, c__law_draw, a__law_any, c__law_any, c__law_anyE, a__law_is_fitting, a__law_sameN, a_may_choose, a__law_choice, c__law_choice, a__law_rows, a__law_is_ring, a__law_is_told, c__law_is_told, a_forbids, c_forbids, optD_isN, optD_hard, a__law_chain, c__law_chain, recD_hard, a_m_Record, fs_m_Record, n_m_Record, ↓gS_va, ↓gS_ow, ↓gS_lk, ↓gS_s, ↓gO_ow, ↓gO_s, ↓f1_va, ↓f1_ow, ↓f1_lk, ↓f1_hn, ↓f1_sc, ↓f1_un, ↓f1_s, ↓f1_nil, ↓frz_nil, ↓frz_cons, ↓wip_nil, ↓wip_cons, ↓thaw_t, ↓thaw_f, ↓set_z, ↓set_s, ↓lock_n, ↓zs_tt, ↓zs_ll, ↓st_lst, ↓st_dct, ↓noHn_nil, ↓noHn_cons, ↓nhn_va, ↓nhn_ow, ↓nhn_lk, ↓nhn_un, ↓nhn_sc, ↓w_var, ↓w_con, ↓w_glo, ↓w_op, ↓w_bm, ↓w_chn, ↓w_and, ↓w_or, ↓w_not, ↓w_ife, ↓w_isi, ↓w_call, ↓w_callh, ↓w_meth, ↓w_eqo, ↓w_lz, ↓w_ds1, ↓w_ss, ↓w_make, ↓w_slc, ↓w_nop, ↓w_lc, ↓w_dsp, ↓w_pop, ↓w_popAt, ↓w_anil, ↓w_acons, ↓w_itS, ↓w_itX, ↓w_itR, ↓w_itE, ↓w_itZ, ↓t_and, ↓t_or, ↓t_not, ↓t_var, ↓t_con, ↓t_op, ↓t_chn, ↓t_isi, ↓t_call, ↓t_callh, ↓t_meth, ↓t_eqo, ↓hn_ex, ↓tr_bl, ↓tr_int, ↓tr_non, ↓tr_tup, ↓tr_lst, ↓o_bin, ↓o_cmp, ↓o_neg, ↓o_tup, ↓o_lst, ↓o_idx, ↓o_fld, ↓o_blt, ↓b_add, ↓b_addT, ↓b_addL, ↓b_addS, ↓b_sub, ↓b_mul, ↓b_mulT, ↓b_mulL, ↓b_div, ↓b_mod, ↓b_pow, ↓c_eq, ↓c_ne, ↓c_lt, ↓c_le, ↓c_gt, ↓c_ge, ↓c_is, ↓c_isn, ↓c_isB, ↓c_isnB, ↓isBl_t, ↓isBl_f, ↓c_inL, ↓c_inT, ↓c_inD, ↓c_niL, ↓c_niT, ↓c_niD, ↓x_dct, ↓fl_ins, ↓bl_len, ↓bl_all, ↓bl_any, ↓bl_sum, ↓bl_tupL, ↓bl_tupT, ↓bl_lstR, ↓bl_lstL, ↓bl_lstT, ↓bl_int, ↓bl_intB, ↓bl_abs, ↓bl_min2, ↓bl_max2, ↓bl_dict, ↓bl_rng, ↓bl_srt, ↓ln_lst, ↓ln_tup, ↓ln_dct, ↓sq_lst, ↓sq_tup, ↓m_get2, ↓m_get1, ↓m_ix, ↓h_get2, ↓h_get1, ↓h_ix, ↓i_lst, ↓i_tup, ↓i_rng, ↓r_one, ↓r_two, ↓g_nm, ↓g_tp, ↓g_nil, ↓g_cons, ↓gl_nil, ↓gl_cons, ↓ty_non_int, ↓ty_non_bool, ↓ty_non_tuple, ↓ty_non_list, ↓ty_non_str, ↓ty_non_dict, ↓tyd_non, ↓ty_non_own, ↓isn_non, ↓con_non, ↓ty_bl_int, ↓ty_bl_bool, ↓ty_bl_tuple, ↓ty_bl_list, ↓ty_bl_str, ↓ty_bl_dict, ↓tyd_bl, ↓ty_bl_own, ↓isn_bl, ↓con_bl, ↓ty_int_int, ↓ty_int_bool, ↓ty_int_tuple, ↓ty_int_list, ↓ty_int_str, ↓ty_int_dict, ↓tyd_int, ↓ty_int_own, ↓isn_int, ↓con_int, ↓ty_str_int, ↓ty_str_bool, ↓ty_str_tuple, ↓ty_str_list, ↓ty_str_str, ↓ty_str_dict, ↓tyd_str, ↓ty_str_own, ↓isn_str, ↓con_str, ↓ty_tup_int, ↓ty_tup_bool, ↓ty_tup_tuple, ↓ty_tup_list, ↓ty_tup_str, ↓ty_tup_dict, ↓tyd_tup, ↓ty_tup_own, ↓isn_tup, ↓con_tup, ↓ty_lst_int, ↓ty_lst_bool, ↓ty_lst_tuple, ↓ty_lst_list, ↓ty_lst_str, ↓ty_lst_dict, ↓tyd_lst, ↓ty_lst_own, ↓isn_lst, ↓con_lst, ↓ty_dct_int, ↓ty_dct_bool, ↓ty_dct_tuple, ↓ty_dct_list, ↓ty_dct_str, ↓ty_dct_dict, ↓tyd_dct, ↓ty_dct_own, ↓isn_dct, ↓con_dct, ↓ty_ins_int, ↓ty_ins_bool, ↓ty_ins_tuple, ↓ty_ins_list, ↓ty_ins_str, ↓ty_ins_dict, ↓tyd_ins, ↓ty_ins_own, ↓isn_ins, ↓con_ins, ↓hin_lst, ↓hin_dct, ↓fla_non, ↓fla_bl, ↓fla_int, ↓fla_str, ↓key_int, ↓key_str, ↓po_nop, ↓po_var, ↓po_con, ↓po_op, ↓sl_tup, ↓sl_lst, ↓s_nil, ↓s_seq, ↓s_asg, ↓s_par, ↓s_aug, ↓s_exp, ↓s_app, ↓s_ext, ↓s_sti, ↓s_ret, ↓s_retn, ↓s_ifs, ↓s_wh, ↓s_rs, ↓s_pas, ↓s_con, ↓s_brk, ↓s_nev, ↓s_mkh, ↓s_frX, ↓s_frS, ↓s_frR, ↓s_frE, ↓s_frZ, ↓p_nil, ↓p_cons, ↓ps_nil, ↓ps_cons, ↓po_nil, ↓po_cons, ↓pv_nil, ↓pv_cons, ↓ok_t, ↓ok_f, ↓mk_t, ↓mk_f, ↓sef_nil, ↓sef_cons, hard_ints, hard_map, hard_nats, Int.reduceToNat, eqv_lst_nil, shp_lst_nil, x_encP0, x_encP1,  ↓List.forall_mem_map,  List.isEmpty_map, Int.reduceLT, Int.reduceLE, ln_enc, i_enc, sq_enc, enc_hard, tr_enc, ty_enc_tuple, ty_enc_list, ty_enc_int, ty_enc_bool, tyd_enc, isn_enc, b_enc, eqv_int, eqv_bl, eqv_str, eqv_nn, eqv_tn, eqv_nt, eqv_in, eqv_ni, eqv_sn, eqv_ns, x_pair0, x_pair1, shp_int, shp_non, shp_bl, lcF_eq, enc_int, enc_nat, enc_bool, decide_eq_true_eq, Bool.not_eq_true', decide_eq_false_iff_not, Bool.not_not, ite_not, List.length_map, Option.some.injEq, exists_eq_left', exists_eq_left, exists_eq_right, exists_eq_right', and_true, true_and, true_implies, List.length_cons, List.length_nil, if_true, if_false, ite_true, ite_false, Bool.false_eq_true, reduceCtorEq, false_implies, List.cons_append, List.nil_append, vars, gvars, D.hard, hardAll, Bool.and_true, Bool.true_and, Bool.not_true, Bool.not_false, List.any_cons, List.any_nil, List.all_cons, List.all_nil, Bool.or_false, Bool.or_true, Bool.false_or, Bool.true_or, Bool.and_false, Bool.false_and, beq_self_eq_true, itSlot, List.getElem?_cons_succ, List.getElem?_cons_zero, D.bl.injEq, fldAt, exists_const, false_or, or_false, false_and, and_false, exists_false, Int.sub_zero, Int.toNat_natCast, Int.zero_add, zs_tt, zs_ll, zs_ee, st_lst, st_dct, exists_eq', D.lst.injEq, D.int.injEq, Option.isNone_none, Option.isNone_some, List.set_cons_zero, b_snoc, Nat.reduceAdd, Nat.reduceLeDiff, Nat.reduceSub, enQ])
def n_law : List Str := ["script", "hand", "known", "turn", "goods", "great", "rows", "record", "again", "new", "many"]
def p_law : List Str := ["script"]
def b_law : MS := (.seq (.asg (.nm 2) (.make m_Record (.acons (.con (.int 2)) (.acons (.op .tup (.acons (.op .tup (.acons (.op .tup (.acons (.con (.int 2)) (.acons (.con (.int 1)) .anil))) (.acons (.op .tup (.acons (.con (.int 4)) (.acons (.con (.int 0)) .anil))) .anil))) .anil)) .anil)))) (.seq (.ifs (.not (.call s__law_is_ring (.acons (.op .tup (.acons (.op .tup (.acons (.op .tup (.acons (.con (.int 2)) (.acons (.con (.int 1)) .anil))) (.acons (.op .tup (.acons (.con (.int 4)) (.acons (.con (.int 0)) .anil))) .anil))) (.acons (.op .tup (.acons (.op .tup (.acons (.con (.int 1)) (.acons (.con (.int 2)) .anil))) (.acons (.op .tup (.acons (.con (.int 0)) (.acons (.con (.int 4)) .anil))) .anil))) .anil))) (.acons (.call s_forbids (.acons (.var 2) (.acons (.op .tup (.acons (.op .tup (.acons (.con (.int 1)) (.acons (.con (.int 2)) .anil))) (.acons (.op .tup (.acons (.con (.int 0)) (.acons (.con (.int 4)) .anil))) .anil))) .anil))) .anil)))) (.seq (.ret (.con (.bl false))) .nil) .nil) (.seq (.ifs (.or (.op (.cmp .IsNot) (.acons (.call s_forbids (.acons (.var 2) (.acons (.op .tup (.acons (.op .tup (.acons (.con (.int 1)) (.acons (.con (.int 2)) .anil))) (.acons (.op .tup (.acons (.con (.int 8)) (.acons (.con (.int 0)) .anil))) .anil))) .anil))) (.acons (.con .non) .anil))) (.op (.cmp .IsNot) (.acons (.call s_forbids (.acons (.make m_Record (.acons (.con (.int 2)) (.acons (.op .tup .anil) .anil))) (.acons (.op .tup (.acons (.op .tup (.acons (.con (.int 1)) (.acons (.con (.int 1)) .anil))) (.acons (.op .tup (.acons (.con (.int 0)) (.acons (.con (.int 0)) .anil))) .anil))) .anil))) (.acons (.con .non) .anil)))) (.seq (.ret (.con (.bl false))) .nil) .nil) (.seq (.fr (.nm 3) (.itR (.acons (.con (.int 5)) .anil)) (.seq (.par [(4, false, (.op (.bin .Add) (.acons (.con (.int 1)) (.acons (.callh s__law_draw 1 (.acons (.callh s__law_any 1 (.acons (.op .lst (.acons (.con (.int 2)) (.acons (.con (.int 3)) (.acons (.con (.int 6)) .anil)))) .anil)) .anil)) .anil)))), (5, false, (.callh s__law_any 1 (.acons (.op .lst (.acons (.con (.int 3)) (.acons (.con (.int 9)) (.acons (.op (.bin .Pow) (.acons (.con (.int 10)) (.acons (.con (.int 6)) .anil))) .anil)))) .anil)))]) (.seq (.asg (.nm 6) (.callh s__law_rows 1 (.acons (.var 4) (.acons (.callh s__law_any 1 (.acons (.op .lst (.acons (.con (.int 4)) (.acons (.con (.int 9)) (.acons (.con (.int 19)) .anil)))) .anil)) (.acons (.var 5) .anil))))) (.seq (.asg (.nm 7) (.make m_Record (.acons (.var 4) (.acons (.var 6) .anil)))) (.seq (.fr (.nm 8) (.itR (.acons (.con (.int 6)) .anil)) (.seq (.asg (.nm 9) (.callh s__law_choice 1 (.acons (.var 4) (.acons (.var 5) .anil)))) (.seq (.ifs (.and (.op (.cmp .Gt) (.acons (.op (.blt .len) (.acons (.var 6) .anil)) (.acons (.con (.int 0)) .anil))) (.op (.cmp .Eq) (.acons (.callh s__law_draw 1 (.acons (.con (.int 2)) .anil)) (.acons (.con (.int 0)) .anil)))) (.seq (.asg (.nm 9) (.op .tup (.acons (.op .idx (.acons (.var 9) (.acons (.con (.int 0)) .anil))) (.acons (.op (.blt .tuple) (.acons (.lc [10] (.op (.bin .Add) (.acons (.var 10) (.acons (.callh s__law_draw 1 (.acons (.con (.int 2)) .anil)) .anil))) (.nm 10) (.itS (.op .idx (.acons (.callh s__law_any 1 (.acons (.var 6) .anil)) (.acons (.con (.int 1)) .anil)))) (.con (.bl true))) .anil)) .anil)))) (.seq (.asg (.nm 9) (.op .tup (.acons (.op .idx (.acons (.var 9) (.acons (.con (.int 0)) .anil))) (.acons (.op (.blt .tuple) (.acons (.lc [10] (.op (.blt .min2) (.acons (.op (.bin .Pow) (.acons (.con (.int 10)) (.acons (.con (.int 6)) .anil))) (.acons (.var 10) .anil))) (.nm 10) (.itS (.op .idx (.acons (.var 9) (.acons (.con (.int 1)) .anil)))) (.con (.bl true))) .anil)) .anil)))) .nil)) .nil) (.seq (.ifs (.not (.call s__law_is_told (.acons (.var 7) (.acons (.var 6) (.acons (.var 9) .anil))))) (.seq (.ret (.con (.bl false))) .nil) .nil) .nil)))) .nil))))) (.seq (.asg (.tp (.gcons (.nm 4) (.gcons (.nm 6) (.gcons (.nm 9) .gnil)))) (.callh s__law_chain 1 (.acons (.op (.bin .Add) (.acons (.con (.int 2)) (.acons (.callh s__law_draw 1 (.acons (.con (.int 18)) .anil)) .anil))) .anil))) (.seq (.ret (.and (.call s__law_is_fitting (.acons (.var 6) .anil)) (.call s__law_is_told (.acons (.make m_Record (.acons (.var 4) (.acons (.var 6) .anil))) (.acons (.var 6) (.acons (.var 9) .anil)))))) .nil))))))
def toldS (E : En) (hd fin : List Sl → Prop) : Prop := True
theorem w_law (a c : Nat) (ns : List Int) : WS b_law { nx := fun _ => False, rt := fun d _ => d = .bl true, ex := noX } (.va (.scr ns) :: .hn a c :: List.replicate (n_law.length - 2) .un) := by
  unfold b_law
  have e : n_law.length - 2 = 9 := rfl
  rw [e]
  simp only [List.replicate]
  walk_at "wl"
  have e1 : D.tup [D.tup [D.tup [.int 2, .int 1], D.tup [.int 4, .int 0]]] = enc ([([2, 1], [4, 0])] : Rows) := rfl
  have ok1 : OkR 2 [([2, 1], [4, 0])] := okRB_ok (by decide)
  rw [e1, c_m_Record]
  refine ⟨ok1, rfl, ?_⟩
  have eR : ∀ (g : Int) (rs : Rows), D.ins ("Record" : Str) ["goods", "rows"] [D.int g, enc rs] = recD g rs := fun _ _ => rfl
  have eN : ∀ (a b c d : Int), D.tup [D.tup [.int a, .int b], D.tup [.int c, .int d]] = enc (([a, b], [c, d]) : Row) := fun _ _ _ _ => rfl
  rw [eR, eN, c_forbids]
  have rowk : ∀ (a b c d : Int), okRB 2 [([a, b], [c, d])] = true → okRow 2 ([a, b], [c, d]) := fun _ _ _ _ h => okRow_B h
  refine ⟨⟨⟨ok1, rowk _ _ _ _ (by decide), by decide⟩, fun z => ?_⟩, fun w hw => ?_⟩
  · rw [← hasRB_iff] at z
    revert z
    decide +kernel
  have e2 : D.tup [D.tup [D.tup [.int 2, .int 1], D.tup [.int 4, .int 0]], enc (([1, 2], [0, 4]) : Row)] = rwD false ([([2, 1], [4, 0])] ++ [([1, 2], [0, 4])]) := rfl
  have hf1 : ¬ HasR [([2, 1], [4, 0])] := fun z => by
    rw [← hasRB_iff] at z
    revert z
    decide +kernel
  rw [e2]
  refine ring_step (okRB_ok (by decide)) ok1 hf1 hw ((hasRB_iff _).mp (by decide +kernel)) ?_
  rw [tr_bl, if_neg (by decide), eN, c_forbids]
  refine ⟨⟨⟨ok1, rowk _ _ _ _ (by decide), by decide⟩, hf1⟩, fun w hw => ?_⟩
  have hw2 : w.isNone = true := (ringRes_R hw).mpr fun z => by
    rw [← hasRB_iff] at z
    revert z
    decide +kernel
  have e0 : D.tup [] = enc ([] : Rows) := rfl
  have ok0 : OkR 2 [] := okRB_ok (by decide)
  rw [optD_isN, hw2, if_neg (by decide), e0, c_m_Record]
  refine ⟨ok0, rfl, ?_⟩
  rw [eR, eN, c_forbids]
  refine ⟨⟨⟨ok0, rowk _ _ _ _ (by decide), by decide⟩, noRing_nil⟩, fun w hw => ?_⟩
  have hw3 : w.isNone = true := (ringRes_R hw).mpr fun z => by
    rw [← hasRB_iff] at z
    revert z
    decide +kernel
  rw [optD_isN, hw3, if_neg (by decide)]
  generalize Sl.va (recD 2 [([2, 1], [4, 0])]) = x2
  refine ⟨rngOk_nat (by decide), ?_⟩
  refine frGo_rng (fun _ S => ∃ x2 x3 x4 x5 x6 x7 x8 x9, S = [.va (.scr ns), .hn a c, x2, x3, x4, x5, x6, x7, x8, x9, .un]) ⟨_, _, _, _, _, _, _, _, rfl⟩ ?_ ?_
  · rintro t S N _ ⟨x2, x3, x4, x5, x6, x7, x8, x9, rfl⟩ kN
    walk_at "wl"
    refine ⟨by decide, fun e he => ?_⟩
    obtain ⟨z, rfl, z0, z1⟩ : ∃ z : Int, e = .int z ∧ 1 ≤ z ∧ z ≤ 6 := by
      simp only [List.mem_cons, List.not_mem_nil, or_false] at he
      rcases he with rfl | rfl | rfl <;> exact ⟨_, rfl, by decide, by decide⟩
    walk_at "wl"
    refine ⟨by omega, by omega, fun k k0 k1 => ⟨by decide, by decide, fun e he => ?_⟩⟩
    obtain ⟨m, rfl, m0, m1⟩ : ∃ m : Int, e = .int m ∧ 1 ≤ m ∧ m ≤ 1000000 := by
      simp only [List.mem_cons, List.not_mem_nil, or_false] at he
      rcases he with rfl | rfl | rfl <;> exact ⟨_, rfl, by decide, by decide⟩
    obtain ⟨g, hg⟩ : ∃ g, g = 1 + k := ⟨_, rfl⟩
    rw [← hg]
    walk_at "wl"
    refine ⟨by decide, fun e he => ?_⟩
    obtain ⟨n, rfl, n1⟩ : ∃ n : Nat, e = .int n ∧ n ≤ 19 := by
      simp only [List.mem_cons, List.not_mem_nil, or_false] at he
      rcases he with rfl | rfl | rfl
      · exact ⟨4, rfl, by decide⟩
      · exact ⟨9, rfl, by decide⟩
      · exact ⟨19, rfl, by decide⟩
    rw [c__law_rows]
    refine ⟨⟨by omega, by omega, by omega, m0, m1⟩, fun rs ⟨hrl, hr, hf⟩ => ?_⟩
    have hg' : 1 ≤ g ∧ g ≤ 6 := by omega
    have ok3 : OkR g rs := okR_of hg'.1 hg'.2 (by omega) m1 hr
    walk_at "wl"
    rw [c_m_Record]
    refine ⟨ok3, rfl, ?_⟩
    rw [eR]
    refine ⟨rngOk_nat (by decide), ?_⟩
    refine frGo_rng (fun _ S => ∃ x8 x9, S = [.va (.scr ns), .hn a c, x2, .va (.int (t : Nat)), .va (.int g), .va (.int m), .va (enc rs), .va (recD g rs), x8, x9, .un]) ⟨_, _, rfl⟩ ?_ ?_
    · rintro u S N2 _ ⟨x8, x9, rfl⟩ kN2
      walk_at "wl"
      refine ⟨by omega, fun r hr0 => ?_⟩
      refine ⟨by rw [lim_eq']; omega, ?_⟩
      by_cases hp : 0 < rs.length
      · rw [if_pos (by omega)]
        intro k k0 k1
        by_cases hk : k = 0
        · rw [if_pos hk]
          refine ⟨⟨by omega, by omega⟩, fun x hx => ⟨?_, ?_⟩⟩
          · have := (hr x hx).2.1
            rw [lim_eq']; omega
          refine lcGo_ex (fun _ y => ∃ k : Int, y = .int k ∧ 0 ≤ k ∧ k ≤ 1000001) (fun d hd K k => ?_) fun ys hl hy => ?_
          · obtain ⟨z, hz, rfl⟩ := List.mem_map.mp hd
            have hzz := (hr x hx).2.2 z hz
            walk_at "wl"
            intro k' k0 k1
            exact k _ ⟨_, rfl, by omega, by omega⟩
          · obtain ⟨us, e, hl2, h2⟩ := ints_ex hl hy
            subst e
            have eu : D.tup (us.map D.int) = enc us := rfl
            rw [List.nil_append, eu]
            rw [List.length_map] at hl2
            walk_at "wl"
            refine ⟨by have := (hr x hx).2.1; rw [lim_eq']; omega, lcGo_mapF (fun u : Int => .int (if u < 1000000 then u else 1000000)) (fun u hu K k => ?_) ?_⟩
            · walk_at "wl"
              exact ⟨by decide, k⟩
            · rw [List.nil_append]
              have ev : ∀ us : List Int, (us.map fun u : Int => D.int (if u < 1000000 then u else 1000000)) = (us.map fun u : Int => if u < 1000000 then u else 1000000).map D.int := fun us => by rw [List.map_map]; rfl
              rw [ev]
              obtain ⟨vs, hv⟩ : ∃ vs, vs = us.map fun u : Int => if u < 1000000 then u else 1000000 := ⟨_, rfl⟩
              rw [← hv]
              have eu : D.tup (vs.map D.int) = enc vs := rfl
              have er : D.tup [enc r.1, enc vs] = enc ((r.1, vs) : Row) := rfl
              rw [eu]
              walk_at "wl"
              rw [er, c__law_is_told]
              refine ⟨⟨⟨ok3, ⟨(okRow_of m1 hr0).1, ?_, ?_⟩, by omega⟩, hf⟩, ?_⟩
              · rw [hv, List.length_map, hl2]
                exact (hr x hx).2.1
              · intro y hy
                rw [hv] at hy
                obtain ⟨u, hu, rfl⟩ := List.mem_map.mp hy
                have := h2 u hu
                split <;> omega
              · rw [tr_bl, if_neg (by decide)]
                exact kN2 _ ⟨_, _, rfl⟩
        · rw [if_neg hk]
          refine ⟨⟨⟨ok3, okRow_of m1 hr0, by omega⟩, hf⟩, ?_⟩
          exact kN2 _ ⟨_, _, rfl⟩
      · rw [if_neg (by omega)]
        refine ⟨⟨⟨ok3, okRow_of m1 hr0, by omega⟩, hf⟩, ?_⟩
        exact kN2 _ ⟨_, _, rfl⟩
    · rintro S ⟨x8, x9, rfl⟩
      walk_at "wl"
      exact kN _ ⟨_, _, _, _, _, _, _, _, rfl⟩
  · rintro S ⟨x2, x3, x4, x5, x6, x7, x8, x9, rfl⟩
    walk_at "wl"
    intro k k0 k1
    obtain ⟨n, rfl⟩ := Int.eq_ofNat_of_zero_le k0
    rw [show (2 : Int) + (n : Int) = ((2 + n : Nat) : Int) by omega, c__law_chain]
    refine ⟨by omega, fun rs r hc hr => ?_⟩
    have hn : 2 + n ≤ 19 := by omega
    have okc := ch_ok hc hn
    walk_at "wl"
    rw [rwD_f rs]
    refine c__law_is_fitting okc fun b hb => ?_
    have : b = true := hb.mpr (ch_no hc hn)
    subst this
    walk_at "wl"
    rw [← rwD_f rs, c_m_Record]
    refine ⟨okc, rfl, ?_⟩
    rw [eR, c__law_is_told]
    exact ⟨⟨⟨okc, hr, by rw [hc.1]; omega⟩, ch_no hc hn⟩, rfl⟩
end Pk
set_option maxHeartbeats 0
namespace Hd
open PySem PySem.Spec PyProof.Rows L2
def top (i : Nat) : Stmt := PySem.Challenge.pw_shownwants_k13_whole_forbids.main.body.getD i (.Pass ⟨0, 0, 0, 0⟩)
def d0 : He.DefD := ⟨("_wall", none), "_wall", "_wall", defArgs (top 0), defBody (top 0), defScope (top 0), [], []⟩ 
def d1 : He.DefD := ⟨("is_int", none), "is_int", "is_int", defArgs (top 2), defBody (top 2), defScope (top 2), [], []⟩ 
def d2 : He.DefD := ⟨("is_within", none), "is_within", "is_within", defArgs (top 3), defBody (top 3), defScope (top 3), [], []⟩ 
def d3 : He.DefD := ⟨("BadRecord", some "__init__"), "__init__", "BadRecord.__init__", defArgs (inClass (top 6) 0), defBody (inClass (top 6) 0), defScope (inClass (top 6) 0), [], []⟩ 
def d4 : He.DefD := ⟨("TooMany", some "__init__"), "__init__", "TooMany.__init__", defArgs (inClass (top 10) 0), defBody (inClass (top 10) 0), defScope (inClass (top 10) 0), [], []⟩ 
def d5 : He.DefD := ⟨("check_goods", none), "check_goods", "check_goods", defArgs (top 18), defBody (top 18), defScope (top 18), [], []⟩ 
def d6 : He.DefD := ⟨("is_prices", none), "is_prices", "is_prices", defArgs (top 19), defBody (top 19), defScope (top 19), [], []⟩ 
def d7 : He.DefD := ⟨("is_bundle", none), "is_bundle", "is_bundle", defArgs (top 20), defBody (top 20), defScope (top 20), [], []⟩ 
def d8 : He.DefD := ⟨("is_row", none), "is_row", "is_row", defArgs (top 21), defBody (top 21), defScope (top 21), [], []⟩ 
def d9 : He.DefD := ⟨("Record", some "__init__"), "__init__", "Record.__init__", defArgs (inClass (top 22) 0), defBody (inClass (top 22) 0), defScope (inClass (top 22) 0), [], []⟩ 
def d10 : He.DefD := ⟨("Record", some "__eq__"), "__eq__", "Record.__eq__", defArgs (inClass (top 22) 1), defBody (inClass (top 22) 1), defScope (inClass (top 22) 1), [], []⟩ 
def d11 : He.DefD := ⟨("check_record", none), "check_record", "check_record", defArgs (top 23), defBody (top 23), defScope (top 23), [], []⟩ 
def d12 : He.DefD := ⟨("worth_at", none), "worth_at", "worth_at", defArgs (top 24), defBody (top 24), defScope (top 24), [], []⟩ 
def d13 : He.DefD := ⟨("cost_of", none), "cost_of", "cost_of", defArgs (top 25), defBody (top 25), defScope (top 25), [], []⟩ 
def d14 : He.DefD := ⟨("word_of", none), "word_of", "word_of", defArgs (top 26), defBody (top 26), defScope (top 26), [], []⟩ 
def d15 : He.DefD := ⟨("Showing", some "__init__"), "__init__", "Showing.__init__", defArgs (inClass (top 27) 0), defBody (inClass (top 27) 0), defScope (inClass (top 27) 0), [], []⟩ 
def d16 : He.DefD := ⟨("Showing", some "behind"), "behind", "Showing.behind", defArgs (inClass (top 27) 1), defBody (inClass (top 27) 1), defScope (inClass (top 27) 1), [], []⟩ 
def d17 : He.DefD := ⟨("Showing", some "way"), "way", "Showing.way", defArgs (inClass (top 27) 2), defBody (inClass (top 27) 2), defScope (inClass (top 27) 2), [], []⟩ 
def d18 : He.DefD := ⟨("Showing", some "ring"), "ring", "Showing.ring", defArgs (inClass (top 27) 3), defBody (inClass (top 27) 3), defScope (inClass (top 27) 3), [], []⟩ 
def d19 : He.DefD := ⟨("Showing", some "is_ring"), "is_ring", "Showing.is_ring", defArgs (inClass (top 27) 4), defBody (inClass (top 27) 4), defScope (inClass (top 27) 4), [], []⟩ 
def d20 : He.DefD := ⟨("Showing", some "reached"), "reached", "Showing.reached", defArgs (inClass (top 27) 5), defBody (inClass (top 27) 5), defScope (inClass (top 27) 5), [], []⟩ 
def d21 : He.DefD := ⟨("showing_of", none), "showing_of", "showing_of", defArgs (top 28), defBody (top 28), defScope (top 28), [], []⟩ 
def d22 : He.DefD := ⟨("check_fit", none), "check_fit", "check_fit", defArgs (top 29), defBody (top 29), defScope (top 29), [], []⟩ 
def d23 : He.DefD := ⟨("check_new", none), "check_new", "check_new", defArgs (top 31), defBody (top 31), defScope (top 31), [], []⟩ 
def d24 : He.DefD := ⟨("check_room", none), "check_room", "check_room", defArgs (top 32), defBody (top 32), defScope (top 32), [], []⟩ 
def d25 : He.DefD := ⟨("put_behind", none), "put_behind", "put_behind", defArgs (top 33), defBody (top 33), defScope (top 33), [], []⟩ 
def d26 : He.DefD := ⟨("may_be", none), "may_be", "may_be", defArgs (top 34), defBody (top 34), defScope (top 34), [], []⟩ 
def d27 : He.DefD := ⟨("may_choose", none), "may_choose", "may_choose", defArgs (top 35), defBody (top 35), defScope (top 35), [], []⟩ 
def d28 : He.DefD := ⟨("forbids", none), "forbids", "forbids", defArgs (top 36), defBody (top 36), defScope (top 36), [], []⟩ 
def d29 : He.DefD := ⟨("_law_hand", none), "_law_hand", "_law_hand", defArgs (top 38), defBody (top 38), defScope (top 38), [], []⟩ 
def d30 : He.DefD := ⟨("_law_draw", none), "_law_draw", "_law_draw", defArgs (top 39), defBody (top 39), defScope (top 39), [], []⟩ 
def d31 : He.DefD := ⟨("_law_any", none), "_law_any", "_law_any", defArgs (top 40), defBody (top 40), defScope (top 40), [], []⟩ 
def d32 : He.DefD := ⟨("_law_same", none), "_law_same", "_law_same", defArgs (top 41), defBody (top 41), defScope (top 41), [], []⟩ 
def d33 : He.DefD := ⟨("_law_bill", none), "_law_bill", "_law_bill", defArgs (top 42), defBody (top 42), defScope (top 42), [], []⟩ 
def d34 : He.DefD := ⟨("_law_shows", none), "_law_shows", "_law_shows", defArgs (top 43), defBody (top 43), defScope (top 43), [], []⟩ 
def d35 : He.DefD := ⟨("_law_nexts", none), "_law_nexts", "_law_nexts", defArgs (top 44), defBody (top 44), defScope (top 44), [], []⟩ 
def d36 : He.DefD := ⟨("_law_all_behind", none), "_law_all_behind", "_law_all_behind", defArgs (top 45), defBody (top 45), defScope (top 45), [], []⟩ 
def d37 : He.DefD := ⟨("_law_is_fitting", none), "_law_is_fitting", "_law_is_fitting", defArgs (top 46), defBody (top 46), defScope (top 46), [], []⟩ 
def d38 : He.DefD := ⟨("_law_choice", none), "_law_choice", "_law_choice", defArgs (top 47), defBody (top 47), defScope (top 47), [], []⟩ 
def d39 : He.DefD := ⟨("_law_rows", none), "_law_rows", "_law_rows", defArgs (top 48), defBody (top 48), defScope (top 48), [], []⟩ 
def d40 : He.DefD := ⟨("_law_is_ring", none), "_law_is_ring", "_law_is_ring", defArgs (top 49), defBody (top 49), defScope (top 49), [], []⟩ 
def d41 : He.DefD := ⟨("_law_chain", none), "_law_chain", "_law_chain", defArgs (top 50), defBody (top 50), defScope (top 50), [], []⟩ 
def d42 : He.DefD := ⟨("_law_is_told", none), "_law_is_told", "_law_is_told", defArgs (top 51), defBody (top 51), defScope (top 51), [], []⟩ 
def d43 : He.DefD := ⟨("law", none), "law", "law", defArgs (top 52), defBody (top 52), defScope (top 52), [], []⟩ 
def fn : List He.DefD := [d0, d1, d2, d3, d4, d5, d6, d7, d8, d9, d10, d11, d12, d13, d14, d15, d16, d17, d18, d19, d20, d21, d22, d23, d24, d25, d26, d27, d28, d29, d30, d31, d32, d33, d34, d35, d36, d37, d38, d39, d40, d41, d42, d43]
def fa0 : List He.Fa := [.glo "_wall", .glo "is_int", .glo "is_within", .glo "check_goods", .glo "is_prices", .glo "is_bundle", .glo "is_row", .glo "check_record", .glo "worth_at", .glo "cost_of", .glo "word_of", .glo "showing_of", .glo "check_fit", .glo "check_new", .glo "check_room", .glo "put_behind", .glo "may_be", .glo "may_choose", .glo "forbids", .glo "_law_hand", .glo "_law_draw", .glo "_law_any", .glo "_law_same", .glo "_law_bill", .glo "_law_shows", .glo "_law_nexts", .glo "_law_all_behind", .glo "_law_is_fitting", .glo "_law_choice", .glo "_law_rows"]
def fa1 : List He.Fa := [.glo "_law_is_ring", .glo "_law_chain", .glo "_law_is_told", .glo "law", .glo "WantError", .glo "BadRecord", .glo "NoFit", .glo "NoRecord", .glo "NoRow", .glo "TooMany", .glo "Record", .mkr "Record", .noat "Record" "goods", .noat "Record" "rows", .meth "Record" "__eq__", .glo "Showing", .mkr "Showing", .noat "Showing" "words", .noat "Showing" "many", .meth "Showing" "behind", .meth "Showing" "way", .meth "Showing" "ring", .meth "Showing" "is_ring", .meth "Showing" "reached", .int "MOST_GOODS" 6, .int "MOST_PRICE" 1000000, .int "MOST_UNITS" 1000000, .int "MOST_ROWS" 20, .str "BETTER" "better", .str "SO" "so"]
def fa : List He.Fa := fa0 ++ fa1
def cs : List PySem.Str := ["Record", "Showing"]
def loose0 : List PySem.Str := ["_wall", "is_int", "is_within", "WantError", "BadRecord", "NoFit", "NoRecord", "NoRow", "TooMany", "MOST_GOODS", "MOST_PRICE", "MOST_UNITS", "MOST_ROWS", "BETTER", "SO", "check_goods", "is_prices", "is_bundle", "is_row", "Record", "check_record", "worth_at", "cost_of", "word_of", "Showing", "showing_of", "check_fit", "check_new", "check_room", "put_behind"]
def loose1 : List PySem.Str := ["may_be", "may_choose", "forbids", "_law_hand", "_law_draw", "_law_any", "_law_same", "_law_bill", "_law_shows", "_law_nexts", "_law_all_behind", "_law_is_fitting", "_law_choice", "_law_rows", "_law_is_ring", "_law_chain", "_law_is_told"]
def loose : List PySem.Str := loose0 ++ loose1
abbrev R : PySem.W.OpenRow := PySem.W.OpenLaw.row PySem.Challenge.rw_shownwants_k13_whole_forbids
abbrev hk : PySem.W.Hook := Mi.hookM 6 fa cs fn
def ob (s : PySem.W.SharedT) : Mi.AlM := Mi.obsMG 6 fa cs fn (HandSHeadRun.getT s)
theorem ob_eq (s : PySem.W.SharedT) : ob s = hk.obs s.abs := Mi.obsMG_eq (HandSHeadRun.getT_eq s)
theorem run (w : World) : HandSHeadRun.RunEq R (PySem.W.view R.prog [52]) hk ob 6000 loose w := by
  intro os
  kernel_rfl
end Hd

namespace Jn
open PySem PySem.Spec L2 Mi Pk
open PyProof.Rows hiding St
def gll : List (Str × D) := [("MOST_GOODS", .int 6), ("MOST_PRICE", .int 1000000), ("MOST_UNITS", .int 1000000), ("MOST_ROWS", .int 20), ("BETTER", .str "better"), ("SO", .str "so")]
def kcl : List Str := ["Record", "Showing"]
section
variable {P : Program} {w : World} {K : PySem.W.Frag} {h : Heap} {mg : Str → Option Value} {base : Heap}
theorem FnGood.up {sp : FSpec} (g : FnGood P w K mg base sp) : FnGood P w K mg base { sp with lvl := sp.lvl + 1 } := by
  obtain ⟨⟨fd, ps, b, f⟩, k, gl, m⟩ := g
  exact ⟨⟨fd, ps, b, FnOk.mono f (Nat.le_succ _)⟩, k, gl, m⟩
abbrev Fc (K : PySem.W.Frag) : Prop := Mi.SaysM Hd.fa Hd.cs Hd.fn K
theorem gls (X : K.In h) (G : h.Ns mainGlobals mg) (c : Fc K) : ∀ x d, (x, d) ∈ gll → ∃ u v, mg x = some u ∧ RelV v u ∧ ∀ G, Rep K G d v := by
  intro x d hm
  simp only [gll, List.mem_cons, Prod.mk.injEq, List.not_mem_nil, or_false] at hm
  rcases hm with ⟨rfl, rfl⟩ | ⟨rfl, rfl⟩ | ⟨rfl, rfl⟩ | ⟨rfl, rfl⟩ | ⟨rfl, rfl⟩ | ⟨rfl, rfl⟩
  · obtain ⟨t, e⟩ := He.int_ok X G (c.d.fact 54 (f := .int "MOST_GOODS" 6) rfl)
    exact ⟨_, .int 6, e, ⟨t, rfl⟩, fun _ => rfl⟩
  · obtain ⟨t, e⟩ := He.int_ok X G (c.d.fact 55 (f := .int "MOST_PRICE" 1000000) rfl)
    exact ⟨_, .int 1000000, e, ⟨t, rfl⟩, fun _ => rfl⟩
  · obtain ⟨t, e⟩ := He.int_ok X G (c.d.fact 56 (f := .int "MOST_UNITS" 1000000) rfl)
    exact ⟨_, .int 1000000, e, ⟨t, rfl⟩, fun _ => rfl⟩
  · obtain ⟨t, e⟩ := He.int_ok X G (c.d.fact 57 (f := .int "MOST_ROWS" 20) rfl)
    exact ⟨_, .int 20, e, ⟨t, rfl⟩, fun _ => rfl⟩
  · obtain ⟨t, e⟩ := He.str_ok X G (c.d.fact 58 (f := .str "BETTER" "better") rfl)
    exact ⟨_, .str "better", e, ⟨t, rfl⟩, fun _ => rfl⟩
  · obtain ⟨t, e⟩ := He.str_ok X G (c.d.fact 59 (f := .str "SO" "so") rfl)
    exact ⟨_, .str "so", e, ⟨t, rfl⟩, fun _ => rfl⟩
theorem kcs (c : Fc K) : ∀ x, x ∈ kcl → KC K x := by
  intro x hm
  simp only [kcl, List.mem_cons, List.not_mem_nil, or_false] at hm
  rcases hm with rfl | rfl
  · exact KC_of (by decide) (c.d.fact 40 (f := .glo "Record") rfl)
  · exact KC_of (by decide) (c.d.fact 45 (f := .glo "Showing") rfl)
theorem G__law_bill (X : K.In h) (G : h.Ns mainGlobals mg) (c : Fc K) : FnGood P w K mg base s__law_bill := by
  obtain ⟨fd, F⟩ := c.d.def_ 33 (d := Hd.d33) rfl
  exact fnGood (k := s__law_bill.lvl - 1) (fn := fun sp => sp ∈ ([] : List FSpec)) (mk := fun sp => sp ∈ ([] : List CSpec)) (gl := fun x d => (x, d) ∈ gll) (kc := fun x => x ∈ kcl) ⟨kok_of X G c.k, (fun _ z => absurd z List.not_mem_nil), (fun _ z => absurd z List.not_mem_nil), gls X G c, kcs c⟩ s__law_bill F (C8.fnScope_by (N := n__law_bill) (P := p__law_bill) (by decide +kernel)) rfl (fun _ _ _ _ _ _ us hl => match us, hl with | [_, _], _ => rfl) rfl (fun _ => by rw [fAt_g rfl]; exact He.glo_ok X G (c.d.fact 23 (f := .glo "_law_bill") rfl)) (fun z => absurd rfl z) (m := b__law_bill) (by simp [b__law_bill, UsS, Us, UsL, UsF, gll, kcl]) (by decide +kernel) w__law_bill
theorem G__law_shows (X : K.In h) (G : h.Ns mainGlobals mg) (c : Fc K) : FnGood P w K mg base s__law_shows := by
  obtain ⟨fd, F⟩ := c.d.def_ 34 (d := Hd.d34) rfl
  exact fnGood (k := s__law_shows.lvl - 1) (fn := fun sp => sp ∈ ([s__law_bill] : List FSpec)) (mk := fun sp => sp ∈ ([] : List CSpec)) (gl := fun x d => (x, d) ∈ gll) (kc := fun x => x ∈ kcl) ⟨kok_of X G c.k, (List.forall_mem_cons.mpr ⟨⟨G__law_bill X G c, Nat.le_of_ble_eq_true rfl⟩, (fun _ z => absurd z List.not_mem_nil)⟩), (fun _ z => absurd z List.not_mem_nil), gls X G c, kcs c⟩ s__law_shows F (C8.fnScope_by (N := n__law_shows) (P := p__law_shows) (by decide +kernel)) rfl (fun _ _ _ _ _ _ us hl => match us, hl with | [_, _, _], _ => rfl) rfl (fun _ => by rw [fAt_g rfl]; exact He.glo_ok X G (c.d.fact 24 (f := .glo "_law_shows") rfl)) (fun z => absurd rfl z) (m := b__law_shows) (by simp [b__law_shows, UsS, Us, UsL, UsF, gll, kcl]) (by decide +kernel) w__law_shows
theorem G__law_is_ring (X : K.In h) (G : h.Ns mainGlobals mg) (c : Fc K) : FnGood P w K mg base s__law_is_ring := by
  obtain ⟨fd, F⟩ := c.d.def_ 40 (d := Hd.d40) rfl
  exact fnGood (k := s__law_is_ring.lvl - 1) (fn := fun sp => sp ∈ ([s__law_shows] : List FSpec)) (mk := fun sp => sp ∈ ([] : List CSpec)) (gl := fun x d => (x, d) ∈ gll) (kc := fun x => x ∈ kcl) ⟨kok_of X G c.k, (List.forall_mem_cons.mpr ⟨⟨G__law_shows X G c, Nat.le_of_ble_eq_true rfl⟩, (fun _ z => absurd z List.not_mem_nil)⟩), (fun _ z => absurd z List.not_mem_nil), gls X G c, kcs c⟩ s__law_is_ring F (C8.fnScope_by (N := n__law_is_ring) (P := p__law_is_ring) (by decide +kernel)) rfl (fun _ _ _ _ _ _ us hl => match us, hl with | [_, _], _ => rfl) rfl (fun _ => by rw [fAt_g rfl]; exact He.glo_ok X G (c.d.fact 30 (f := .glo "_law_is_ring") rfl)) (fun z => absurd rfl z) (m := b__law_is_ring) (by simp [b__law_is_ring, UsS, Us, UsL, UsF, gll, kcl]) (by decide +kernel) w__law_is_ring
theorem G_check_record (X : K.In h) (G : h.Ns mainGlobals mg) (c : Fc K) : FnGood P w K mg base s_check_record := by
  obtain ⟨fd, F⟩ := c.d.def_ 11 (d := Hd.d11) rfl
  exact fnGood (k := s_check_record.lvl - 1) (fn := fun sp => sp ∈ ([] : List FSpec)) (mk := fun sp => sp ∈ ([] : List CSpec)) (gl := fun x d => (x, d) ∈ gll) (kc := fun x => x ∈ kcl) ⟨kok_of X G c.k, (fun _ z => absurd z List.not_mem_nil), (fun _ z => absurd z List.not_mem_nil), gls X G c, kcs c⟩ s_check_record F (C8.fnScope_by (N := n_check_record) (P := p_check_record) (by decide +kernel)) rfl (fun _ _ _ _ _ _ us hl => match us, hl with | [_], _ => rfl) rfl (fun _ => by rw [fAt_g rfl]; exact He.glo_ok X G (c.d.fact 7 (f := .glo "check_record") rfl)) (fun z => absurd rfl z) (m := b_check_record) (by simp [b_check_record, UsS, Us, UsL, UsF, gll, kcl]) (by decide +kernel) w_check_record
theorem G_is_int (X : K.In h) (G : h.Ns mainGlobals mg) (c : Fc K) : FnGood P w K mg base s_is_int := by
  obtain ⟨fd, F⟩ := c.d.def_ 1 (d := Hd.d1) rfl
  exact fnGood (k := s_is_int.lvl - 1) (fn := fun sp => sp ∈ ([] : List FSpec)) (mk := fun sp => sp ∈ ([] : List CSpec)) (gl := fun x d => (x, d) ∈ gll) (kc := fun x => x ∈ kcl) ⟨kok_of X G c.k, (fun _ z => absurd z List.not_mem_nil), (fun _ z => absurd z List.not_mem_nil), gls X G c, kcs c⟩ s_is_int F (C8.fnScope_by (N := n_is_int) (P := p_is_int) (by decide +kernel)) rfl (fun _ _ _ _ _ _ us hl => match us, hl with | [_], _ => rfl) rfl (fun _ => by rw [fAt_g rfl]; exact He.glo_ok X G (c.d.fact 1 (f := .glo "is_int") rfl)) (fun z => absurd rfl z) (m := b_is_int) (by simp [b_is_int, UsS, Us, UsL, UsF, gll, kcl]) (by decide +kernel) w_is_int
theorem G_is_within (X : K.In h) (G : h.Ns mainGlobals mg) (c : Fc K) : FnGood P w K mg base s_is_within := by
  obtain ⟨fd, F⟩ := c.d.def_ 2 (d := Hd.d2) rfl
  exact fnGood (k := s_is_within.lvl - 1) (fn := fun sp => sp ∈ ([s_is_int] : List FSpec)) (mk := fun sp => sp ∈ ([] : List CSpec)) (gl := fun x d => (x, d) ∈ gll) (kc := fun x => x ∈ kcl) ⟨kok_of X G c.k, (List.forall_mem_cons.mpr ⟨⟨G_is_int X G c, Nat.le_of_ble_eq_true rfl⟩, (fun _ z => absurd z List.not_mem_nil)⟩), (fun _ z => absurd z List.not_mem_nil), gls X G c, kcs c⟩ s_is_within F (C8.fnScope_by (N := n_is_within) (P := p_is_within) (by decide +kernel)) rfl (fun _ _ _ _ _ _ us hl => match us, hl with | [_, _, _], _ => rfl) rfl (fun _ => by rw [fAt_g rfl]; exact He.glo_ok X G (c.d.fact 2 (f := .glo "is_within") rfl)) (fun z => absurd rfl z) (m := b_is_within) (by simp [b_is_within, UsS, Us, UsL, UsF, gll, kcl]) (by decide +kernel) w_is_within
theorem G_is_prices (X : K.In h) (G : h.Ns mainGlobals mg) (c : Fc K) : FnGood P w K mg base s_is_prices := by
  obtain ⟨fd, F⟩ := c.d.def_ 6 (d := Hd.d6) rfl
  exact fnGood (k := s_is_prices.lvl - 1) (fn := fun sp => sp ∈ ([s_is_within] : List FSpec)) (mk := fun sp => sp ∈ ([] : List CSpec)) (gl := fun x d => (x, d) ∈ gll) (kc := fun x => x ∈ kcl) ⟨kok_of X G c.k, (List.forall_mem_cons.mpr ⟨⟨G_is_within X G c, Nat.le_of_ble_eq_true rfl⟩, (fun _ z => absurd z List.not_mem_nil)⟩), (fun _ z => absurd z List.not_mem_nil), gls X G c, kcs c⟩ s_is_prices F (C8.fnScope_by (N := n_is_prices) (P := p_is_prices) (by decide +kernel)) rfl (fun _ _ _ _ _ _ us hl => match us, hl with | [_, _], _ => rfl) rfl (fun _ => by rw [fAt_g rfl]; exact He.glo_ok X G (c.d.fact 4 (f := .glo "is_prices") rfl)) (fun z => absurd rfl z) (m := b_is_prices) (by simp [b_is_prices, UsS, Us, UsL, UsF, gll, kcl]) (by decide +kernel) w_is_prices
theorem G_is_bundle (X : K.In h) (G : h.Ns mainGlobals mg) (c : Fc K) : FnGood P w K mg base s_is_bundle := by
  obtain ⟨fd, F⟩ := c.d.def_ 7 (d := Hd.d7) rfl
  exact fnGood (k := s_is_bundle.lvl - 1) (fn := fun sp => sp ∈ ([s_is_within] : List FSpec)) (mk := fun sp => sp ∈ ([] : List CSpec)) (gl := fun x d => (x, d) ∈ gll) (kc := fun x => x ∈ kcl) ⟨kok_of X G c.k, (List.forall_mem_cons.mpr ⟨⟨G_is_within X G c, Nat.le_of_ble_eq_true rfl⟩, (fun _ z => absurd z List.not_mem_nil)⟩), (fun _ z => absurd z List.not_mem_nil), gls X G c, kcs c⟩ s_is_bundle F (C8.fnScope_by (N := n_is_bundle) (P := p_is_bundle) (by decide +kernel)) rfl (fun _ _ _ _ _ _ us hl => match us, hl with | [_, _], _ => rfl) rfl (fun _ => by rw [fAt_g rfl]; exact He.glo_ok X G (c.d.fact 5 (f := .glo "is_bundle") rfl)) (fun z => absurd rfl z) (m := b_is_bundle) (by simp [b_is_bundle, UsS, Us, UsL, UsF, gll, kcl]) (by decide +kernel) w_is_bundle
theorem G_is_row (X : K.In h) (G : h.Ns mainGlobals mg) (c : Fc K) : FnGood P w K mg base s_is_row := by
  obtain ⟨fd, F⟩ := c.d.def_ 8 (d := Hd.d8) rfl
  exact fnGood (k := s_is_row.lvl - 1) (fn := fun sp => sp ∈ ([s_is_prices, s_is_bundle] : List FSpec)) (mk := fun sp => sp ∈ ([] : List CSpec)) (gl := fun x d => (x, d) ∈ gll) (kc := fun x => x ∈ kcl) ⟨kok_of X G c.k, (List.forall_mem_cons.mpr ⟨⟨G_is_prices X G c, Nat.le_of_ble_eq_true rfl⟩, (List.forall_mem_cons.mpr ⟨⟨G_is_bundle X G c, Nat.le_of_ble_eq_true rfl⟩, (fun _ z => absurd z List.not_mem_nil)⟩)⟩), (fun _ z => absurd z List.not_mem_nil), gls X G c, kcs c⟩ s_is_row F (C8.fnScope_by (N := n_is_row) (P := p_is_row) (by decide +kernel)) rfl (fun _ _ _ _ _ _ us hl => match us, hl with | [_, _], _ => rfl) rfl (fun _ => by rw [fAt_g rfl]; exact He.glo_ok X G (c.d.fact 6 (f := .glo "is_row") rfl)) (fun z => absurd rfl z) (m := b_is_row) (by simp [b_is_row, UsS, Us, UsL, UsF, gll, kcl]) (by decide +kernel) w_is_row
theorem G_check_new (X : K.In h) (G : h.Ns mainGlobals mg) (c : Fc K) : FnGood P w K mg base s_check_new := by
  obtain ⟨fd, F⟩ := c.d.def_ 23 (d := Hd.d23) rfl
  exact fnGood (k := s_check_new.lvl - 1) (fn := fun sp => sp ∈ ([s_check_record, s_is_row] : List FSpec)) (mk := fun sp => sp ∈ ([] : List CSpec)) (gl := fun x d => (x, d) ∈ gll) (kc := fun x => x ∈ kcl) ⟨kok_of X G c.k, (List.forall_mem_cons.mpr ⟨⟨G_check_record X G c, Nat.le_of_ble_eq_true rfl⟩, (List.forall_mem_cons.mpr ⟨⟨G_is_row X G c, Nat.le_of_ble_eq_true rfl⟩, (fun _ z => absurd z List.not_mem_nil)⟩)⟩), (fun _ z => absurd z List.not_mem_nil), gls X G c, kcs c⟩ s_check_new F (C8.fnScope_by (N := n_check_new) (P := p_check_new) (by decide +kernel)) rfl (fun _ _ _ _ _ _ us hl => match us, hl with | [_, _], _ => rfl) rfl (fun _ => by rw [fAt_g rfl]; exact He.glo_ok X G (c.d.fact 13 (f := .glo "check_new") rfl)) (fun z => absurd rfl z) (m := b_check_new) (by simp [b_check_new, UsS, Us, UsL, UsF, gll, kcl]) (by decide +kernel) w_check_new
theorem G_Showing_behind (X : K.In h) (G : h.Ns mainGlobals mg) (c : Fc K) : FnGood P w K mg base s_Showing_behind := by
  obtain ⟨fd, F⟩ := c.d.def_ 16 (d := Hd.d16) rfl
  exact fnGood (k := s_Showing_behind.lvl - 1) (fn := fun sp => sp ∈ ([] : List FSpec)) (mk := fun sp => sp ∈ ([] : List CSpec)) (gl := fun x d => (x, d) ∈ gll) (kc := fun x => x ∈ kcl) ⟨kok_of X G c.k, (fun _ z => absurd z List.not_mem_nil), (fun _ z => absurd z List.not_mem_nil), gls X G c, kcs c⟩ s_Showing_behind F (C8.fnScope_by (N := n_Showing_behind) (P := p_Showing_behind) (by decide +kernel)) rfl (fun _ _ _ _ _ _ us hl => match us, hl with | [_, _], _ => rfl) rfl (fun z => absurd z (by decide)) (fun _ => ⟨KC_of (by decide) (c.d.fact 45 (f := .glo "Showing") rfl), by rw [fAt_m (by decide)]; exact He.meth_ok (c.d.fact 49 (f := .meth "Showing" "behind") rfl)⟩) (m := b_Showing_behind) (by simp [b_Showing_behind, UsS, Us, UsL, UsF, gll, kcl]) (by decide +kernel) w_Showing_behind
theorem G_Showing_way (X : K.In h) (G : h.Ns mainGlobals mg) (c : Fc K) : FnGood P w K mg base s_Showing_way := by
  obtain ⟨fd, F⟩ := c.d.def_ 17 (d := Hd.d17) rfl
  exact fnGood (k := s_Showing_way.lvl - 1) (fn := fun sp => sp ∈ ([s_Showing_behind] : List FSpec)) (mk := fun sp => sp ∈ ([] : List CSpec)) (gl := fun x d => (x, d) ∈ gll) (kc := fun x => x ∈ kcl) ⟨kok_of X G c.k, (List.forall_mem_cons.mpr ⟨⟨G_Showing_behind X G c, Nat.le_of_ble_eq_true rfl⟩, (fun _ z => absurd z List.not_mem_nil)⟩), (fun _ z => absurd z List.not_mem_nil), gls X G c, kcs c⟩ s_Showing_way F (C8.fnScope_by (N := n_Showing_way) (P := p_Showing_way) (by decide +kernel)) rfl (fun _ _ _ _ _ _ us hl => match us, hl with | [_, _, _], _ => rfl) rfl (fun z => absurd z (by decide)) (fun _ => ⟨KC_of (by decide) (c.d.fact 45 (f := .glo "Showing") rfl), by rw [fAt_m (by decide)]; exact He.meth_ok (c.d.fact 50 (f := .meth "Showing" "way") rfl)⟩) (m := b_Showing_way) (by simp [b_Showing_way, UsS, Us, UsL, UsF, gll, kcl]) (by decide +kernel) w_Showing_way
theorem G_Showing_ring (X : K.In h) (G : h.Ns mainGlobals mg) (c : Fc K) : FnGood P w K mg base s_Showing_ring := by
  obtain ⟨fd, F⟩ := c.d.def_ 18 (d := Hd.d18) rfl
  exact fnGood (k := s_Showing_ring.lvl - 1) (fn := fun sp => sp ∈ ([s_Showing_behind, s_Showing_way] : List FSpec)) (mk := fun sp => sp ∈ ([] : List CSpec)) (gl := fun x d => (x, d) ∈ gll) (kc := fun x => x ∈ kcl) ⟨kok_of X G c.k, (List.forall_mem_cons.mpr ⟨⟨G_Showing_behind X G c, Nat.le_of_ble_eq_true rfl⟩, (List.forall_mem_cons.mpr ⟨⟨G_Showing_way X G c, Nat.le_of_ble_eq_true rfl⟩, (fun _ z => absurd z List.not_mem_nil)⟩)⟩), (fun _ z => absurd z List.not_mem_nil), gls X G c, kcs c⟩ s_Showing_ring F (C8.fnScope_by (N := n_Showing_ring) (P := p_Showing_ring) (by decide +kernel)) rfl (fun _ _ _ _ _ _ us hl => match us, hl with | [_], _ => rfl) rfl (fun z => absurd z (by decide)) (fun _ => ⟨KC_of (by decide) (c.d.fact 45 (f := .glo "Showing") rfl), by rw [fAt_m (by decide)]; exact He.meth_ok (c.d.fact 51 (f := .meth "Showing" "ring") rfl)⟩) (m := b_Showing_ring) (by simp [b_Showing_ring, UsS, Us, UsL, UsF, gll, kcl]) (by decide +kernel) w_Showing_ring
theorem G_worth_at (X : K.In h) (G : h.Ns mainGlobals mg) (c : Fc K) : FnGood P w K mg base s_worth_at := by
  obtain ⟨fd, F⟩ := c.d.def_ 12 (d := Hd.d12) rfl
  exact fnGood (k := s_worth_at.lvl - 1) (fn := fun sp => sp ∈ ([] : List FSpec)) (mk := fun sp => sp ∈ ([] : List CSpec)) (gl := fun x d => (x, d) ∈ gll) (kc := fun x => x ∈ kcl) ⟨kok_of X G c.k, (fun _ z => absurd z List.not_mem_nil), (fun _ z => absurd z List.not_mem_nil), gls X G c, kcs c⟩ s_worth_at F (C8.fnScope_by (N := n_worth_at) (P := p_worth_at) (by decide +kernel)) rfl (fun _ _ _ _ _ _ us hl => match us, hl with | [_, _], _ => rfl) rfl (fun _ => by rw [fAt_g rfl]; exact He.glo_ok X G (c.d.fact 8 (f := .glo "worth_at") rfl)) (fun z => absurd rfl z) (m := b_worth_at) (by simp [b_worth_at, UsS, Us, UsL, UsF, gll, kcl]) (by decide +kernel) w_worth_at
theorem G_cost_of (X : K.In h) (G : h.Ns mainGlobals mg) (c : Fc K) : FnGood P w K mg base s_cost_of := by
  obtain ⟨fd, F⟩ := c.d.def_ 13 (d := Hd.d13) rfl
  exact fnGood (k := s_cost_of.lvl - 1) (fn := fun sp => sp ∈ ([s_worth_at] : List FSpec)) (mk := fun sp => sp ∈ ([] : List CSpec)) (gl := fun x d => (x, d) ∈ gll) (kc := fun x => x ∈ kcl) ⟨kok_of X G c.k, (List.forall_mem_cons.mpr ⟨⟨G_worth_at X G c, Nat.le_of_ble_eq_true rfl⟩, (fun _ z => absurd z List.not_mem_nil)⟩), (fun _ z => absurd z List.not_mem_nil), gls X G c, kcs c⟩ s_cost_of F (C8.fnScope_by (N := n_cost_of) (P := p_cost_of) (by decide +kernel)) rfl (fun _ _ _ _ _ _ us hl => match us, hl with | [_, _, _], _ => rfl) rfl (fun _ => by rw [fAt_g rfl]; exact He.glo_ok X G (c.d.fact 9 (f := .glo "cost_of") rfl)) (fun z => absurd rfl z) (m := b_cost_of) (by simp [b_cost_of, UsS, Us, UsL, UsF, gll, kcl]) (by decide +kernel) w_cost_of
theorem G_word_of (X : K.In h) (G : h.Ns mainGlobals mg) (c : Fc K) : FnGood P w K mg base s_word_of := by
  obtain ⟨fd, F⟩ := c.d.def_ 14 (d := Hd.d14) rfl
  exact fnGood (k := s_word_of.lvl - 1) (fn := fun sp => sp ∈ ([s_cost_of] : List FSpec)) (mk := fun sp => sp ∈ ([] : List CSpec)) (gl := fun x d => (x, d) ∈ gll) (kc := fun x => x ∈ kcl) ⟨kok_of X G c.k, (List.forall_mem_cons.mpr ⟨⟨G_cost_of X G c, Nat.le_of_ble_eq_true rfl⟩, (fun _ z => absurd z List.not_mem_nil)⟩), (fun _ z => absurd z List.not_mem_nil), gls X G c, kcs c⟩ s_word_of F (C8.fnScope_by (N := n_word_of) (P := p_word_of) (by decide +kernel)) rfl (fun _ _ _ _ _ _ us hl => match us, hl with | [_, _, _], _ => rfl) rfl (fun _ => by rw [fAt_g rfl]; exact He.glo_ok X G (c.d.fact 10 (f := .glo "word_of") rfl)) (fun z => absurd rfl z) (m := b_word_of) (by simp [b_word_of, UsS, Us, UsL, UsF, gll, kcl]) (by decide +kernel) w_word_of
theorem Gm_Showing (X : K.In h) (G : h.Ns mainGlobals mg) (c : Fc K) : MkGood P w K mg base m_Showing := by
  obtain ⟨fd, F⟩ := c.d.def_ 15 (d := Hd.d15) rfl
  refine mkGood (k := m_Showing.lvl - 1) (fn := fun sp => sp ∈ ([] : List FSpec)) (mk := fun sp => sp ∈ ([] : List CSpec)) (gl := fun x d => (x, d) ∈ gll) (kc := fun x => x ∈ kcl) ⟨kok_of X G c.k, (fun _ z => absurd z List.not_mem_nil), (fun _ z => absurd z List.not_mem_nil), gls X G c, kcs c⟩ m_Showing F (C8.fnScope_by (N := n_Showing___init__) (P := p_Showing___init__) (by decide +kernel)) rfl (He.mkr_ok (c.d.fact 46 (f := .mkr "Showing") rfl)) ⟨KC_of (by decide) (c.d.fact 45 (f := .glo "Showing") rfl), (List.forall_mem_cons.mpr ⟨He.noat_ok (c.d.fact 47 (f := .noat "Showing" "words") rfl), (List.forall_mem_cons.mpr ⟨He.noat_ok (c.d.fact 48 (f := .noat "Showing" "many") rfl), (fun _ z => absurd z List.not_mem_nil)⟩)⟩)⟩ (fun _ _ _ _ _ _ us hl => match us, hl with | [_, _], _ => rfl) rfl (m := b_Showing___init__) (l := f_Showing___init__) (by simp [b_Showing___init__, UsS, Us, UsL, UsF, gll, kcl]) (by simp [f_Showing___init__, UsS, Us, UsL, UsF, gll, kcl]) (by decide +kernel) rfl (by decide +kernel) (by decide) w_Showing___init__
theorem G_showing_of (X : K.In h) (G : h.Ns mainGlobals mg) (c : Fc K) : FnGood P w K mg base s_showing_of := by
  obtain ⟨fd, F⟩ := c.d.def_ 21 (d := Hd.d21) rfl
  exact fnGood (k := s_showing_of.lvl - 1) (fn := fun sp => sp ∈ ([s_word_of] : List FSpec)) (mk := fun sp => sp ∈ ([m_Showing] : List CSpec)) (gl := fun x d => (x, d) ∈ gll) (kc := fun x => x ∈ kcl) ⟨kok_of X G c.k, (List.forall_mem_cons.mpr ⟨⟨G_word_of X G c, Nat.le_of_ble_eq_true rfl⟩, (fun _ z => absurd z List.not_mem_nil)⟩), (List.forall_mem_cons.mpr ⟨⟨Gm_Showing X G c, Nat.le_of_ble_eq_true rfl⟩, (fun _ z => absurd z List.not_mem_nil)⟩), gls X G c, kcs c⟩ s_showing_of F (C8.fnScope_by (N := n_showing_of) (P := p_showing_of) (by decide +kernel)) rfl (fun _ _ _ _ _ _ us hl => match us, hl with | [_], _ => rfl) rfl (fun _ => by rw [fAt_g rfl]; exact He.glo_ok X G (c.d.fact 11 (f := .glo "showing_of") rfl)) (fun z => absurd rfl z) (m := b_showing_of) (by simp [b_showing_of, UsS, Us, UsL, UsF, gll, kcl]) (by decide +kernel) w_showing_of
theorem G_check_fit (X : K.In h) (G : h.Ns mainGlobals mg) (c : Fc K) : FnGood P w K mg base s_check_fit := by
  obtain ⟨fd, F⟩ := c.d.def_ 22 (d := Hd.d22) rfl
  exact fnGood (k := s_check_fit.lvl - 1) (fn := fun sp => sp ∈ ([s_Showing_ring, s_showing_of] : List FSpec)) (mk := fun sp => sp ∈ ([] : List CSpec)) (gl := fun x d => (x, d) ∈ gll) (kc := fun x => x ∈ kcl) ⟨kok_of X G c.k, (List.forall_mem_cons.mpr ⟨⟨G_Showing_ring X G c, Nat.le_of_ble_eq_true rfl⟩, (List.forall_mem_cons.mpr ⟨⟨G_showing_of X G c, Nat.le_of_ble_eq_true rfl⟩, (fun _ z => absurd z List.not_mem_nil)⟩)⟩), (fun _ z => absurd z List.not_mem_nil), gls X G c, kcs c⟩ s_check_fit F (C8.fnScope_by (N := n_check_fit) (P := p_check_fit) (by decide +kernel)) rfl (fun _ _ _ _ _ _ us hl => match us, hl with | [_], _ => rfl) rfl (fun _ => by rw [fAt_g rfl]; exact He.glo_ok X G (c.d.fact 12 (f := .glo "check_fit") rfl)) (fun z => absurd rfl z) (m := b_check_fit) (by simp [b_check_fit, UsS, Us, UsL, UsF, gll, kcl]) (by decide +kernel) w_check_fit
theorem G_check_room (X : K.In h) (G : h.Ns mainGlobals mg) (c : Fc K) : FnGood P w K mg base s_check_room := by
  obtain ⟨fd, F⟩ := c.d.def_ 24 (d := Hd.d24) rfl
  exact fnGood (k := s_check_room.lvl - 1) (fn := fun sp => sp ∈ ([] : List FSpec)) (mk := fun sp => sp ∈ ([] : List CSpec)) (gl := fun x d => (x, d) ∈ gll) (kc := fun x => x ∈ kcl) ⟨kok_of X G c.k, (fun _ z => absurd z List.not_mem_nil), (fun _ z => absurd z List.not_mem_nil), gls X G c, kcs c⟩ s_check_room F (C8.fnScope_by (N := n_check_room) (P := p_check_room) (by decide +kernel)) rfl (fun _ _ _ _ _ _ us hl => match us, hl with | [_], _ => rfl) rfl (fun _ => by rw [fAt_g rfl]; exact He.glo_ok X G (c.d.fact 14 (f := .glo "check_room") rfl)) (fun z => absurd rfl z) (m := b_check_room) (by simp [b_check_room, UsS, Us, UsL, UsF, gll, kcl]) (by decide +kernel) w_check_room
theorem G_check_goods (X : K.In h) (G : h.Ns mainGlobals mg) (c : Fc K) : FnGood P w K mg base s_check_goods := by
  obtain ⟨fd, F⟩ := c.d.def_ 5 (d := Hd.d5) rfl
  exact fnGood (k := s_check_goods.lvl - 1) (fn := fun sp => sp ∈ ([s_is_within] : List FSpec)) (mk := fun sp => sp ∈ ([] : List CSpec)) (gl := fun x d => (x, d) ∈ gll) (kc := fun x => x ∈ kcl) ⟨kok_of X G c.k, (List.forall_mem_cons.mpr ⟨⟨G_is_within X G c, Nat.le_of_ble_eq_true rfl⟩, (fun _ z => absurd z List.not_mem_nil)⟩), (fun _ z => absurd z List.not_mem_nil), gls X G c, kcs c⟩ s_check_goods F (C8.fnScope_by (N := n_check_goods) (P := p_check_goods) (by decide +kernel)) rfl (fun _ _ _ _ _ _ us hl => match us, hl with | [_], _ => rfl) rfl (fun _ => by rw [fAt_g rfl]; exact He.glo_ok X G (c.d.fact 3 (f := .glo "check_goods") rfl)) (fun z => absurd rfl z) (m := b_check_goods) (by simp [b_check_goods, UsS, Us, UsL, UsF, gll, kcl]) (by decide +kernel) w_check_goods
theorem Gm_Record (X : K.In h) (G : h.Ns mainGlobals mg) (c : Fc K) : MkGood P w K mg base m_Record := by
  obtain ⟨fd, F⟩ := c.d.def_ 9 (d := Hd.d9) rfl
  refine mkGood (k := m_Record.lvl - 1) (fn := fun sp => sp ∈ ([s_check_goods, s_is_row] : List FSpec)) (mk := fun sp => sp ∈ ([] : List CSpec)) (gl := fun x d => (x, d) ∈ gll) (kc := fun x => x ∈ kcl) ⟨kok_of X G c.k, (List.forall_mem_cons.mpr ⟨⟨G_check_goods X G c, Nat.le_of_ble_eq_true rfl⟩, (List.forall_mem_cons.mpr ⟨⟨G_is_row X G c, Nat.le_of_ble_eq_true rfl⟩, (fun _ z => absurd z List.not_mem_nil)⟩)⟩), (fun _ z => absurd z List.not_mem_nil), gls X G c, kcs c⟩ m_Record F (C8.fnScope_by (N := n_Record___init__) (P := p_Record___init__) (by decide +kernel)) rfl (He.mkr_ok (c.d.fact 41 (f := .mkr "Record") rfl)) ⟨KC_of (by decide) (c.d.fact 40 (f := .glo "Record") rfl), (List.forall_mem_cons.mpr ⟨He.noat_ok (c.d.fact 42 (f := .noat "Record" "goods") rfl), (List.forall_mem_cons.mpr ⟨He.noat_ok (c.d.fact 43 (f := .noat "Record" "rows") rfl), (fun _ z => absurd z List.not_mem_nil)⟩)⟩)⟩ (fun _ _ _ _ _ _ us hl => match us, hl with | [_, _, _], _ => rfl) rfl (m := b_Record___init__) (l := f_Record___init__) (by simp [b_Record___init__, UsS, Us, UsL, UsF, gll, kcl]) (by simp [f_Record___init__, UsS, Us, UsL, UsF, gll, kcl]) (by decide +kernel) rfl (by decide +kernel) (by decide) w_Record___init__
theorem G_put_behind (X : K.In h) (G : h.Ns mainGlobals mg) (c : Fc K) : FnGood P w K mg base s_put_behind := by
  obtain ⟨fd, F⟩ := c.d.def_ 25 (d := Hd.d25) rfl
  exact fnGood (k := s_put_behind.lvl - 1) (fn := fun sp => sp ∈ ([] : List FSpec)) (mk := fun sp => sp ∈ ([m_Record] : List CSpec)) (gl := fun x d => (x, d) ∈ gll) (kc := fun x => x ∈ kcl) ⟨kok_of X G c.k, (fun _ z => absurd z List.not_mem_nil), (List.forall_mem_cons.mpr ⟨⟨Gm_Record X G c, Nat.le_of_ble_eq_true rfl⟩, (fun _ z => absurd z List.not_mem_nil)⟩), gls X G c, kcs c⟩ s_put_behind F (C8.fnScope_by (N := n_put_behind) (P := p_put_behind) (by decide +kernel)) rfl (fun _ _ _ _ _ _ us hl => match us, hl with | [_, _], _ => rfl) rfl (fun _ => by rw [fAt_g rfl]; exact He.glo_ok X G (c.d.fact 15 (f := .glo "put_behind") rfl)) (fun z => absurd rfl z) (m := b_put_behind) (by simp [b_put_behind, UsS, Us, UsL, UsF, gll, kcl]) (by decide +kernel) w_put_behind
theorem G_forbids (X : K.In h) (G : h.Ns mainGlobals mg) (c : Fc K) : FnGood P w K mg base s_forbids := by
  obtain ⟨fd, F⟩ := c.d.def_ 28 (d := Hd.d28) rfl
  exact fnGood (k := s_forbids.lvl - 1) (fn := fun sp => sp ∈ ([s_check_new, s_check_fit, s_check_room, s_Showing_ring, s_showing_of, s_put_behind] : List FSpec)) (mk := fun sp => sp ∈ ([] : List CSpec)) (gl := fun x d => (x, d) ∈ gll) (kc := fun x => x ∈ kcl) ⟨kok_of X G c.k, (List.forall_mem_cons.mpr ⟨⟨G_check_new X G c, Nat.le_of_ble_eq_true rfl⟩, (List.forall_mem_cons.mpr ⟨⟨G_check_fit X G c, Nat.le_of_ble_eq_true rfl⟩, (List.forall_mem_cons.mpr ⟨⟨G_check_room X G c, Nat.le_of_ble_eq_true rfl⟩, (List.forall_mem_cons.mpr ⟨⟨G_Showing_ring X G c, Nat.le_of_ble_eq_true rfl⟩, (List.forall_mem_cons.mpr ⟨⟨G_showing_of X G c, Nat.le_of_ble_eq_true rfl⟩, (List.forall_mem_cons.mpr ⟨⟨G_put_behind X G c, Nat.le_of_ble_eq_true rfl⟩, (fun _ z => absurd z List.not_mem_nil)⟩)⟩)⟩)⟩)⟩)⟩), (fun _ z => absurd z List.not_mem_nil), gls X G c, kcs c⟩ s_forbids F (C8.fnScope_by (N := n_forbids) (P := p_forbids) (by decide +kernel)) rfl (fun _ _ _ _ _ _ us hl => match us, hl with | [_, _], _ => rfl) rfl (fun _ => by rw [fAt_g rfl]; exact He.glo_ok X G (c.d.fact 18 (f := .glo "forbids") rfl)) (fun z => absurd rfl z) (m := b_forbids) (by simp [b_forbids, UsS, Us, UsL, UsF, gll, kcl]) (by decide +kernel) w_forbids
theorem G__law_draw (X : K.In h) (G : h.Ns mainGlobals mg) (c : Fc K) : FnGood P w K mg base s__law_draw := by
  obtain ⟨fd, F⟩ := c.d.def_ 30 (d := Hd.d30) rfl
  have e : s__law_draw = spDraw (0 + 1) := rfl
  rw [e]
  refine drawGood (k := 0) (fn := fun sp => sp ∈ ([] : List FSpec)) (mk := fun sp => sp ∈ ([] : List CSpec)) (gl := fun x d => (x, d) ∈ gll) (kc := fun x => x ∈ kcl) ⟨kok_of X G c.k, (fun _ z => absurd z List.not_mem_nil), (fun _ z => absurd z List.not_mem_nil), gls X G c, kcs c⟩ F (C8.fnScope_by (by decide +kernel)) (fun _ _ _ _ _ _ us hl => match us, hl with | [_, _], _ => rfl) (by rw [fAt_g rfl]; exact He.glo_ok X G (c.d.fact 20 (f := .glo "_law_draw") rfl)) (a1 := 69621) (a2 := 40692) (a3 := 127) (m1 := 2147483629) (e1 := 18) (b1 := 7919) (b2 := 48271) (b3 := 0) (m2 := 2147483647) (c1 := 1009) (c2 := 69621) (m3 := 2147483647) (d1 := 2003) (d2 := 40014) (m4 := 2147483563) (q := 16) ⟨by decide, by decide, by decide, by decide, by decide, by decide, by decide, by decide, by decide, by decide, by decide, by decide⟩ (by decide +kernel)
theorem G__law_any (X : K.In h) (G : h.Ns mainGlobals mg) (c : Fc K) : FnGood P w K mg base s__law_any := by
  obtain ⟨fd, F⟩ := c.d.def_ 31 (d := Hd.d31) rfl
  exact fnGood (k := s__law_any.lvl - 1) (fn := fun sp => sp ∈ ([s__law_draw] : List FSpec)) (mk := fun sp => sp ∈ ([] : List CSpec)) (gl := fun x d => (x, d) ∈ gll) (kc := fun x => x ∈ kcl) ⟨kok_of X G c.k, (List.forall_mem_cons.mpr ⟨⟨G__law_draw X G c, Nat.le_of_ble_eq_true rfl⟩, (fun _ z => absurd z List.not_mem_nil)⟩), (fun _ z => absurd z List.not_mem_nil), gls X G c, kcs c⟩ s__law_any F (C8.fnScope_by (N := n__law_any) (P := p__law_any) (by decide +kernel)) rfl (fun _ _ _ _ _ _ us hl => match us, hl with | [_, _], _ => rfl) rfl (fun _ => by rw [fAt_g rfl]; exact He.glo_ok X G (c.d.fact 21 (f := .glo "_law_any") rfl)) (fun z => absurd rfl z) (m := b__law_any) (by simp [b__law_any, UsS, Us, UsL, UsF, gll, kcl]) (by decide +kernel) w__law_any
theorem G__law_choice (X : K.In h) (G : h.Ns mainGlobals mg) (c : Fc K) : FnGood P w K mg base s__law_choice := by
  obtain ⟨fd, F⟩ := c.d.def_ 38 (d := Hd.d38) rfl
  exact fnGood (k := s__law_choice.lvl - 1) (fn := fun sp => sp ∈ ([s__law_draw, s__law_any] : List FSpec)) (mk := fun sp => sp ∈ ([] : List CSpec)) (gl := fun x d => (x, d) ∈ gll) (kc := fun x => x ∈ kcl) ⟨kok_of X G c.k, (List.forall_mem_cons.mpr ⟨⟨G__law_draw X G c, Nat.le_of_ble_eq_true rfl⟩, (List.forall_mem_cons.mpr ⟨⟨G__law_any X G c, Nat.le_of_ble_eq_true rfl⟩, (fun _ z => absurd z List.not_mem_nil)⟩)⟩), (fun _ z => absurd z List.not_mem_nil), gls X G c, kcs c⟩ s__law_choice F (C8.fnScope_by (N := n__law_choice) (P := p__law_choice) (by decide +kernel)) rfl (fun _ _ _ _ _ _ us hl => match us, hl with | [_, _, _], _ => rfl) rfl (fun _ => by rw [fAt_g rfl]; exact He.glo_ok X G (c.d.fact 28 (f := .glo "_law_choice") rfl)) (fun z => absurd rfl z) (m := b__law_choice) (by simp [b__law_choice, UsS, Us, UsL, UsF, gll, kcl]) (by decide +kernel) w__law_choice
theorem G__law_nexts (X : K.In h) (G : h.Ns mainGlobals mg) (c : Fc K) : FnGood P w K mg base s__law_nexts := by
  obtain ⟨fd, F⟩ := c.d.def_ 35 (d := Hd.d35) rfl
  exact fnGood (k := s__law_nexts.lvl - 1) (fn := fun sp => sp ∈ ([s__law_shows] : List FSpec)) (mk := fun sp => sp ∈ ([] : List CSpec)) (gl := fun x d => (x, d) ∈ gll) (kc := fun x => x ∈ kcl) ⟨kok_of X G c.k, (List.forall_mem_cons.mpr ⟨⟨G__law_shows X G c, Nat.le_of_ble_eq_true rfl⟩, (fun _ z => absurd z List.not_mem_nil)⟩), (fun _ z => absurd z List.not_mem_nil), gls X G c, kcs c⟩ s__law_nexts F (C8.fnScope_by (N := n__law_nexts) (P := p__law_nexts) (by decide +kernel)) rfl (fun _ _ _ _ _ _ us hl => match us, hl with | [_], _ => rfl) rfl (fun _ => by rw [fAt_g rfl]; exact He.glo_ok X G (c.d.fact 25 (f := .glo "_law_nexts") rfl)) (fun z => absurd rfl z) (m := b__law_nexts) (by simp [b__law_nexts, UsS, Us, UsL, UsF, gll, kcl]) (by decide +kernel) w__law_nexts
theorem G__law_all_behind (X : K.In h) (G : h.Ns mainGlobals mg) (c : Fc K) : FnGood P w K mg base s__law_all_behind := by
  obtain ⟨fd, F⟩ := c.d.def_ 36 (d := Hd.d36) rfl
  exact fnGood (k := s__law_all_behind.lvl - 1) (fn := fun sp => sp ∈ ([] : List FSpec)) (mk := fun sp => sp ∈ ([] : List CSpec)) (gl := fun x d => (x, d) ∈ gll) (kc := fun x => x ∈ kcl) ⟨kok_of X G c.k, (fun _ z => absurd z List.not_mem_nil), (fun _ z => absurd z List.not_mem_nil), gls X G c, kcs c⟩ s__law_all_behind F (C8.fnScope_by (N := n__law_all_behind) (P := p__law_all_behind) (by decide +kernel)) rfl (fun _ _ _ _ _ _ us hl => match us, hl with | [_, _], _ => rfl) rfl (fun _ => by rw [fAt_g rfl]; exact He.glo_ok X G (c.d.fact 26 (f := .glo "_law_all_behind") rfl)) (fun z => absurd rfl z) (m := b__law_all_behind) (by simp [b__law_all_behind, UsS, Us, UsL, UsF, gll, kcl]) (by decide +kernel) w__law_all_behind
theorem G__law_is_fitting (X : K.In h) (G : h.Ns mainGlobals mg) (c : Fc K) : FnGood P w K mg base s__law_is_fitting := by
  obtain ⟨fd, F⟩ := c.d.def_ 37 (d := Hd.d37) rfl
  exact fnGood (k := s__law_is_fitting.lvl - 1) (fn := fun sp => sp ∈ ([s__law_nexts, s__law_all_behind, s__law_shows] : List FSpec)) (mk := fun sp => sp ∈ ([] : List CSpec)) (gl := fun x d => (x, d) ∈ gll) (kc := fun x => x ∈ kcl) ⟨kok_of X G c.k, (List.forall_mem_cons.mpr ⟨⟨G__law_nexts X G c, Nat.le_of_ble_eq_true rfl⟩, (List.forall_mem_cons.mpr ⟨⟨G__law_all_behind X G c, Nat.le_of_ble_eq_true rfl⟩, (List.forall_mem_cons.mpr ⟨⟨G__law_shows X G c, Nat.le_of_ble_eq_true rfl⟩, (fun _ z => absurd z List.not_mem_nil)⟩)⟩)⟩), (fun _ z => absurd z List.not_mem_nil), gls X G c, kcs c⟩ s__law_is_fitting F (C8.fnScope_by (N := n__law_is_fitting) (P := p__law_is_fitting) (by decide +kernel)) rfl (fun _ _ _ _ _ _ us hl => match us, hl with | [_], _ => rfl) rfl (fun _ => by rw [fAt_g rfl]; exact He.glo_ok X G (c.d.fact 27 (f := .glo "_law_is_fitting") rfl)) (fun z => absurd rfl z) (m := b__law_is_fitting) (by simp [b__law_is_fitting, UsS, Us, UsL, UsF, gll, kcl]) (by decide +kernel) w__law_is_fitting
theorem G__law_rows (X : K.In h) (G : h.Ns mainGlobals mg) (c : Fc K) : FnGood P w K mg base s__law_rows := by
  obtain ⟨fd, F⟩ := c.d.def_ 39 (d := Hd.d39) rfl
  exact fnGood (k := s__law_rows.lvl - 1) (fn := fun sp => sp ∈ ([s__law_draw, s__law_choice, s__law_is_fitting] : List FSpec)) (mk := fun sp => sp ∈ ([] : List CSpec)) (gl := fun x d => (x, d) ∈ gll) (kc := fun x => x ∈ kcl) ⟨kok_of X G c.k, (List.forall_mem_cons.mpr ⟨⟨G__law_draw X G c, Nat.le_of_ble_eq_true rfl⟩, (List.forall_mem_cons.mpr ⟨⟨G__law_choice X G c, Nat.le_of_ble_eq_true rfl⟩, (List.forall_mem_cons.mpr ⟨⟨G__law_is_fitting X G c, Nat.le_of_ble_eq_true rfl⟩, (fun _ z => absurd z List.not_mem_nil)⟩)⟩)⟩), (fun _ z => absurd z List.not_mem_nil), gls X G c, kcs c⟩ s__law_rows F (C8.fnScope_by (N := n__law_rows) (P := p__law_rows) (by decide +kernel)) rfl (fun _ _ _ _ _ _ us hl => match us, hl with | [_, _, _, _], _ => rfl) rfl (fun _ => by rw [fAt_g rfl]; exact He.glo_ok X G (c.d.fact 29 (f := .glo "_law_rows") rfl)) (fun z => absurd rfl z) (m := b__law_rows) (by simp [b__law_rows, UsS, Us, UsL, UsF, gll, kcl]) (by decide +kernel) w__law_rows
theorem G_may_be (X : K.In h) (G : h.Ns mainGlobals mg) (c : Fc K) : FnGood P w K mg base s_may_be := by
  obtain ⟨fd, F⟩ := c.d.def_ 26 (d := Hd.d26) rfl
  exact fnGood (k := s_may_be.lvl - 1) (fn := fun sp => sp ∈ ([s_Showing_ring, s_showing_of, s_put_behind] : List FSpec)) (mk := fun sp => sp ∈ ([] : List CSpec)) (gl := fun x d => (x, d) ∈ gll) (kc := fun x => x ∈ kcl) ⟨kok_of X G c.k, (List.forall_mem_cons.mpr ⟨⟨G_Showing_ring X G c, Nat.le_of_ble_eq_true rfl⟩, (List.forall_mem_cons.mpr ⟨⟨G_showing_of X G c, Nat.le_of_ble_eq_true rfl⟩, (List.forall_mem_cons.mpr ⟨⟨G_put_behind X G c, Nat.le_of_ble_eq_true rfl⟩, (fun _ z => absurd z List.not_mem_nil)⟩)⟩)⟩), (fun _ z => absurd z List.not_mem_nil), gls X G c, kcs c⟩ s_may_be F (C8.fnScope_by (N := n_may_be) (P := p_may_be) (by decide +kernel)) rfl (fun _ _ _ _ _ _ us hl => match us, hl with | [_, _], _ => rfl) rfl (fun _ => by rw [fAt_g rfl]; exact He.glo_ok X G (c.d.fact 16 (f := .glo "may_be") rfl)) (fun z => absurd rfl z) (m := b_may_be) (by simp [b_may_be, UsS, Us, UsL, UsF, gll, kcl]) (by decide +kernel) w_may_be
theorem G_may_choose (X : K.In h) (G : h.Ns mainGlobals mg) (c : Fc K) : FnGood P w K mg base s_may_choose := by
  obtain ⟨fd, F⟩ := c.d.def_ 27 (d := Hd.d27) rfl
  exact fnGood (k := s_may_choose.lvl - 1) (fn := fun sp => sp ∈ ([s_check_new, s_check_room, s_may_be] : List FSpec)) (mk := fun sp => sp ∈ ([] : List CSpec)) (gl := fun x d => (x, d) ∈ gll) (kc := fun x => x ∈ kcl) ⟨kok_of X G c.k, (List.forall_mem_cons.mpr ⟨⟨G_check_new X G c, Nat.le_of_ble_eq_true rfl⟩, (List.forall_mem_cons.mpr ⟨⟨G_check_room X G c, Nat.le_of_ble_eq_true rfl⟩, (List.forall_mem_cons.mpr ⟨⟨G_may_be X G c, Nat.le_of_ble_eq_true rfl⟩, (fun _ z => absurd z List.not_mem_nil)⟩)⟩)⟩), (fun _ z => absurd z List.not_mem_nil), gls X G c, kcs c⟩ s_may_choose F (C8.fnScope_by (N := n_may_choose) (P := p_may_choose) (by decide +kernel)) rfl (fun _ _ _ _ _ _ us hl => match us, hl with | [_, _], _ => rfl) rfl (fun _ => by rw [fAt_g rfl]; exact He.glo_ok X G (c.d.fact 17 (f := .glo "may_choose") rfl)) (fun z => absurd rfl z) (m := b_may_choose) (by simp [b_may_choose, UsS, Us, UsL, UsF, gll, kcl]) (by decide +kernel) w_may_choose
theorem G__law_same0 (X : K.In h) (G : h.Ns mainGlobals mg) (c : Fc K) : FnGood P w K mg base (s__law_sameN 0) := by
  obtain ⟨fd, F⟩ := c.d.def_ 32 (d := Hd.d32) rfl
  exact fnGood (k := 0) (fn := fun sp => sp ∈ ([] : List FSpec)) (mk := fun sp => sp ∈ ([] : List CSpec)) (gl := fun x d => (x, d) ∈ gll) (kc := fun x => x ∈ kcl) ⟨kok_of X G c.k, (fun _ z => absurd z List.not_mem_nil), (fun _ z => absurd z List.not_mem_nil), gls X G c, kcs c⟩ (s__law_sameN 0) F (C8.fnScope_by (N := n__law_same) (P := p__law_same) (by decide +kernel)) rfl (fun _ _ _ _ _ _ us hl => match us, hl with | [_, _], _ => rfl) rfl (fun _ => by rw [fAt_g rfl]; exact He.glo_ok X G (c.d.fact 22 (f := .glo "_law_same") rfl)) (fun z => absurd rfl z) (m := b__law_same0) (by simp [b__law_same0, UsS, Us, UsL, UsF, gll, kcl]) (by decide +kernel) w__law_same0
theorem G__law_sameN (X : K.In h) (G : h.Ns mainGlobals mg) (c : Fc K) : ∀ n : Nat, FnGood P w K mg base (s__law_sameN n)
  | 0 => G__law_same0 X G c
  | n + 1 => by
    obtain ⟨fd, F⟩ := c.d.def_ 32 (d := Hd.d32) rfl
    exact fnGood (k := 1 + n) (fn := fun sp => sp ∈ ([s__law_sameN n] : List FSpec)) (mk := fun sp => sp ∈ ([] : List CSpec)) (gl := fun x d => (x, d) ∈ gll) (kc := fun x => x ∈ kcl) ⟨kok_of X G c.k, (List.forall_mem_cons.mpr ⟨⟨G__law_sameN X G c n, Nat.le_refl _⟩, (fun _ z => absurd z List.not_mem_nil)⟩), (fun _ z => absurd z List.not_mem_nil), gls X G c, kcs c⟩ (s__law_sameN (n + 1)) F (C8.fnScope_by (N := n__law_same) (P := p__law_same) (by decide +kernel)) rfl (fun _ _ _ _ _ _ us hl => match us, hl with | [_, _], _ => rfl) rfl (fun _ => by rw [fAt_g rfl]; exact He.glo_ok X G (c.d.fact 22 (f := .glo "_law_same") rfl)) (fun z => absurd rfl z) (m := b__law_same (s__law_sameN n)) (by simp [b__law_same, UsS, Us, UsL, UsF, gll, kcl]) rfl (w__law_same n)
theorem G__law_same (X : K.In h) (G : h.Ns mainGlobals mg) (c : Fc K) : FnGood P w K mg base s__law_same := G__law_sameN X G c 4
theorem G__law_is_told (X : K.In h) (G : h.Ns mainGlobals mg) (c : Fc K) : FnGood P w K mg base s__law_is_told := by
  obtain ⟨fd, F⟩ := c.d.def_ 42 (d := Hd.d42) rfl
  exact fnGood (k := s__law_is_told.lvl - 1) (fn := fun sp => sp ∈ ([s_forbids, s__law_is_fitting, s_may_choose, s__law_is_ring, s__law_same] : List FSpec)) (mk := fun sp => sp ∈ ([] : List CSpec)) (gl := fun x d => (x, d) ∈ gll) (kc := fun x => x ∈ kcl) ⟨kok_of X G c.k, (List.forall_mem_cons.mpr ⟨⟨G_forbids X G c, Nat.le_of_ble_eq_true rfl⟩, (List.forall_mem_cons.mpr ⟨⟨G__law_is_fitting X G c, Nat.le_of_ble_eq_true rfl⟩, (List.forall_mem_cons.mpr ⟨⟨G_may_choose X G c, Nat.le_of_ble_eq_true rfl⟩, (List.forall_mem_cons.mpr ⟨⟨G__law_is_ring X G c, Nat.le_of_ble_eq_true rfl⟩, (List.forall_mem_cons.mpr ⟨⟨G__law_same X G c, Nat.le_of_ble_eq_true rfl⟩, (fun _ z => absurd z List.not_mem_nil)⟩)⟩)⟩)⟩)⟩), (fun _ z => absurd z List.not_mem_nil), gls X G c, kcs c⟩ s__law_is_told F (C8.fnScope_by (N := n__law_is_told) (P := p__law_is_told) (by decide +kernel)) rfl (fun _ _ _ _ _ _ us hl => match us, hl with | [_, _, _], _ => rfl) rfl (fun _ => by rw [fAt_g rfl]; exact He.glo_ok X G (c.d.fact 32 (f := .glo "_law_is_told") rfl)) (fun z => absurd rfl z) (m := b__law_is_told) (by simp [b__law_is_told, UsS, Us, UsL, UsF, gll, kcl]) (by decide +kernel) w__law_is_told
theorem G__law_chain (X : K.In h) (G : h.Ns mainGlobals mg) (c : Fc K) : FnGood P w K mg base s__law_chain := by
  obtain ⟨fd, F⟩ := c.d.def_ 41 (d := Hd.d41) rfl
  exact fnGood (k := s__law_chain.lvl - 1) (fn := fun sp => sp ∈ ([s__law_draw, s__law_any] : List FSpec)) (mk := fun sp => sp ∈ ([] : List CSpec)) (gl := fun x d => (x, d) ∈ gll) (kc := fun x => x ∈ kcl) ⟨kok_of X G c.k, (List.forall_mem_cons.mpr ⟨⟨G__law_draw X G c, Nat.le_of_ble_eq_true rfl⟩, (List.forall_mem_cons.mpr ⟨⟨G__law_any X G c, Nat.le_of_ble_eq_true rfl⟩, (fun _ z => absurd z List.not_mem_nil)⟩)⟩), (fun _ z => absurd z List.not_mem_nil), gls X G c, kcs c⟩ s__law_chain F (C8.fnScope_by (N := n__law_chain) (P := p__law_chain) (by decide +kernel)) rfl (fun _ _ _ _ _ _ us hl => match us, hl with | [_, _], _ => rfl) rfl (fun _ => by rw [fAt_g rfl]; exact He.glo_ok X G (c.d.fact 31 (f := .glo "_law_chain") rfl)) (fun z => absurd rfl z) (m := b__law_chain) (by simp [b__law_chain, UsS, Us, UsL, UsF, gll, kcl]) (by decide +kernel) w__law_chain
def spLaw (K : PySem.W.Frag) : Sp := fun vs H Q _ => ∃ (a : Addr) (ns : List Int), vs = [.ref a] ∧ SqL K H a (ns.map V.int) ∧ ∀ H', Q (.bl true) H'
theorem law_nox {f : Addr} {fd : FuncData} {k : Nat} {ps : List Str} (F : FnOk P w K mg base (L2.CX P w) k f fd ps (spLaw K)) : FnOk P w K mg base (fun _ _ _ _ _ _ => False) k f fd ps (spLaw K) := by
  refine ⟨F.len, fun A outer s H args us vs Q E hr he hb hv hs => codeAny_mono (F.run A outer s H args us vs Q (fun _ _ _ => False) hr he hb hv hs) fun r s' q => ?_⟩
  cases r with
  | error e =>
    obtain ⟨_, _, _, _, _, _, _, _, _, _, _, _, z⟩ := q
    exact z.elim
  | ok fl => cases fl <;> exact q
theorem facts {f : Addr} (X : K.In h) (G : h.Ns mainGlobals mg) (hfa : mg ("law" : Str) = some (.ref f)) (c : Fc K) :
    ∃ fd : FuncData, (∀ (s : Shared) (v : Value), BindsTo s fd ⟨[v], []⟩ [("script", v)]) ∧ ∀ base : Heap, FnOk P w K mg base (fun _ _ _ _ _ _ => False) 41 f fd ["script"] (spLaw K) := by
  obtain ⟨fdh, Fh⟩ := c.d.def_ 29 (d := Hd.d29) rfl
  obtain ⟨fd, F⟩ := c.d.def_ 43 (d := Hd.d43) rfl
  have e := hfa.symm.trans (He.glo_ok X G (c.d.fact 33 (f := .glo "law") rfl))
  cases e
  have b := FunD.bindsA (ps := ["script"]) F (fun _ _ _ _ _ _ us hl => match us, hl with | [_], _ => rfl)
  refine ⟨fd, fun s v => b s [v] rfl, fun base => ?_⟩
  have Oh := handOkFn (base := base) (P := P) (w := w) (k := 0) (fn := fun sp => sp ∈ ([] : List FSpec)) (mk := fun sp => sp ∈ ([] : List CSpec)) (gl := fun x d => (x, d) ∈ gll) (kc := fun x => x ∈ kcl) ⟨kok_of X G c.k, (fun _ z => absurd z List.not_mem_nil), (fun _ z => absurd z List.not_mem_nil), gls X G c, kcs c⟩ (a := 163) (b := 3) Fh (C8.fnScope_by (by decide +kernel)) (by decide +kernel) (by decide +kernel) (by decide)
  refine law_nox ?_
  exact lawOkFn (base := base) (P := P) (w := w) (k := 40) (fn := fun sp => sp ∈ ([s__law_is_ring, s_forbids, s__law_draw, s__law_any, s__law_rows, s__law_choice, s__law_is_told, s__law_chain, s__law_is_fitting] : List FSpec)) (mk := fun sp => sp ∈ ([m_Record] : List CSpec)) (gl := fun x d => (x, d) ∈ gll) (kc := fun x => x ∈ kcl) ⟨kok_of X G c.k, (List.forall_mem_cons.mpr ⟨⟨G__law_is_ring X G c, Nat.le_of_ble_eq_true rfl⟩, (List.forall_mem_cons.mpr ⟨⟨G_forbids X G c, Nat.le_of_ble_eq_true rfl⟩, (List.forall_mem_cons.mpr ⟨⟨G__law_draw X G c, Nat.le_of_ble_eq_true rfl⟩, (List.forall_mem_cons.mpr ⟨⟨G__law_any X G c, Nat.le_of_ble_eq_true rfl⟩, (List.forall_mem_cons.mpr ⟨⟨G__law_rows X G c, Nat.le_of_ble_eq_true rfl⟩, (List.forall_mem_cons.mpr ⟨⟨G__law_choice X G c, Nat.le_of_ble_eq_true rfl⟩, (List.forall_mem_cons.mpr ⟨⟨G__law_is_told X G c, Nat.le_of_ble_eq_true rfl⟩, (List.forall_mem_cons.mpr ⟨⟨G__law_chain X G c, Nat.le_of_ble_eq_true rfl⟩, (List.forall_mem_cons.mpr ⟨⟨G__law_is_fitting X G c, Nat.le_of_ble_eq_true rfl⟩, (fun _ z => absurd z List.not_mem_nil)⟩)⟩)⟩)⟩)⟩)⟩)⟩)⟩)⟩), (List.forall_mem_cons.mpr ⟨⟨Gm_Record X G c, Nat.le_of_ble_eq_true rfl⟩, (fun _ z => absurd z List.not_mem_nil)⟩), gls X G c, kcs c⟩ (i := 1) F (C8.fnScope_by (N := n_law) (by decide +kernel)) Oh (Nat.le_of_ble_eq_true rfl) (Fh.bindsN (fun _ _ _ _ _ _ us hl => match us, hl with | [_], _ => rfl)) Fh.kp (He.glo_ok X G (c.d.fact 19 (f := .glo "_law_hand") rfl)) (by decide +kernel) (by decide +kernel) rfl (by decide +kernel) (by decide) (m := b_law) (by simp [b_law, UsS, Us, UsL, UsF, gll, kcl]) (by decide +kernel) w_law
end
end Jn
open PySem PySem.W PySem.Calls PyProof.Rows
set_option maxRecDepth 100000 in
set_option maxHeartbeats 8000000 in
theorem PySem.Challenge.cw_shownwants_k13_whole_forbids_holds : PySem.Challenge.rw_shownwants_k13_whole_forbids.Holds := by
  w_on; o_law
  refine HandSHeadRun.head_any (r := OpenLaw.row PySem.Challenge.rw_shownwants_k13_whole_forbids) (q := view (OpenLaw.row PySem.Challenge.rw_shownwants_k13_whole_forbids).prog [52]) (H := Hd.hk) (ob := Hd.ob) (M := 6000) (loose := Hd.loose) (d := HandSHeadRun.topDef (OpenLaw.row PySem.Challenge.rw_shownwants_k13_whole_forbids).prog 52) (kwd := []) Hd.ob_eq
    (by kernel_rfl) (fun s => by kernel_rfl) Hd.run (by kernel_rfl) (by kernel_rfl) (by kernel_rfl) (by rfl) (by first | assumption | decide +kernel) (by decide +kernel) ⟨rfl, rfl, rfl, rfl, rfl, by decide +kernel⟩ ?hw ?hc
  case hw => w_witness2
  case hc =>
    refine L2.walk_ofE (l := PySem.Challenge.rw_shownwants_k13_whole_forbids) (n := 63) (k := 41) (x := "script") (CX := fun _ _ _ _ _ _ => False) rfl (by decide) (by kernel_rfl) ⟨rfl, by decide, by decide⟩ ?F (fun _ _ _ _ z => z)
    case F =>
      intro w mg fa h Y G hmg0
      obtain ⟨K, KX, c⟩ := Y
      have hmg : mg ("law" : PySem.Str) = some (.ref fa) := by
        have e : (HandSHeadRun.topDef (OpenLaw.row PySem.Challenge.rw_shownwants_k13_whole_forbids).prog 52).name = ("law" : PySem.Str) := by kernel_rfl
        rw [← e]
        exact hmg0
      obtain ⟨fd, hb, hF⟩ := Jn.facts (P := (PySem.Challenge.rw_shownwants_k13_whole_forbids).prog) (w := w) KX G hmg c
      exact ⟨K, fd, Jn.spLaw K, KX, hb, fun H a ns hl _ hS => ⟨a, ns, rfl, hS, fun _ => rfl⟩, fun base _ _ => hF base⟩

