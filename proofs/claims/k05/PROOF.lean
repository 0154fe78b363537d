import PyProof.Rows.All
import PySem.Syntax
import PyProof.P3Statements
import PyProof.StrBlock
import HandS.ForMost
import HandS.Exc
import HandS.WordsExc
import HandS.TryOnly
import HandS.TryMany
import HandS.ExcOwn
import HandS.IsInst
import HandS.Wide
import HandS.Flow
import HandS.More
import HandS.ExcIs
import HandS.TupAny
import HandS.Deep
import HandS.ListItems
import HandS.Iter
import HandS.Zip
import KE.GoesMore
import PyProof.Draws
import PyProof.EnumMake
import KE.GoesZip
import KE.GoesEnum
import HandS.Conv
import HandS.Dict
import KE.KStateDown
import HandS.Ends
import HandS.EndBits
import HandS.Defaults
import HandS.Codes
import HandS.Head0
import HandS.Head1
import HandS.Head2
import HandS.HeadEnd
import HandS.HeadHook1
import HandS.HeadHook2
import Wide.Once
import PyProof.TableCode
import PySem.Challenge.RW_sourceweights_k05_order_of_weights
set_option linter.all false
set_option maxRecDepth 100000
/-! Iv, part 1: values, compiled terms, and the interpreter on them (no heap). -/
namespace Iv
open PySem (Operator CmpOp)

/-- a text: its code points -/
abbrev Tx := List Nat
def tx (s : String) : Tx := s.toList.map Char.toNat

inductive D where
  | non | bl (b : Bool) | int (i : Int) | str (s : Tx)
  | tup (l : List D) | lst (l : List D) | dct (l : List (D × D)) | set (l : List D) | dtn (l : List (D × D))
  deriving Inhabited

/-- what a slot holds: nothing; a value that is never changed; a list (dict, set) that this frame alone refers to; the same while it is walked; a caught exception -/
inductive Sl where
  | no | sh (d : D) | ow (d : D) | lk (d : D) | ex (c : String) (fs : List (String × D))
  deriving Inhabited
abbrev Rho := List Sl

/-- an expression's outcome: a value; a new list that nothing refers to yet; the list that slot i owns -/
inductive A where
  | val (d : D) | fr (d : D) | rf (i : Nat)
  deriving Inhabited

inductive Out (α : Type) where
  | ok (a : α) (ρ : Rho) | exc (c : String) (fs : List (String × D)) (ρ : Rho) | stuck

abbrev M (α : Type) := Rho → Out α
section
variable {α β : Type}
def ret (a : α) : M α := fun ρ => .ok a ρ
def bnd (m : M α) (f : α → M β) : M β := fun ρ => match m ρ with
  | .ok a ρ' => f a ρ'
  | .exc c fs ρ' => .exc c fs ρ'
  | .stuck => .stuck
def fail : M α := fun _ => .stuck
def opt (o : Option α) : M α := fun ρ => match o with | some a => .ok a ρ | none => .stuck
def grd (b : Bool) : M Unit := fun ρ => if b = true then .ok () ρ else .stuck
def slot (i : Nat) : M Sl := fun ρ => match ρ[i]? with | some s => .ok s ρ | none => .stuck
def putSl (i : Nat) (s : Sl) : M Unit := fun ρ => .ok () (ρ.set i s)
/-- exceptions are not let through -/
def noexc (m : M α) : M α := fun ρ => match m ρ with | .ok a ρ' => .ok a ρ' | _ => .stuck
end

def sizeLine : Nat := 16777216

/-! ### operations on values -/
mutual
def D.eq : D → D → Bool
  | .non, .non => true
  | .bl a, .bl b => a == b
  | .int i, .int j => i == j
  | .str s, .str t => s == t
  | .tup l, .tup m => D.eqL l m
  | .lst l, .lst m => D.eqL l m
  | .dct l, .dct m => D.eqK l m
  | .set l, .set m => D.eqL l m
  | .dtn l, .dtn m => D.eqK l m
  | _, _ => false
def D.eqL : List D → List D → Bool
  | [], [] => true
  | a :: l, b :: m => D.eq a b && D.eqL l m
  | _, _ => false
def D.eqK : List (D × D) → List (D × D) → Bool
  | [], [] => true
  | (a, c) :: l, (b, d) :: m => D.eq a b && (D.eq c d && D.eqK l m)
  | _, _ => false
end

/-! as the library's data (no dicts, no sets) -/
mutual
def D.py : D → Option PySem.PyData
  | .non => some .none
  | .bl b => some (.bool b)
  | .int i => some (.int i)
  | .str s => some (.str ⟨s.toArray⟩)
  | .tup l => (D.pyL l).map .tuple
  | .lst l => (D.pyL l).map .list
  | .dct _ => none
  | .set _ => none
  | .dtn _ => none
def D.pyL : List D → Option (List PySem.PyData)
  | [] => some []
  | d :: l => match D.py d with
    | some a => (match D.pyL l with | some b => some (a :: b) | none => none)
    | none => none
end

/-! == as Python has it: True is 1 -/
mutual
def D.pe : D → D → Bool
  | .non, .non => true
  | .bl a, .bl b => a == b
  | .bl a, .int j => (if a then 1 else 0) == j
  | .int i, .bl b => i == (if b then 1 else 0)
  | .int i, .int j => i == j
  | .str s, .str t => s == t
  | .tup l, .tup m => D.peL l m
  | .lst l, .lst m => D.peL l m
  | _, _ => false
def D.peL : List D → List D → Bool
  | [], [] => true
  | a :: l, b :: m => D.pe a b && D.peL l m
  | _, _ => false
end
mutual
def D.dep : D → Nat
  | .tup l => D.depL l + 1
  | .lst l => D.depL l + 1
  | .dct _ => 0
  | .set _ => 0
  | .dtn _ => 0
  | .non => 0
  | .bl _ => 0
  | .int _ => 0
  | .str _ => 0
def D.depL : List D → Nat
  | [] => 0
  | d :: l => max (D.dep d) (D.depL l)
end
/-! no dict, no set within -/
mutual
def D.pln : D → Bool
  | .tup l => D.plnL l
  | .lst l => D.plnL l
  | .dct _ => false
  | .set _ => false
  | .dtn _ => false
  | .non => true
  | .bl _ => true
  | .int _ => true
  | .str _ => true
def D.plnL : List D → Bool
  | [] => true
  | d :: l => D.pln d && D.plnL l
end
def D.cmpable (d : D) : Bool := d.pln && decide (d.dep ≤ 64)

def mulOk (i j : Int) : Bool := decide (i.natAbs.log2 + j.natAbs.log2 < 100000000)
def divOk (j : Int) : Bool := decide (j ≠ 0) && decide (j.natAbs.log2 < 9000)
def powOk (i j : Int) : Bool := decide (0 ≤ j) && decide (j ≤ 1000000) && decide (i.natAbs < 2 ^ 64)
def guardO {α : Type} (b : Bool) (a : α) : Option α := if b = true then some a else none

def binD : Operator → D → D → Option A
  | .Add, .int i, .int j => some (.val (.int (i + j)))
  | .Add, .str s, .str t => guardO (decide (s.length + t.length ≤ sizeLine)) (.val (.str (s ++ t)))
  | .Add, .tup l, .tup m => guardO (decide (l.length + m.length ≤ sizeLine)) (.val (.tup (l ++ m)))
  | .Add, .lst l, .lst m => guardO (decide (l.length + m.length ≤ sizeLine)) (.fr (.lst (l ++ m)))
  | .Sub, .int i, .int j => some (.val (.int (i - j)))
  | .Mult, .int i, .int j => guardO (mulOk i j) (.val (.int (i * j)))
  | .FloorDiv, .int i, .int j => guardO (divOk j) (.val (.int (i.fdiv j)))
  | .Mod, .int i, .int j => guardO (decide (j ≠ 0)) (.val (.int (i.fmod j)))
  | .Pow, .int i, .int j => guardO (powOk i j) (.val (.int (i ^ j.toNat)))
  | .BitAnd, .int i, .int j => some (.val (.int (PySem.Builtin.bitAnd i j)))
  | .BitOr, .int i, .int j => some (.val (.int (PySem.Builtin.bitOr i j)))
  | .BitXor, .int i, .int j => some (.val (.int (PySem.Builtin.bitXor i j)))
  | _, _, _ => none

/-- a flat key -/
def D.key : D → Bool
  | .int _ => true
  | .str _ => true
  | _ => false
/-- a key that is a tuple of flat ones -/
def D.keyT : D → Bool
  | .tup l => l.all D.key
  | _ => false
def dget (l : List (D × D)) (k : D) : Option D := match l with
  | [] => none
  | (a, v) :: r => if D.eq a k = true then some v else dget r k
def dput (l : List (D × D)) (k v : D) : List (D × D) :=
  if (l.any fun p => D.eq p.1 k) = true then l.map (fun p => if D.eq p.1 k = true then (p.1, v) else p) else l ++ [(k, v)]

/-- x in l -/
def memD (x : D) : List D → Bool
  | [] => false
  | y :: r => D.pe y x || memD x r
/-- texts by their code points -/
def ltTx (s t : Tx) : Bool := decide (s < t)

def inD (x : D) : D → Option Bool
  | .tup l => guardO (x.cmpable && D.plnL l) (memD x l)
  | .lst l => guardO (x.cmpable && D.plnL l) (memD x l)
  | .str t => match x with
    | .str [c] => some (t.contains c)
    | _ => none
  | .dct l => guardO x.key (dget l x).isSome
  | .dtn l => guardO x.keyT (dget l x).isSome
  | _ => none
def ltD : D → D → Option Bool
  | .int i, .int j => some (decide (i < j))
  | .str s, .str t => some (ltTx s t)
  | _, _ => none
def leD : D → D → Option Bool
  | .int i, .int j => some (decide (i ≤ j))
  | .str s, .str t => some (!ltTx t s)
  | _, _ => none
def D.isNon : D → Bool
  | .non => true
  | _ => false
def cmpD : CmpOp → D → D → Option Bool
  | .Eq, a, b => guardO (a.cmpable && b.cmpable) (D.pe a b)
  | .NotEq, a, b => guardO (a.cmpable && b.cmpable) (!D.pe a b)
  | .Lt, a, b => ltD a b
  | .LtE, a, b => leD a b
  | .Gt, a, b => ltD b a
  | .GtE, a, b => leD b a
  | .In, a, b => inD a b
  | .NotIn, a, b => (inD a b).map (!·)
  | .Is, a, .non => some (D.isNon a)
  | .IsNot, a, .non => some (!D.isNon a)
  | _, _, _ => none

def truthD : D → Option Bool
  | .non => some false
  | .bl b => some b
  | .int i => some (i != 0)
  | .str s => guardO (decide (s.length ≤ sizeLine)) (!s.isEmpty)
  | .tup l => some (!l.isEmpty)
  | .lst l => some (!l.isEmpty)
  | .dct l => some (!l.isEmpty)
  | .set _ => none
  | .dtn _ => none

/-- the place that index i means in n items -/
def ixN (n : Nat) (i : Int) : Option Nat := if 0 ≤ i then (if i < n then some i.toNat else none) else if -(n : Int) ≤ i then some (i + n).toNat else none
def idxD : D → D → Option D
  | .tup l, .int i => (ixN l.length i).bind fun j => l[j]?
  | .lst l, .int i => (ixN l.length i).bind fun j => l[j]?
  | .str s, .int i => (guardO (decide (s.length ≤ sizeLine)) ()).bind fun _ => (ixN s.length i).bind fun j => s[j]?.map fun c => .str [c]
  | .dct l, k => (guardO k.key ()).bind fun _ => dget l k
  | .dtn l, k => (guardO k.keyT ()).bind fun _ => dget l k
  | _, _ => none
/-- a slice's bound -/
def slN (n d : Nat) : Option Int → Nat
  | none => d
  | some v => if v < 0 then (v + (n : Int)).toNat else min v.toNat n
def cutL {α : Type} (l : List α) (lo hi : Option Int) : List α := (l.drop (slN l.length 0 lo)).take (slN l.length l.length hi - slN l.length 0 lo)
def slcD : D → Option Int → Option Int → Option A
  | .tup l, lo, hi => some (.val (.tup (cutL l lo hi)))
  | .lst l, lo, hi => some (.fr (.lst (cutL l lo hi)))
  | .str s, lo, hi => guardO (decide (s.length ≤ sizeLine)) (.val (.str (cutL s lo hi)))
  | _, _, _ => none

def digits (n : Nat) : Tx := tx (toString n)
def strInt (i : Int) : Tx := tx (toString i)

def allBl : List D → Option (List Bool)
  | [] => some []
  | .bl b :: r => (allBl r).map (b :: ·)
  | _ :: _ => none
def allInt : List D → Option (List Int)
  | [] => some []
  | .int i :: r => (allInt r).map (i :: ·)
  | _ :: _ => none
def maxL : Int → List Int → Int
  | m, [] => m
  | m, x :: r => maxL (if x > m then x else m) r
def minL : Int → List Int → Int
  | m, [] => m
  | m, x :: r => minL (if x < m then x else m) r

/-- built-in functions by values -/
def biD : String → List D → Option A
  | "len", [.tup l] => some (.val (.int l.length))
  | "len", [.lst l] => some (.val (.int l.length))
  | "len", [.dct l] => some (.val (.int l.length))
  | "len", [.str s] => guardO (decide (s.length ≤ sizeLine)) (.val (.int s.length))
  | "abs", [.int i] => some (.val (.int (if i < 0 then -i else i)))
  | "max", [.int i, .int j] => some (.val (.int (if j > i then j else i)))
  | "min", [.int i, .int j] => some (.val (.int (if j < i then j else i)))
  | "int", [.int i] => some (.val (.int i))
  | "int", [.bl b] => some (.val (.int (if b then 1 else 0)))
  | "str", [.bl b] => some (.val (.str (tx (if b then "True" else "False"))))
  | "str", [.non] => some (.val (.str (tx "None")))
  | "str", [.int i] => guardO (decide (i.natAbs.log2 < 1920)) (.val (.str (strInt i)))
  | "list", [.lst l] => some (.fr (.lst l))
  | "list", [.tup l] => some (.fr (.lst l))
  | "tuple", [.lst l] => some (.val (.tup l))
  | "tuple", [.tup l] => some (.val (.tup l))
  | "any", [.lst l] => (allBl l).map fun bs => .val (.bl (bs.any id))
  | "all", [.lst l] => (allBl l).map fun bs => .val (.bl (bs.all id))
  | "sum", [.lst l] => (allInt l).map fun ns => .val (.int ns.sum)
  | _, _ => none

/-- not within an except suite -/
def coldBi (f : String) : Bool := ["max", "min", "any", "all", "sum"].contains f

/-- the type's own names, its bases' behind -/
def tyNames : D → List String
  | .non => ["NoneType"]
  | .bl _ => ["bool", "int"]
  | .int _ => ["int"]
  | .str _ => ["str"]
  | .tup _ => ["tuple"]
  | .lst _ => ["list"]
  | .dct _ => ["dict"]
  | .set _ => ["set"]
  | .dtn _ => ["dict"]
def isiD (d : D) (ts : List String) : Bool := ts.any fun t => (tyNames d).contains t

def upTx (s : Tx) : Option Tx := guardO ((PySem.Txt.upper ⟨s.toArray⟩).cps.toList.all fun c => decide (c < 1114112)) (PySem.Txt.upper ⟨s.toArray⟩).cps.toList

/-! methods by values: what the receiver is afterwards (none: as it was), the answer -/
def mAppend : D → List D → Option (Option D × A)
  | .lst l, [d] => guardO (decide (l.length < sizeLine)) (some (.lst (l ++ [d])), .val .non)
  | _, _ => none
def mExtend : D → List D → Option (Option D × A)
  | .lst l, [.tup m] => guardO (decide (l.length + m.length ≤ sizeLine)) (some (.lst (l ++ m)), .val .non)
  | .lst l, [.lst m] => guardO (decide (l.length + m.length ≤ sizeLine)) (some (.lst (l ++ m)), .val .non)
  | _, _ => none
def mInsert : D → List D → Option (Option D × A)
  | .lst l, [.int i, d] => guardO (decide (0 ≤ i) && decide (i.toNat ≤ 1000000) && decide (l.length < sizeLine)) (some (.lst (l.take i.toNat ++ [d] ++ l.drop i.toNat)), .val .non)
  | _, _ => none
def mIndex : D → List D → Option (Option D × A)
  | .lst l, [d] => (guardO (d.cmpable && (D.lst l).cmpable) ()).bind fun _ => (l.findIdx? fun y => D.pe y d).map fun (j : Nat) => (none, .val (.int (j : Int)))
  | _, _ => none
def mUpper : D → List D → Option (Option D × A)
  | .str s, [] => (guardO (decide (s.length ≤ 5592405)) ()).bind fun _ => (upTx s).map fun t => (none, .val (.str t))
  | _, _ => none
/-- never a list, never a dict -/
def fix0 : D → Bool
  | .lst _ => false
  | .dct _ => false
  | .set _ => false
  | .dtn _ => false
  | _ => true
def isDct : D → Bool
  | .dct _ => true
  | _ => false
/-- d.get(k, e) -/
def getD2 : D → D → D → Option D
  | .dct l, k, d => guardO (k.key && fix0 d) ((dget l k).getD d)
  | _, _, _ => none
def mthD : String → D → List D → Option (Option D × A)
  | "append" => mAppend
  | "extend" => mExtend
  | "insert" => mInsert
  | "index" => mIndex
  | "upper" => mUpper
  | _ => fun _ _ => none
/-- of which type a method is -/
def mtTy (m : String) : String := if ["append", "extend", "insert", "index", "reverse", "pop"].contains m then "list" else if ["get", "setdefault"].contains m then "dict" else "str"
def mkind (m : String) : D → Bool
  | .lst _ => mtTy m == "list"
  | .dct _ => mtTy m == "dict"
  | .str _ => mtTy m == "str"
  | _ => false
/-- methods that keep their arguments -/
def keeps (m : String) : Bool := m == "append" || m == "insert" || m == "setdefault"

/-! ### compiled terms -/
inductive Tgt where
  | var (i : Nat) | tup (l : List Tgt)
inductive CE where
  | var (i : Nat) | glo (x : String) | cst (d : D)
  | tup (l : List CE) | lst (l : List CE) | dct0
  | bin (o : Operator) (a b : CE) | neg (a : CE)
  | cmp (o : CmpOp) (a b : CE) | chn (o o' : CmpOp) (a b c : CE)
  | and (a b : CE) | or (a b : CE) | not (a : CE) | ite (c a b : CE)
  | idx (a i : CE) | gix (x : String) (a : CE) | slc (a : CE) (lo hi : Option CE)
  | call (f : String) (l : List CE) | callk (f : String) (l : List CE) (ns : List String) (ks : List CE) (pm : List Nat)
  | bi (f : String) (l : List CE) | isi (a : CE) (ts : List String) | isx (i : Nat) (c : String) | fld (i : Nat) (f : String)
  | mth (a : CE) (m : String) (l : List CE)
  | bad | dctN | dctC (l : List (D × D)) | trng (a : CE) | mget (a k d : CE)
  | comp (e : CE) (t : Tgt) (k : String) (s : List CE) (cs : List CE) (own : List Nat) (n : Nat)
  | comp2 (e : CE) (t : Tgt) (k : String) (s : List CE) (cs : List CE) (t' : Tgt) (k' : String) (s' : List CE) (cs' : List CE) (own own' : List Nat)
inductive CS where
  | asg (t : Tgt) (e : CE) | par (i j : Nat) (a b : CE) | six (a i e : CE) | sixT (a : CE) (ks : List CE) (e : CE) | aug (i : Nat) (o : Operator) (e : CE)
  | ret (e : CE) | expr (e : CE) | ite (c : CE) (a b : List CS)
  | for_ (t : Tgt) (k : String) (s : List CE) (b : List CS) | whl (c : CE) (b : List CS)
  | pass | brk | cnt | raise (c : String) (f : Option (String × CE))
  | try_ (b : List CS) (hs : List (String × Option Nat × List CS))
  | bad

structure Fn where
  np : Nat
  nn : Nat
  ps : List String
  body : List CS

/-! ### the interpreter -/
inductive COut where
  | ok (a : A) (outs : Rho) | exc (c : String) (fs : List (String × D)) (outs : Rho) | stuck
structure Env where
  glob : String → Option D
  gdct : String → Option (List (Tx × D))
  fn : String → Option Fn
  sub : String → String → Option Bool

def getv (i : Nat) : M A := bnd (slot i) fun s => match s with
  | .sh d => ret (.val d)
  | .ow _ => ret (.rf i)
  | .lk _ => ret (.rf i)
  | _ => fail
/-- the content, read now -/
def rd : A → M D
  | .val d => ret d
  | .fr d => ret d
  | .rf i => bnd (slot i) fun s => match s with
    | .sh d => ret d
    | .ow d => ret d
    | .lk d => ret d
    | _ => fail
/-- to be kept somewhere: from now on never changed -/
def stv : A → M D
  | .val d => ret d
  | .fr d => ret d
  | .rf i => bnd (slot i) fun s => match s with
    | .sh d => ret d
    | .ow d => bnd (putSl i (.sh d)) fun _ => ret d
    | _ => fail
def rdL : List A → M (List D)
  | [] => ret []
  | a :: r => bnd (rd a) fun d => bnd (rdL r) fun ds => ret (d :: ds)
def slOf : A → M Sl
  | .val d => ret (.sh d)
  | .fr d => ret (.ow d)
  | .rf i => bnd (slot i) fun s => match s with
    | .sh d => ret (.sh d)
    | .ow d => ret (.ow d)
    | .lk d => ret (.lk d)
    | _ => fail
def slsOf : List A → M Rho
  | [] => ret []
  | a :: r => bnd (slOf a) fun s => bnd (slsOf r) fun ss => ret (s :: ss)
def refs : List A → List Nat
  | [] => []
  | .rf i :: r => i :: refs r
  | _ :: r => refs r
def nodupN : List Nat → Bool
  | [] => true
  | i :: r => !(r.contains i) && nodupN r
/-- slot i holds an owned one -/
def owAt (ρ : Rho) (i : Nat) : Bool := match ρ[i]? with
  | some (.ow _) => true
  | some (.lk _) => true
  | _ => false
def putOuts : List A → Rho → Rho → Rho
  | .rf i :: r, s :: ss, ρ => putOuts r ss (if owAt ρ i = true then ρ.set i s else ρ)
  | _ :: r, _ :: ss, ρ => putOuts r ss ρ
  | _, _, ρ => ρ
def callM (Φ : String → Rho → COut) (f : String) (as : List A) : M A :=
  bnd (grd (nodupN (refs as))) fun _ => bnd (slsOf as) fun ss => fun ρ => match Φ f ss with
    | .ok (.rf _) _ => .stuck
    | .ok a outs => .ok a (putOuts as outs ρ)
    | .exc c fs outs => .exc c fs (putOuts as outs ρ)
    | .stuck => .stuck

/-- locked, or a caught exception: not to be set -/
def fixS : Sl → Bool
  | .lk _ => true
  | .ex _ _ => true
  | _ => false
def putF (i : Nat) (s : Sl) : M Unit := bnd (slot i) fun s0 => bnd (grd (!fixS s0)) fun _ => putSl i s
/-- assignment to slot i; pn: the parameters that came as owned lists -/
def asgV (pn : List Bool) (i : Nat) (a : A) : M Unit :=
  bnd (grd (!(pn.getD i false))) fun _ => match a with
    | .val d => putF i (.sh d)
    | .fr d => putF i (.ow d)
    | .rf j => bnd (stv (.rf j)) fun d => putF i (.sh d)
def isVarT : Tgt → Bool
  | .var _ => true
  | _ => false
def seqOf : D → Option (List D)
  | .tup l => some l
  | .lst l => some l
  | _ => none
mutual
def asgT (pn : List Bool) : Tgt → A → M Unit
  | .var i, a => asgV pn i a
  | .tup ts, a => bnd (rd a) fun d => bnd (opt (seqOf d)) fun l => bnd (grd (l.length == ts.length)) fun _ => asgTs pn ts l
def asgTs (pn : List Bool) : List Tgt → List D → M Unit
  | [], [] => ret ()
  | [], _ :: _ => fail
  | t :: ts, d :: l => bnd (asgT pn t (.val d)) fun _ => asgTs pn ts l
  | _ :: _, [] => fail
end

/-- what is walked: the items, the slot that is locked meanwhile -/
def rngL (lo : Int) : Nat → List D
  | 0 => []
  | n + 1 => .int lo :: rngL (lo + 1) n
def rngOk (i : Int) : Bool := decide (i.natAbs < 4611686018427387904)
theorem rngOk_le {i : Int} (h : rngOk i = true) : -(2 ^ 62) ≤ i ∧ i < 2 ^ 62 := by
  have := of_decide_eq_true h
  omega
def enumL : Nat → List D → List D
  | _, [] => []
  | n, d :: r => .tup [.int n, d] :: enumL (n + 1) r
def zipL : List D → List D → List D
  | a :: l, b :: m => .tup [a, b] :: zipL l m
  | _, _ => []
def itemsOf : String → List D → Option (List D)
  | "", [.tup l] => some l
  | "", [.lst l] => some l
  | "", [.str s] => some (s.map fun c => .str [c])
  | "range", [.int j] => guardO (rngOk j) (rngL 0 j.toNat)
  | "range", [.int i, .int j] => guardO (rngOk i && rngOk j) (rngL i (j - i).toNat)
  | "enumerate", [.lst l] => some (enumL 0 l)
  | "enumerate", [.tup l] => some (enumL 0 l)
  | "zip", [.lst l, .lst m] => some (zipL l m)
  | "zip", [.tup l, .tup m] => some (zipL l m)
  | "zip", [.tup l, .lst m] => some (zipL l m)
  | "zip", [.lst l, .tup m] => some (zipL l m)
  | _, _ => none
def lockS : Sl → Sl
  | .ow d => .lk d
  | s => s
def unlockS : Sl → Sl
  | .lk d => .ow d
  | s => s
/-- the slots to be locked: owned, not locked already -/
def toLock (as : List A) (ρ : Rho) : List Nat := (refs as).filter fun i => match ρ[i]? with | some (.ow _) => true | _ => false
def mapAt (f : Sl → Sl) (is : List Nat) (ρ : Rho) : Rho := is.foldl (fun r i => match r[i]? with | some s => r.set i (f s) | none => r) ρ
def Out.mapR {α : Type} (f : Rho → Rho) : Out α → Out α
  | .ok a ρ => .ok a (f ρ)
  | .exc c fs ρ => .exc c fs (f ρ)
  | .stuck => .stuck
def locked {α : Type} (as : List A) (m : M α) : M α := fun ρ => (m (mapAt lockS (toLock as ρ) ρ)).mapR (mapAt unlockS (toLock as ρ))

/-- own slots empty within, as they were behind -/
def wipeR (own : List Nat) (ρ : Rho) : Rho := own.foldl (fun r i => r.set i .no) ρ
def backR (own : List Nat) (ρ ρ' : Rho) : Rho := own.foldl (fun r i => match ρ[i]? with | some s => r.set i s | none => r) ρ'
def within {α : Type} (own : List Nat) (m : M α) : M α := fun ρ => match m (wipeR own ρ) with
  | .ok a ρ' => .ok a (backR own ρ ρ')
  | _ => .stuck

/-- all but own is pinned -/
def pnOf (own : List Nat) (n : Nat) : List Bool := (List.range n).map fun i => !(own.contains i)
def lenIs (n : Nat) : M Unit := fun ρ => if ρ.length = n then .ok () ρ else .stuck
/-- the items for which the test holds, each by e; own slots emptied at each turn -/
def compL (own : List Nat) (asg : D → M Unit) (test : M Bool) (e : M D) : List D → List D → M (List D)
  | [], acc => fun ρ => .ok acc (wipeR own ρ)
  | d :: r, acc => bnd (fun ρ => .ok () (wipeR own ρ)) fun _ => bnd (asg d) fun _ => bnd test fun b =>
    if b = true then bnd e fun x => bnd (grd (decide (acc.length < sizeLine))) fun _ => compL own asg test e r (acc ++ [x]) else compL own asg test e r acc
def trngD : D → Option D
  | .int i => guardO (rngOk i && decide (i.toNat ≤ 16777216)) (.tup (rngL 0 i.toNat))
  | _ => none
/-- two clauses: inner gives the items of the second walk with its lock -/
def compL2 (own : List Nat) (asg : D → M Unit) (test : M Bool) (inner : List D → M (List D)) : List D → List D → M (List D)
  | [], acc => ret acc
  | d :: r, acc => bnd (fun ρ => .ok () (wipeR own ρ)) fun _ => bnd (asg d) fun _ => bnd test fun b =>
    if b = true then bnd (inner acc) fun acc' => compL2 own asg test inner r acc' else compL2 own asg test inner r acc

def pickL {α : Type} : List Nat → List α → List α
  | [], _ => []
  | i :: r, l => match l[i]? with
    | some a => a :: pickL r l
    | none => pickL r l
/-- a method's change of its receiver -/
def mput : A → Option D → M Unit
  | _, none => ret ()
  | .rf i, some d => bnd (slot i) fun s => match s with
    | .ow _ => putSl i (.ow d)
    | _ => fail
  | _, some _ => fail
/-- as a test -/
def tst (m : M A) : M Bool := bnd m fun x => bnd (rd x) fun d => opt (truthD d)
section
variable (V : Env) (Φ : String → Rho → COut) (hot : Bool)
mutual
def ev : CE → M A
  | .var i => getv i
  | .glo x => bnd (opt (V.glob x)) fun d => ret (.val d)
  | .cst d => ret (.val d)
  | .tup l => bnd (evS l) fun ds => bnd (grd (decide (ds.length ≤ sizeLine))) fun _ => ret (.val (.tup ds))
  | .lst l => bnd (evS l) fun ds => bnd (grd (decide (ds.length ≤ sizeLine))) fun _ => ret (.fr (.lst ds))
  | .dct0 => ret (.fr (.dct []))
  | .bin o a b => bnd (ev a) fun x => bnd (ev b) fun y => bnd (rd x) fun d => bnd (rd y) fun d' => opt (binD o d d')
  | .neg a => bnd (ev a) fun x => bnd (rd x) fun d => match d with | .int i => ret (.val (.int (-i))) | _ => fail
  | .cmp o a b => bnd (ev a) fun x => bnd (ev b) fun y => bnd (rd x) fun d => bnd (rd y) fun d' => bnd (opt (cmpD o d d')) fun k => ret (.val (.bl k))
  | .chn o o' a b c => bnd (ev a) fun x => bnd (ev b) fun y => bnd (rd x) fun d => bnd (rd y) fun d' => bnd (opt (cmpD o d d')) fun k =>
    if k = true then bnd (ev c) fun z => bnd (rd y) fun d' => bnd (rd z) fun e => bnd (opt (cmpD o' d' e)) fun k' => ret (.val (.bl k')) else ret (.val (.bl false))
  | .and a b => bnd (ev a) fun x => bnd (rd x) fun d => bnd (opt (truthD d)) fun k => if k = true then ev b else ret x
  | .or a b => bnd (ev a) fun x => bnd (rd x) fun d => bnd (opt (truthD d)) fun k => if k = true then ret x else ev b
  | .not a => bnd (tst (ev a)) fun k => ret (.val (.bl (!k)))
  | .ite c a b => bnd (tst (ev c)) fun k => if k = true then ev a else ev b
  | .idx a i => bnd (ev a) fun x => bnd (ev i) fun y => bnd (rd x) fun d => bnd (rd y) fun j => bnd (opt (idxD d j)) fun r => ret (.val r)
  | .gix x a => bnd (ev a) fun y => bnd (rd y) fun j => match j with | .str s => bnd (opt ((V.gdct x).bind fun l => l.lookup s)) fun d => ret (.val d) | _ => fail
  | .slc a lo hi => bnd (ev a) fun x => bnd (evO lo) fun l => bnd (evO hi) fun h => bnd (rd x) fun d => opt (slcD d l h)
  | .call f l => bnd (grd (!hot)) fun _ => bnd (evA l) fun as => callM Φ f as
  | .callk f l ns ks pm => bnd (grd (!hot)) fun _ => bnd (evA l) fun as => bnd (evA ks) fun bs => bnd (grd (nodupN pm && pm.all fun i => decide (i < bs.length))) fun _ => callM Φ f (as ++ pickL pm bs)
  | .bi f l => bnd (grd (!(hot && coldBi f))) fun _ => bnd (evA l) fun as => bnd (rdL as) fun ds => opt (biD f ds)
  | .isi a ts => bnd (ev a) fun x => bnd (rd x) fun d => ret (.val (.bl (isiD d ts)))
  | .isx i c => bnd (slot i) fun s => match s with | .ex c' [] => bnd (opt (V.sub c' c)) fun b => ret (.val (.bl b)) | _ => fail
  | .fld i f => bnd (slot i) fun s => match s with | .ex _ fs => bnd (opt (fs.lookup f)) fun d => ret (.val d) | _ => fail
  | .mth a m l => bnd (ev a) fun x => bnd (rd x) fun d0 => bnd (grd (mkind m d0)) fun _ => if keeps m = true
      then bnd (evS l) fun ds => bnd (rd x) fun d => bnd (opt (mthD m d ds)) fun r => bnd (mput x r.1) fun _ => ret r.2
      else bnd (evA l) fun as => bnd (rdL as) fun ds => bnd (rd x) fun d => bnd (opt (mthD m d ds)) fun r => bnd (mput x r.1) fun _ => ret r.2
  | .comp e t k s cs own n => bnd (grd (!hot)) fun _ => bnd (lenIs n) fun _ => bnd (evA s) fun as => bnd (grd ((refs as).all fun i => !(own.contains i))) fun _ => bnd (rdL as) fun ds => bnd (opt (itemsOf k ds)) fun items =>
    bnd (locked as (within own (compL own (fun d => asgT (pnOf own n) t (.val d)) (evTs cs) (bnd (ev e) stv) items []))) fun out => ret (.fr (.lst out))
  | .comp2 e t k s cs t' k' s' cs' own own' => bnd (grd (!hot)) fun _ => bnd (evA s) fun as => bnd (rdL as) fun ds => bnd (opt (itemsOf k ds)) fun items =>
    bnd (locked as (within own (compL2 own (fun d => asgT [] t (.val d)) (evTs cs)
      (fun acc => bnd (evA s') fun as' => bnd (rdL as') fun ds' => bnd (opt (itemsOf k' ds')) fun items' => locked as' (compL own' (fun d => asgT [] t' (.val d)) (evTs cs') (bnd (ev e) stv) items' acc)) items []))) fun out => ret (.fr (.lst out))
  | .mget a k d => bnd (ev a) fun x => bnd (rd x) fun o0 => bnd (grd (isDct o0)) fun _ => bnd (ev k) fun y => bnd (ev d) fun z => bnd (rd x) fun o => bnd (rd y) fun j => bnd (rd z) fun e => bnd (opt (getD2 o j e)) fun r => ret (.val r)
  | .dctN => ret (.fr (.dtn []))
  | .bad => fail
  | .dctC l => ret (.fr (.dct l))
  | .trng a => bnd (grd (!hot)) fun _ => bnd (ev a) fun x => bnd (rd x) fun d => bnd (opt (trngD d)) fun r => ret (.val r)
/-- each to be kept -/
def evS : List CE → M (List D)
  | [] => ret []
  | a :: l => bnd (ev a) fun x => bnd (stv x) fun d => bnd (evS l) fun ds => ret (d :: ds)
def evA : List CE → M (List A)
  | [] => ret []
  | a :: l => bnd (ev a) fun x => bnd (evA l) fun xs => ret (x :: xs)
def evO : Option CE → M (Option Int)
  | none => ret none
  | some a => bnd (ev a) fun x => bnd (rd x) fun d => match d with | .int i => ret (some i) | _ => fail
def evTs : List CE → M Bool
  | [] => ret true
  | c :: l => bnd (tst (ev c)) fun k => if k = true then evTs l else ret false
end
end

/-! ### statements -/
inductive Fl where
  | nx | bk | ct | rt (a : A)

def forL (asg : D → M Unit) (body : M Fl) : List D → M Fl
  | [] => ret .nx
  | d :: r => bnd (asg d) fun _ => bnd body fun f => match f with
    | .nx => forL asg body r
    | .ct => forL asg body r
    | .bk => ret .nx
    | .rt a => ret (.rt a)
def whlL (test : M Bool) (body : M Fl) : Nat → M Fl
  | 0 => fail
  | n + 1 => bnd test fun b => if b = true then bnd body fun f => match f with
      | .nx => whlL test body n
      | .ct => whlL test body n
      | .bk => ret .nx
      | .rt a => ret (.rt a)
    else ret .nx
def whileMost : Nat := 1000000
/-- what a return hands out: an owned parameter is kept by the caller, too; a list of one's own moves out -/
def retA (pn : List Bool) : A → M A
  | .val d => ret (.val d)
  | .fr d => ret (.fr d)
  | .rf i => if pn.getD i false = true then bnd (stv (.rf i)) fun d => ret (.val d)
    else bnd (slot i) fun s => match s with
      | .ow d => bnd (putSl i .no) fun _ => ret (.fr d)
      | .sh d => ret (.val d)
      | _ => fail
/-- the first handler that takes class c -/
def pick (V : Env) (c : String) : List (String × Option Nat × M Fl) → Option (Option (Option Nat × M Fl))
  | [] => some none
  | (k, i, m) :: r => match V.sub c k with
    | some true => some (some (i, m))
    | some false => pick V c r
    | none => none
def tryM (V : Env) (pn : List Bool) (m : M Fl) (hs : List (String × Option Nat × M Fl)) : M Fl := fun ρ => match m ρ with
  | .ok f ρ' => .ok f ρ'
  | .stuck => .stuck
  | .exc c fs ρ' => match pick V c hs with
    | none => .stuck
    | some none => .exc c fs ρ'
    | some (some (none, suite)) => noexc suite ρ'
    | some (some (some i, suite)) => bnd (grd (!(pn.getD i false))) (fun _ => bnd (putF i (.ex c fs)) fun _ => bnd (noexc suite) fun f => bnd (putSl i .no) fun _ => ret f) ρ'

def setD : D → D → D → Option D
  | .lst l, .int i, d => (ixN l.length i).map fun j => .lst (l.set j d)
  | .dct l, k, d => guardO (k.key && decide (l.length < sizeLine)) (.dct (dput l k d))
  | _, _, _ => none
def setDT : D → D → D → Option D
  | .dtn l, k, d => guardO (k.keyT && decide (l.length < sizeLine)) (.dtn (dput l k d))
  | _, _, _ => none
def augD : Operator → D → D → Option A
  | .Add, .int i, .int j => some (.val (.int (i + j)))
  | .Sub, .int i, .int j => some (.val (.int (i - j)))
  | .Add, .str s, .str t => guardO (decide (s.length + t.length ≤ sizeLine)) (.val (.str (s ++ t)))
  | _, _, _ => none
section
variable (V : Env) (Φ : String → Rho → COut) (pn : List Bool)
mutual
def ex (hot : Bool) : CS → M Fl
  | .asg t e => bnd (grd (!hot || isVarT t)) fun _ => bnd (ev V Φ hot e) fun a => bnd (asgT pn t a) fun _ => ret .nx
  | .par i j a b => bnd (grd (!hot)) fun _ => bnd (ev V Φ hot a) fun x => bnd (ev V Φ hot b) fun y => bnd (stv x) fun d => bnd (stv y) fun d' =>
    bnd (grd (!(i == j))) fun _ => bnd (asgV pn i (.val d)) fun _ => bnd (asgV pn j (.val d')) fun _ => ret .nx
  | .six a i e => bnd (ev V Φ hot e) fun z => bnd (stv z) fun d => bnd (ev V Φ hot a) fun x => bnd (ev V Φ hot i) fun y => bnd (rd x) fun o => bnd (rd y) fun k =>
    bnd (opt (setD o k d)) fun o' => bnd (mput x (some o')) fun _ => ret .nx
  | .sixT a ks e => bnd (ev V Φ hot e) fun z => bnd (stv z) fun d => bnd (ev V Φ hot a) fun x => bnd (evS V Φ hot ks) fun ds => bnd (grd (decide (ds.length ≤ sizeLine))) fun _ => bnd (rd x) fun o =>
    bnd (opt (setDT o (.tup ds) d)) fun o' => bnd (mput x (some o')) fun _ => ret .nx
  | .aug i o e => bnd (getv i) fun x => bnd (ev V Φ hot e) fun y => bnd (rd x) fun d => bnd (rd y) fun d' => bnd (opt (augD o d d')) fun a => bnd (asgV pn i a) fun _ => ret .nx
  | .ret e => bnd (ev V Φ hot e) fun a => bnd (retA pn a) fun a => ret (.rt a)
  | .expr e => bnd (ev V Φ hot e) fun _ => ret .nx
  | .ite c a b => bnd (tst (ev V Φ hot c)) fun k => if k = true then exs hot a else exs hot b
  | .for_ t k s b => bnd (grd (!hot)) fun _ => bnd (evA V Φ hot s) fun as => bnd (rdL as) fun ds => bnd (opt (itemsOf k ds)) fun items =>
    locked as (forL (fun d => asgT pn t (.val d)) (exs hot b) items)
  | .whl c b => bnd (grd (!hot)) fun _ => whlL (tst (ev V Φ hot c)) (exs hot b) whileMost
  | .pass => ret .nx
  | .brk => ret .bk
  | .cnt => ret .ct
  | .raise c none => bnd (grd (!hot)) fun _ => fun ρ => .exc c [] ρ
  | .raise c (some (f, e)) => bnd (grd (!hot)) fun _ => bnd (ev V Φ hot e) fun a => bnd (stv a) fun d => fun ρ => .exc c [(f, d)] ρ
  | .try_ b hs => bnd (grd (!hot)) fun _ => tryM V pn (exs hot b) (hds hs)
  | .bad => fail
def exs (hot : Bool) : List CS → M Fl
  | [] => ret .nx
  | s :: r => bnd (ex hot s) fun f => match f with
    | .nx => exs hot r
    | f => ret f
def hds : List (String × Option Nat × List CS) → List (String × Option Nat × M Fl)
  | [] => []
  | (c, i, b) :: r => (c, i, exs true b) :: hds r
end
end

def isOw : Sl → Bool
  | .ow _ => true
  | .lk _ => true
  | _ => false
/-- what became of the owned parameters; of the others: as they came -/
def maskO : Rho → Rho → Rho
  | a :: as, s :: ρ => (if isOw a = true then s else a) :: maskO as ρ
  | as, _ => as
def finish (as : Rho) : Out Fl → COut
  | .ok .nx ρ => .ok (.val .non) (maskO as ρ)
  | .ok (.rt a) ρ => .ok a (maskO as ρ)
  | .ok _ _ => .stuck
  | .exc c fs ρ => .exc c fs (maskO as ρ)
  | .stuck => .stuck
/-- f(as), at most n calls deep -/
def run (V : Env) : Nat → String → Rho → COut
  | 0, _, _ => .stuck
  | n + 1, f, as => match V.fn f with
    | none => .stuck
    | some fn => if as.length = fn.np then finish as (exs V (run V n) (as.map isOw) false fn.body (as ++ List.replicate (fn.nn - fn.np) .no)) else .stuck
end Iv

set_option linter.all false
set_option maxRecDepth 100000
set_option Elab.async false
/-! Iv, part 2: how values stand in the abstract heap. -/
namespace Iv
open PySem (Str Addr Value Obj Heap World Program Expr Stmt Scope Pos Shared Tok)
open L2 (V Hp HO St upd SqL SqT Rd RelV Vals VK TE TT TA TS Cx Inv PE PT PA PS PSs)

def sx (s : Tx) : Str := ⟨s.toArray⟩
def okTx (s : Tx) : Prop := ∀ c ∈ s, c < 1114112
def keyD : D → Option L2.Key
  | .int i => some (.inl i)
  | .str s => some (.inr (sx s))
  | _ => none

def keyTL : List D → Option (List L2.Key)
  | [] => some []
  | d :: l => match keyD d with
    | some q => (keyTL l).map (q :: ·)
    | none => none
def keyT : D → Option (List L2.Key)
  | .tup l => keyTL l
  | _ => none

/-- a shared list, dict: one of the written part, or at an address of U, which is never written -/
def ShL (K : PySem.W.Frag) (U : Addr → Prop) (H : Hp) (a : Addr) (vs : List V) : Prop := (U a ∧ Rd H a (.lst vs)) ∨ (∀ H', SqL K H' a vs)
def ShT (K : PySem.W.Frag) (H : Hp) (a : Addr) (vs : List V) : Prop := Rd H a (.tup vs) ∨ (∀ H', SqT K H' a vs)
def ShN (U : Addr → Prop) (H : Hp) (a : Addr) (kvs : List (List L2.Key × V)) : Prop := U a ∧ H a = some (.dT kvs)
def ShD (K : PySem.W.Frag) (U : Addr → Prop) (H : Hp) (a : Addr) (kvs : List (L2.Key × V)) : Prop := U a ∧ Rd H a (.dK kvs)

section
variable (K : PySem.W.Frag) (U : Addr → Prop) (H : Hp)
mutual
def RD : D → V → Prop
  | .non, v => v = .non
  | .bl b, v => v = .bl b
  | .int i, v => v = .int i
  | .str s, v => v = .str (sx s) ∧ okTx s
  | .tup l, v => ∃ a vs, v = .ref a ∧ ShT K H a vs ∧ RL l vs
  | .lst l, v => ∃ a vs, v = .ref a ∧ ShL K U H a vs ∧ RL l vs
  | .dct l, v => ∃ a kvs, v = .ref a ∧ ShD K U H a kvs ∧ RK l kvs
  | .set _, _ => False
  | .dtn l, v => ∃ a kvs, v = .ref a ∧ ShN U H a kvs ∧ RT l kvs
def RT : List (D × D) → List (List L2.Key × V) → Prop
  | [], kvs => kvs = []
  | (k, d) :: l, kvs => ∃ q v vr, kvs = (q, v) :: vr ∧ keyT k = some q ∧ RD d v ∧ RT l vr
def RL : List D → List V → Prop
  | [], vs => vs = []
  | d :: l, vs => ∃ v vr, vs = v :: vr ∧ RD d v ∧ RL l vr
def RK : List (D × D) → List (L2.Key × V) → Prop
  | [], kvs => kvs = []
  | (k, d) :: l, kvs => ∃ q v vr, kvs = (q, v) :: vr ∧ keyD k = some q ∧ RD k (L2.kV q) ∧ RD d v ∧ RK l vr
end
/-- a list, dict that is owned: at p, which is not of U -/
def RO (d : D) (p : Addr) : Prop := ¬ U p ∧ match d with
  | .lst l => ∃ vs, H p = some (.lst vs) ∧ RL K U H l vs
  | .dct l => ∃ kvs, H p = some (.dK kvs) ∧ RK K U H l kvs
  | .dtn l => ∃ kvs, H p = some (.dT kvs) ∧ RT K U H l kvs
  | _ => False
end

/-- what may be read stays so -/
structure Kp (U U' : Addr → Prop) (H H' : Hp) : Prop where
  up : ∀ b, U b → U' b
  lst : ∀ b vs, U b → Rd H b (.lst vs) → Rd H' b (.lst vs)
  dk : ∀ b kvs, U b → Rd H b (.dK kvs) → Rd H' b (.dK kvs)
  tup : ∀ b vs, Rd H b (.tup vs) → Rd H' b (.tup vs)
  dt : ∀ b kvs, U b → H b = some (.dT kvs) → H' b = some (.dT kvs)
section
variable {K : PySem.W.Frag} {U U' U2 : Addr → Prop} {H H' H2 : Hp}
theorem Kp.refl : Kp U U H H := ⟨fun _ h => h, fun _ _ _ h => h, fun _ _ _ h => h, fun _ _ h => h, fun _ _ _ h => h⟩
theorem Kp.trans (a : Kp U U' H H') (b : Kp U' U2 H' H2) : Kp U U2 H H2 :=
  ⟨fun c h => b.up c (a.up c h), fun c vs u h => b.lst c vs (a.up c u) (a.lst c vs u h), fun c vs u h => b.dk c vs (a.up c u) (a.dk c vs u h), fun c vs h => b.tup c vs (a.tup c vs h), fun c vs u h => b.dt c vs (a.up c u) (a.dt c vs u h)⟩
mutual
theorem RD.mono (k : Kp U U' H H') : ∀ (d : D) (v : V), RD K U H d v → RD K U' H' d v
  | .non, _, h => h
  | .bl _, _, h => h
  | .int _, _, h => h
  | .str _, _, h => h
  | .tup l, v, h => by
    unfold RD at h ⊢
    obtain ⟨a, vs, e, s, r⟩ := h
    exact ⟨a, vs, e, s.elim (fun z => .inl (k.tup a vs z)) .inr, RL.mono k l vs r⟩
  | .lst l, v, h => by
    unfold RD at h ⊢
    obtain ⟨a, vs, e, s, r⟩ := h
    exact ⟨a, vs, e, s.elim (fun z => .inl ⟨k.up a z.1, k.lst a vs z.1 z.2⟩) .inr, RL.mono k l vs r⟩
  | .dct l, v, h => by
    unfold RD at h ⊢
    obtain ⟨a, vs, e, s, r⟩ := h
    exact ⟨a, vs, e, ⟨k.up a s.1, k.dk a vs s.1 s.2⟩, RK.mono k l vs r⟩
  | .set _, _, h => h
  | .dtn l, v, h => by
    unfold RD at h ⊢
    obtain ⟨a, vs, e, s, r⟩ := h
    exact ⟨a, vs, e, ⟨k.up a s.1, k.dt a vs s.1 s.2⟩, RT.mono k l vs r⟩
theorem RT.mono (k : Kp U U' H H') : ∀ (l : List (D × D)) (kvs : List (List L2.Key × V)), RT K U H l kvs → RT K U' H' l kvs
  | [], _, h => h
  | (q, d) :: l, kvs, h => by
    unfold RT at h ⊢
    obtain ⟨q', v, vr, e, z, r, w⟩ := h
    exact ⟨q', v, vr, e, z, RD.mono k d v r, RT.mono k l vr w⟩
theorem RL.mono (k : Kp U U' H H') : ∀ (l : List D) (vs : List V), RL K U H l vs → RL K U' H' l vs
  | [], _, h => h
  | d :: l, vs, h => by
    unfold RL at h ⊢
    obtain ⟨v, vr, e, r, q⟩ := h
    exact ⟨v, vr, e, RD.mono k d v r, RL.mono k l vr q⟩
theorem RK.mono (k : Kp U U' H H') : ∀ (l : List (D × D)) (kvs : List (L2.Key × V)), RK K U H l kvs → RK K U' H' l kvs
  | [], _, h => h
  | (q, d) :: l, kvs, h => by
    unfold RK at h ⊢
    obtain ⟨q', v, vr, e, z, y, r, w⟩ := h
    exact ⟨q', v, vr, e, z, RD.mono k q _ y, RD.mono k d v r, RK.mono k l vr w⟩
end
theorem RL.len : ∀ {l : List D} {vs : List V}, RL K U H l vs → vs.length = l.length
  | [], _, h => by unfold RL at h; subst h; rfl
  | d :: l, vs, h => by
    unfold RL at h
    obtain ⟨v, vr, rfl, _, q⟩ := h
    simp [RL.len q]
theorem RL.get : ∀ {l : List D} {vs : List V} {i : Nat} {d : D}, RL K U H l vs → l[i]? = some d → ∃ v, vs[i]? = some v ∧ RD K U H d v
  | [], _, _, _, _, e => by simp at e
  | a :: l, vs, 0, d, h, e => by
    unfold RL at h
    obtain ⟨v, vr, rfl, r, _⟩ := h
    simp at e; subst e
    exact ⟨v, rfl, r⟩
  | a :: l, vs, i + 1, d, h, e => by
    unfold RL at h
    obtain ⟨v, vr, rfl, _, q⟩ := h
    simpa using RL.get (i := i) q (by simpa using e)
theorem RL.getV : ∀ {l : List D} {vs : List V} {i : Nat} {v : V}, RL K U H l vs → vs[i]? = some v → ∃ d, l[i]? = some d ∧ RD K U H d v := fun {l vs i v} h e => by
  have hl := RL.len h
  have hi : i < vs.length := (List.getElem?_eq_some_iff.mp e).1
  obtain ⟨d, hd⟩ : ∃ d, l[i]? = some d := ⟨l[i]'(by omega), by simp⟩
  obtain ⟨w, hw, r⟩ := RL.get h hd
  rw [e] at hw; cases hw
  exact ⟨d, hd, r⟩
theorem RL.append : ∀ {l m : List D} {vs ws : List V}, RL K U H l vs → RL K U H m ws → RL K U H (l ++ m) (vs ++ ws)
  | [], _, _, _, h, q => by unfold RL at h; subst h; exact q
  | d :: l, m, vs, ws, h, q => by
    unfold RL at h
    obtain ⟨v, vr, rfl, r, w⟩ := h
    show RL K U H (d :: (l ++ m)) (v :: (vr ++ ws))
    unfold RL
    exact ⟨v, _, rfl, r, RL.append w q⟩
theorem RL.one {d : D} {v : V} (h : RD K U H d v) : RL K U H [d] [v] := by
  unfold RL; exact ⟨v, [], rfl, h, by unfold RL; rfl⟩
theorem RL.nil : RL K U H [] [] := by unfold RL; rfl
theorem RL.cons {d : D} {v : V} {l : List D} {vs : List V} (h : RD K U H d v) (q : RL K U H l vs) : RL K U H (d :: l) (v :: vs) := by
  unfold RL; exact ⟨v, vs, rfl, h, q⟩
theorem RL.take : ∀ {l : List D} {vs : List V} (n : Nat), RL K U H l vs → RL K U H (l.take n) (vs.take n)
  | _, _, 0, _ => by simpa using RL.nil
  | [], vs, n + 1, h => by unfold RL at h; subst h; simpa using RL.nil
  | d :: l, vs, n + 1, h => by
    unfold RL at h
    obtain ⟨v, vr, rfl, r, q⟩ := h
    simpa using RL.cons r (RL.take n q)
theorem RL.drop : ∀ {l : List D} {vs : List V} (n : Nat), RL K U H l vs → RL K U H (l.drop n) (vs.drop n)
  | _, _, 0, h => by simpa using h
  | [], vs, n + 1, h => by unfold RL at h; subst h; simpa using RL.nil
  | d :: l, vs, n + 1, h => by
    unfold RL at h
    obtain ⟨v, vr, rfl, r, q⟩ := h
    simpa using RL.drop n q
theorem RL.set {d : D} {v : V} (h : RD K U H d v) : ∀ {l : List D} {vs : List V} (i : Nat), RL K U H l vs → RL K U H (l.set i d) (vs.set i v)
  | [], vs, i, q => by unfold RL at q; subst q; simpa using RL.nil
  | a :: l, vs, 0, q => by
    unfold RL at q
    obtain ⟨w, vr, rfl, _, z⟩ := q
    simpa using RL.cons h z
  | a :: l, vs, i + 1, q => by
    unfold RL at q
    obtain ⟨w, vr, rfl, r, z⟩ := q
    simpa using RL.cons r (RL.set h i z)
end
end Iv

set_option linter.all false
set_option autoImplicit false
set_option maxRecDepth 100000
set_option Elab.async false
/-! Iv, part 3: states, steps between them, outcomes. -/
namespace Iv
open PySem (Str Addr Value Obj Heap World Program Expr Stmt Scope Pos Shared Tok)
open L2 (V Hp HO St upd SqL SqT Rd RelV Vals VK TE TT TA TS Cx Inv PE PT PA PS PSs upd_same upd_ne)

def held (s : Sl) (d : D) : Prop := s = .ow d ∨ s = .lk d
/-- the addresses that slots own -/
def own (σ : St) (ρ : Rho) (b : Addr) : Prop := ∃ (i : Nat) (s : Sl) (d : D), ρ[i]? = some s ∧ held s d ∧ σ[i]? = some (some (V.ref b))

theorem owAt_held {ρ : Rho} {i : Nat} (h : owAt ρ i = true) : ∃ s d, ρ[i]? = some s ∧ held s d := by
  unfold owAt at h
  cases e : ρ[i]? with
  | none => rw [e] at h; cases h
  | some s =>
    rw [e] at h
    cases s with
    | ow d => exact ⟨_, d, rfl, .inl rfl⟩
    | lk d => exact ⟨_, d, rfl, .inr rfl⟩
    | _ => cases h
theorem held_owAt {ρ : Rho} {i : Nat} {s : Sl} {d : D} (e : ρ[i]? = some s) (h : held s d) : owAt ρ i = true := by
  unfold owAt
  rcases h with rfl | rfl <;> rw [e]
theorem owAt_set {ρ : Rho} {i j : Nat} {s : Sl} (n : ∀ d, ¬ held s d) (h : owAt (ρ.set i s) j = true) : i ≠ j ∧ owAt ρ j = true := by
  obtain ⟨s', d, e, hd⟩ := owAt_held h
  by_cases hj : i = j
  · subst hj
    rw [List.getElem?_set, if_pos rfl] at e
    split at e
    · cases e; exact absurd hd (n d)
    · cases e
  · rw [List.getElem?_set_ne hj] at e
    exact ⟨hj, held_owAt e hd⟩
theorem sh_nh {d : D} : ∀ d', ¬ held (.sh d) d' := fun d' h => by rcases h with z | z <;> cases z
theorem no_nh : ∀ d', ¬ held .no d' := fun d' h => by rcases h with z | z <;> cases z
theorem ex_nh {c : String} {fs : List (String × D)} : ∀ d', ¬ held (.ex c fs) d' := fun d' h => by rcases h with z | z <;> cases z
/-- which exceptions are held where: slot, address, class, fields -/
structure ExPin where
  at_ : Nat → Addr → String → List (String × D) → Prop
@[reducible] def noEx : ExPin := ⟨fun _ _ _ _ => False⟩
theorem ex_set {ρ : Rho} {i j : Nat} {s : Sl} {c : String} {fs : List (String × D)} (n : ∀ c fs, s ≠ .ex c fs) (h : (ρ.set i s)[j]? = some (.ex c fs)) : i ≠ j ∧ ρ[j]? = some (.ex c fs) := by
  by_cases hj : i = j
  · subst hj
    rw [List.getElem?_set, if_pos rfl] at h
    split at h
    · cases h; exact absurd rfl (n c fs)
    · cases h
  · rw [List.getElem?_set_ne hj] at h
    exact ⟨hj, h⟩
variable {EP : ExPin}
structure R (EP : ExPin) (K : PySem.W.Frag) (U : Addr → Prop) (H : Hp) (σ : St) (ρ : Rho) : Prop where
  len : ρ.length = σ.length
  trk : ∀ b, U b → ∃ o, H b = some o
  sh : ∀ (i : Nat) (d : D), ρ[i]? = some (Sl.sh d) → ∃ v, σ[i]? = some (some v) ∧ RD K U H d v
  ow : ∀ (i : Nat) (s : Sl) (d : D), ρ[i]? = some s → held s d → ∃ p, σ[i]? = some (some (V.ref p)) ∧ RO K U H d p
  dis : ∀ (i j : Nat) (s s' : Sl) (d d' : D) (p : Addr), ρ[i]? = some s → held s d → ρ[j]? = some s' → held s' d' → σ[i]? = some (some (V.ref p)) → σ[j]? = some (some (V.ref p)) → i = j
  ex : ∀ (i : Nat) (c : String) (fs : List (String × D)), ρ[i]? = some (Sl.ex c fs) → ∃ a, σ[i]? = some (some (V.ref a)) ∧ EP.at_ i a c fs

structure Step (O : Addr → Prop) (U U' : Addr → Prop) (H H' : Hp) : Prop where
  keep : ∀ b o, H b = some o → ¬ O b → H' b = some o
  trk : ∀ b o, H b = some o → ∃ o', H' b = some o'
  up : ∀ b, U b → U' b
  new : ∀ b, U' b → U b ∨ H b = none ∨ O b

/-- from (U, H, ρ) to (U', H', ρ') at slots σ -/
structure Adv (EP : ExPin) (K : PySem.W.Frag) (σ : St) (U : Addr → Prop) (H : Hp) (ρ : Rho) (U' : Addr → Prop) (H' : Hp) (ρ' : Rho) : Prop where
  st : Step (own σ ρ) U U' H H'
  r : R EP K U' H' σ ρ'
  so : ∀ i, owAt ρ' i = true → owAt ρ i = true
  fx : ∀ (i : Nat) (s : Sl), ρ[i]? = some s → fixS s = true → ρ'[i]? = some s

section
variable {K : PySem.W.Frag} {U U' U1 U2 : Addr → Prop} {H H' H1 H2 : Hp} {σ : St} {ρ ρ' ρ1 ρ2 : Rho} {O O' : Addr → Prop}
theorem Step.refl : Step O U U H H := ⟨fun _ _ h _ => h, fun _ o h => ⟨o, h⟩, fun _ h => h, fun _ h => .inl h⟩
theorem Step.trans (a : Step O U U1 H H1) (b : Step O' U1 U2 H1 H2) (h : ∀ b, O' b → O b ∨ H b = none) : Step O U U2 H H2 where
  keep := fun c o e n => b.keep c o (a.keep c o e n) fun z => (h c z).elim n fun q => by rw [e] at q; cases q
  trk := fun c o e => let ⟨o1, e1⟩ := a.trk c o e; b.trk c o1 e1
  up := fun c z => b.up c (a.up c z)
  new := fun c z => by
    rcases b.new c z with q | q | q
    · exact a.new c q
    · refine .inr (.inl ?_)
      cases e : H c with
      | none => rfl
      | some o => obtain ⟨o', e'⟩ := a.trk c o e; rw [q] at e'; cases e'
    · rcases h c q with w | w
      · exact .inr (.inr w)
      · exact .inr (.inl w)
/-- the kinds of what is owned -/
def OwH (H : Hp) (b : Addr) : Prop := (∃ vs, H b = some (.lst vs)) ∨ (∃ kvs, H b = some (.dK kvs)) ∨ ∃ kvs, H b = some (.dT kvs)
theorem OwH.some {H : Hp} {b : Addr} (h : OwH H b) : ∃ o, H b = some o := by
  rcases h with ⟨_, e⟩ | ⟨_, e⟩ | ⟨_, e⟩ <;> exact ⟨_, e⟩
theorem OwH.noTup {H : Hp} {b : Addr} (h : OwH H b) {vs : List V} (r : Rd H b (.tup vs)) : False := by
  rcases h with ⟨_, q⟩ | ⟨_, q⟩ | ⟨_, q⟩ <;> rcases r with r | ⟨o', r⟩ <;> (rw [q] at r; cases r)
theorem R.ownR (r : R EP K U H σ ρ) {b : Addr} (h : own σ ρ b) : ¬ U b ∧ OwH H b := by
  obtain ⟨i, s, d, e, hd, q⟩ := h
  obtain ⟨p, q', o⟩ := r.ow i s d e hd
  rw [q] at q'; cases q'
  unfold RO at o
  refine ⟨o.1, ?_⟩
  have z := o.2
  cases d with
  | lst l => obtain ⟨vs, a, _⟩ := z; exact .inl ⟨vs, a⟩
  | dct l => obtain ⟨vs, a, _⟩ := z; exact .inr (.inl ⟨vs, a⟩)
  | dtn l => obtain ⟨vs, a, _⟩ := z; exact .inr (.inr ⟨vs, a⟩)
  | _ => exact z.elim
theorem R.ownS (r : R EP K U H σ ρ) {b : Addr} (h : own σ ρ b) : ∃ o, H b = some o := by
  exact (r.ownR h).2.some
theorem rdSome {a : Addr} {u : HO} (h : Rd H a u) : ∃ o, H a = some o := by
  rcases h with h | ⟨o, h⟩ <;> exact ⟨_, h⟩
theorem rdTo {a : Addr} {u : HO} (h : Rd H a u) (k : ∀ o, H a = some o → H' a = some o) : Rd H' a u := by
  rcases h with h | ⟨o, h⟩
  · exact .inl (k _ h)
  · exact .inr ⟨o, k _ h⟩
/-- a step keeps what may be read -/
theorem Step.kp (s : Step O U U' H H') (h : ∀ b, O b → ¬ U b ∧ OwH H b) : Kp U U' H H' where
  up := s.up
  lst := fun b vs u r => rdTo r fun o e => s.keep b o e fun z => (h b z).1 u
  dk := fun b vs u r => rdTo r fun o e => s.keep b o e fun z => (h b z).1 u
  tup := fun b vs r => rdTo r fun o e => s.keep b o e fun z => (h b z).2.noTup r
  dt := fun b vs u r => s.keep b _ r fun z => (h b z).1 u
theorem Adv.sub (a : Adv EP K σ U H ρ U' H' ρ') : ∀ b, own σ ρ' b → own σ ρ b := fun b ⟨i, s, d, e, hd, q⟩ => by
  obtain ⟨s0, d0, e0, h0⟩ := owAt_held (a.so i (held_owAt e hd))
  exact ⟨i, s0, d0, e0, h0, q⟩
theorem Adv.refl (r : R EP K U H σ ρ) : Adv EP K σ U H ρ U H ρ := ⟨.refl, r, fun _ h => h, fun _ _ h _ => h⟩
theorem Adv.trans (a : Adv EP K σ U H ρ U1 H1 ρ1) (b : Adv EP K σ U1 H1 ρ1 U2 H2 ρ2) : Adv EP K σ U H ρ U2 H2 ρ2 :=
  ⟨a.st.trans b.st fun c z => .inl (a.sub c z), b.r, fun i z => a.so i (b.so i z), fun i s e h => b.fx i s (a.fx i s e h) h⟩
theorem Adv.kp (r : R EP K U H σ ρ) (f : Adv EP K σ U H ρ U' H' ρ') : Kp U U' H H' := f.st.kp fun b h => r.ownR h

/-- what an outcome of an expression is; H0: the heap when it began -/
def RA (K : PySem.W.Frag) (U : Addr → Prop) (H : Hp) (σ : St) (H0 : Hp) : A → V → Prop
  | .val d, v => RD K U H d v
  | .fr d, v => ∃ p, v = V.ref p ∧ RO K U H d p ∧ H0 p = none
  | .rf i, v => σ[i]? = some (some v)
theorem RO.mono {d : D} {p : Addr} (s : Step O U U' H H') (k : Kp U U' H H') (h : RO K U H d p) (n : ¬ O p) : RO K U' H' d p := by
  unfold RO at h ⊢
  obtain ⟨a, b⟩ := h
  have hs : ∀ o, H p = some o → ¬ U' p := fun o e z => by
    rcases s.new p z with q | q | q
    · exact a q
    · rw [e] at q; cases q
    · exact n q
  cases d with
  | lst l =>
    obtain ⟨vs, e, r⟩ := b
    exact ⟨hs _ e, vs, s.keep p _ e n, RL.mono k l vs r⟩
  | dct l =>
    obtain ⟨vs, e, r⟩ := b
    exact ⟨hs _ e, vs, s.keep p _ e n, RK.mono k l vs r⟩
  | dtn l =>
    obtain ⟨vs, e, r⟩ := b
    exact ⟨hs _ e, vs, s.keep p _ e n, RT.mono k l vs r⟩
  | _ => exact b.elim
theorem RA.mono {a : A} {v : V} {H0 : Hp} (r : R EP K U H σ ρ) (f : Adv EP K σ U H ρ U' H' ρ') (h0 : ∀ b, own σ ρ b → ∃ o, H0 b = some o) (h : RA K U H σ H0 a v) : RA K U' H' σ H0 a v := by
  cases a with
  | val d => exact RD.mono (f.kp r) d v h
  | fr d =>
    obtain ⟨p, e, o, n⟩ := h
    exact ⟨p, e, o.mono f.st (f.kp r) (fun z => by obtain ⟨o, q⟩ := h0 p z; rw [n] at q; cases q), n⟩
  | rf i => exact h
/-- a content: shared or owned -/
def RC (K : PySem.W.Frag) (U : Addr → Prop) (H : Hp) (d : D) (v : V) : Prop := RD K U H d v ∨ ∃ p, v = V.ref p ∧ RO K U H d p
theorem rd_ok {a : A} {v : V} {H0 : Hp} {d : D} (r : R EP K U H σ ρ) (h : RA K U H σ H0 a v) (e : rd a ρ = .ok d ρ') : ρ' = ρ ∧ RC K U H d v := by
  cases a with
  | val d' => cases e; exact ⟨rfl, .inl h⟩
  | fr d' =>
    cases e
    obtain ⟨p, e, o, _⟩ := h
    exact ⟨rfl, .inr ⟨p, e, o⟩⟩
  | rf i =>
    cases q : ρ[i]? with
    | none => simp [rd, bnd, slot, q] at e
    | some s =>
      simp only [rd, bnd, slot, q] at e
      have h' : σ[i]? = some (some v) := h
      cases s with
      | no => cases e
      | ex _ _ => cases e
      | sh d' =>
        cases e
        obtain ⟨w, hw, rr⟩ := r.sh i _ q
        rw [h'] at hw; cases hw
        exact ⟨rfl, .inl rr⟩
      | ow d' =>
        cases e
        obtain ⟨p, hp, o⟩ := r.ow i _ _ q (.inl rfl)
        rw [h'] at hp; cases hp
        exact ⟨rfl, .inr ⟨p, rfl, o⟩⟩
      | lk d' =>
        cases e
        obtain ⟨p, hp, o⟩ := r.ow i _ _ q (.inr rfl)
        rw [h'] at hp; cases hp
        exact ⟨rfl, .inr ⟨p, rfl, o⟩⟩

/-- what an exception is -/
def RX (K : PySem.W.Frag) (XC : String → Addr) (U : Addr → Prop) (H : Hp) (c : String) (fs : List (String × D)) (cls : Value) (d : Option Addr) : Prop :=
  cls = Value.ref (XC c) ∧ match fs with
    | [] => d = none
    | [(f, x)] => ∃ p v, d = some p ∧ H p = some (.xd [(Str.ofString f, v)]) ∧ RD K U H x v
    | _ => False

section
variable (EP : ExPin) (K : PySem.W.Frag) (XC : String → Addr) (W : L2.WX) (σ : St)
def OutOk {α : Type} (U : Addr → Prop) (H : Hp) (ρ : Rho) (o : Out α) (k : α → (Addr → Prop) → Hp → Rho → Prop) : Prop := match o with
  | .ok a ρ' => ∀ U' H', Adv EP K σ U H ρ U' H' ρ' → k a U' H' ρ'
  | .exc c fs ρ' => ∀ U' H' cls d, Adv EP K σ U H ρ U' H' ρ' → RX K XC U' H' c fs cls d → W cls d σ H'
  | .stuck => False
end
section
variable {XC : String → Addr} {W : L2.WX} {α β : Type}
theorem OutOk.mono {o : Out α} {k k' : α → (Addr → Prop) → Hp → Rho → Prop} (h : OutOk EP K XC W σ U H ρ o k) (hk : ∀ a U' H' ρ', Adv EP K σ U H ρ U' H' ρ' → k a U' H' ρ' → k' a U' H' ρ') : OutOk EP K XC W σ U H ρ o k' := by
  cases o with
  | ok a ρ' => exact fun U' H' f => hk a U' H' ρ' f (h U' H' f)
  | exc c fs ρ' => exact h
  | stuck => exact h
theorem OutOk.bnd {m : M α} {f : α → M β} {k : β → (Addr → Prop) → Hp → Rho → Prop} (h : OutOk EP K XC W σ U H ρ (bnd m f ρ) k) :
    OutOk EP K XC W σ U H ρ (m ρ) fun a U1 H1 ρ1 => OutOk EP K XC W σ U1 H1 ρ1 (f a ρ1) k := by
  unfold Iv.bnd at h
  cases e : m ρ with
  | stuck => rw [e] at h; exact h.elim
  | exc c fs ρ' => rw [e] at h; exact h
  | ok a ρ1 =>
    rw [e] at h
    intro U1 H1 f1
    have h : OutOk EP K XC W σ U H ρ (f a ρ1) k := h
    show OutOk EP K XC W σ U1 H1 ρ1 (f a ρ1) k
    cases e2 : f a ρ1 with
    | stuck => rw [e2] at h; exact h
    | exc c fs ρ' => rw [e2] at h; exact fun U' H' cls d f2 => h U' H' cls d (f1.trans f2)
    | ok b ρ2 => rw [e2] at h; exact fun U' H' f2 => h U' H' (f1.trans f2)
/-- where the start lies further back -/
theorem OutOk.back {o : Out α} {k : α → (Addr → Prop) → Hp → Rho → Prop} (f : Adv EP K σ U H ρ U1 H1 ρ1) (h : OutOk EP K XC W σ U H ρ o k) : OutOk EP K XC W σ U1 H1 ρ1 o k := by
  cases o with
  | ok a ρ' => exact fun U' H' f' => h U' H' (f.trans f')
  | exc c fs ρ' => exact fun U' H' cls d f' => h U' H' cls d (f.trans f')
  | stuck => exact h
end

/-! ### a new object -/
theorem Kp.alloc {p : Addr} {o : HO} (hp : H p = none) : Kp U U H (upd H p o) := by
  have k : ∀ b u, H b = some u → upd H p o b = some u := fun b u e => by
    rw [upd_ne (fun z => by rw [z, hp] at e; cases e)]; exact e
  exact ⟨fun _ h => h, fun b vs _ r => rdTo r fun o e => k b o e, fun b vs _ r => rdTo r fun o e => k b o e, fun b vs r => rdTo r fun o e => k b o e, fun b vs _ r => k b _ r⟩
theorem R.to (r : R EP K U H σ ρ) (k : Kp U U H H') (hk : ∀ b o, H b = some o → H' b = some o) : R EP K U H' σ ρ where
  len := r.len
  trk := fun b u => let ⟨o, e⟩ := r.trk b u; ⟨o, hk b o e⟩
  sh := fun i d e => let ⟨v, q, z⟩ := r.sh i d e; ⟨v, q, RD.mono k d v z⟩
  ow := fun i s d e hd => let ⟨p, q, z⟩ := r.ow i s d e hd; ⟨p, q, RO.mono (O := fun _ => False) ⟨fun b o e _ => hk b o e, fun b o e => ⟨o, hk b o e⟩, fun _ h => h, fun _ h => .inl h⟩ k z (fun h => h)⟩
  dis := r.dis
  ex := r.ex
theorem Adv.alloc {p : Addr} {o : HO} (r : R EP K U H σ ρ) (hp : H p = none) : Adv EP K σ U H ρ U (upd H p o) ρ := by
  have k : ∀ b u, H b = some u → upd H p o b = some u := fun b u e => by
    rw [upd_ne (fun z => by rw [z, hp] at e; cases e)]; exact e
  exact ⟨⟨fun b u e _ => k b u e, fun b u e => ⟨u, k b u e⟩, fun _ h => h, fun _ h => .inl h⟩, r.to (Kp.alloc hp) k, fun _ h => h, fun _ _ h _ => h⟩
theorem R.notU (r : R EP K U H σ ρ) {p : Addr} (hp : H p = none) : ¬ U p := fun z => by
  obtain ⟨o, e⟩ := r.trk p z; rw [hp] at e; cases e
end
end Iv

set_option linter.all false
set_option maxRecDepth 100000
set_option autoImplicit false
set_option Elab.async false
/-! Iv, part 4: which term of the text a compiled term stands for. -/
namespace Iv
open PySem (Str Addr Value Obj Heap World Program Expr Stmt Scope Pos Shared Tok NameKind)

/-- the module's names: defs, constants, names that are still the built-ins, exception classes -/
structure GI where
  fns : List String
  gls : List String
  gds : List String
  kws : List (String × Nat × List String × List Nat)
  frs : List String
  cls : List String

def nmIs (x : Str) (s : String) : Bool := x == Str.ofString s
def visB (sc : Scope) (x : Str) : Bool := match sc.names.lookup x with
  | some .local => true
  | some .cell => true
  | some .free => true
  | _ => false
def locB (sc : Scope) (x : Str) : Bool := match sc.names.lookup x with
  | some .local => true
  | some .cell => true
  | _ => false
def glbB (sc : Scope) (x : Str) : Bool := (match sc.names.lookup x with | some .globalImplicit => true | _ => false) && !(x == ("__debug__" : Str)) && !(x == ("__name__" : Str))
def relS (scope sc : Scope) : Scope := L2.relS scope sc
/-- the built-in functions (of classes: false) that biD knows -/
def biFn (f : String) : Bool := ["len", "abs", "max", "min", "any", "all", "sum"].contains f
def biTy (f : String) : Bool := ["int", "str", "list", "tuple"].contains f
def mtKnown (m : String) : Bool := ["append", "extend", "insert", "index", "upper"].contains m
def isiTy (t : String) : Bool := ["int", "bool", "str", "tuple", "list", "dict"].contains t

def notCall : Expr → Bool
  | .Name _ _ => true
  | .Subscript _ _ _ => true
  | .Constant _ _ _ => true
  | .Dict _ _ _ => true
  | _ => false
/-- a name that may be stored -/
def locV (sc : Scope) (x : Str) : Bool := match sc.names.lookup x with
  | some .local => true
  | some .cell => true
  | _ => false
def isTup : Expr → Bool
  | .Tuple _ _ _ => true
  | _ => false
def isSet : Expr → Bool
  | .Set _ _ _ => true
  | _ => false
def isStar : Expr → Bool
  | .Starred _ _ => true
  | _ => false
def isSlice : Expr → Bool
  | .Slice _ _ _ _ => true
  | _ => false
/-- a dict display of written keys and values -/
def chkDC : List (D × D) → List (Option Expr) → List Expr → Bool
  | [], [], [] => true
  | (k, v) :: l, some (.Constant a _ _) :: ks, (.Constant b _ _) :: vs => (match k, a with
      | .int i, .int j => i == j
      | .str s, .str t => sx s == t && s.all fun c => decide (c < 1114112)
      | _, _ => false) && (match v, b with
      | .non, .none => true
      | .bl x, .bool y => x == y
      | .int i, .int j => i == j
      | .str s, .str t => sx s == t && s.all fun c => decide (c < 1114112)
      | _, _ => false) && !(l.any fun p => D.eq p.1 k) && chkDC l ks vs
  | _, _, _ => false
def isComp : Expr → Bool
  | .ListComp _ _ _ _ => true
  | .SetComp _ _ _ _ => true
  | .DictComp _ _ _ _ _ => true
  | _ => false
section
variable (N : List Str) (sc : Scope)
mutual
def chkT : Tgt → Expr → Bool
  | .var i, .Name x _ => (match N[i]? with | some y => y == x | none => false) && locV sc x
  | .tup ts, .Tuple es _ _ => chkTs ts es
  | _, _ => false
def chkTs : List Tgt → List Expr → Bool
  | [], [] => true
  | t :: ts, e :: es => chkT t e && chkTs ts es
  | _, _ => false
end
end
/-- what a for walks: the expressions -/
def iterArgs (gi : GI) (sc : Scope) (k : String) (it : Expr) : Option (List Expr) := if k = "" then some [it] else match it with
  | .Call (.Name x _) es [] _ => if (nmIs x k && glbB sc x && gi.frs.contains k) = true then some es else none
  | _ => none
def kindOk (k : String) (n : Nat) (tg : Expr) : Bool := match k with
  | "" => n == 1
  | "range" => n == 1 || n == 2
  | "enumerate" => n == 1 && isTup tg
  | "zip" => n == 2 && isTup tg
  | _ => false
/-- the own names of a block, with their places -/
def ownN (N : List Str) (own : List Nat) : List (Str × Nat) := own.filterMap fun i => N[i]?.map fun x => (x, i)
section
variable (gi : GI) (N : List Str)
mutual
def chk (sc : Scope) : CE → Expr → Bool
  | .var i, .Name x _ => (match N[i]? with | some y => y == x | none => false) && visB sc x && !(x == ("__debug__" : Str)) && !(x == ("__classdict__" : Str))
  | .glo s, .Name x _ => nmIs x s && glbB sc x && gi.gls.contains s
  | .cst .non, .Constant .none _ _ => true
  | .cst (.bl b), .Constant (.bool b') _ _ => b == b'
  | .cst (.int i), .Constant (.int j) _ _ => i == j
  | .cst (.str s), .Constant (.str t) _ _ => sx s == t && s.all fun c => decide (c < 1114112)
  | .tup l, .Tuple es _ _ => chkL sc l es
  | .lst l, .List es _ => chkL sc l es
  | .dct0, .Dict [] [] _ => true
  | .dctN, .Dict [] [] _ => true
  | .bin o a b, .BinOp x o' y _ => o == o' && chk sc a x && chk sc b y
  | .neg a, .UnaryOp .USub x _ => chk sc a x
  | .cmp o a b, .Compare x [o'] [y] _ => o == o' && chk sc a x && chk sc b y
  | .chn o p a b c, .Compare x [o', p'] [y, z] _ => o == o' && p == p' && chk sc a x && chk sc b y && chk sc c z
  | .and a b, .BoolOp .And (x :: y :: r) pos => chk sc a x && (match r with | [] => chk sc b y | _ :: _ => chk sc b (.BoolOp .And (y :: r) pos))
  | .or a b, .BoolOp .Or (x :: y :: r) pos => chk sc a x && (match r with | [] => chk sc b y | _ :: _ => chk sc b (.BoolOp .Or (y :: r) pos))
  | .not a, .UnaryOp .Not x _ => chk sc a x
  | .ite c a b, .IfExp x y z _ => chk sc c x && chk sc a y && chk sc b z
  | .idx a i, .Subscript x y _ => chk sc a x && chk sc i y
  | .gix s i, .Subscript (.Name x _) y _ => nmIs x s && glbB sc x && gi.gds.contains s && chk sc i y
  | .slc a lo hi, .Subscript x (.Slice l h none _) _ => chk sc a x && chkO sc lo l && chkO sc hi h
  | .call f l, .Call (.Name x _) es [] _ => nmIs x f && glbB sc x && gi.fns.contains f && chkL sc l es
  | .callk f l ns ks pm, .Call (.Name x _) es kw _ => nmIs x f && glbB sc x && gi.kws.contains (f, l.length, ns, pm) && chkL sc l es && chkK sc ns ks kw
  | .bi f l, .Call (.Name x _) es [] _ => nmIs x f && glbB sc x && gi.frs.contains f && (biFn f || biTy f) && chkL sc l es && !l.isEmpty
  | .isi a ts, .Call (.Name x _) [y, .Name t _] [] _ => nmIs x "isinstance" && glbB sc x && gi.frs.contains "isinstance" && chk sc a y && glbB sc t &&
      (match ts with | [s] => isiTy s && nmIs t s && gi.frs.contains s | _ => false)
  | .isx i c, .Call (.Name x _) [.Name y _, .Name t _] [] _ => nmIs x "isinstance" && glbB sc x && gi.frs.contains "isinstance" && (match N[i]? with | some z => z == y | none => false) && visB sc y && !(y == ("__debug__" : Str)) && !(y == ("__classdict__" : Str)) && glbB sc t && nmIs t c && gi.cls.contains c
  | .mth a m l, .Call (.Attribute x s p) es [] q => nmIs s m && mtKnown m && decide (p.endLine = q.line) && decide (es.length < 30) && notCall x && chk sc a x && chkL sc l es
  | .comp e t k s cs own n, .ListComp x [⟨tg, it, ifs, a⟩] scope _ => a == 0 && (match iterArgs gi sc k it with | some es => chkL sc s es | none => false) && kindOk k s.length tg && !(isSet it) && chkT N scope t tg && chkL (relS scope sc) cs ifs && decide (ifs.length ≤ 1) &&
      chk (relS scope sc) e x && L2.blkC N sc scope (ownN N own) && own.all (fun i => decide (i < N.length)) && n == N.length
  | .bad, e => !(isStar e) && !(isSlice e) && !(isSet e)
  | .dctC l, .Dict ks vs _ => chkDC l ks vs && decide (l.length ≤ 15) && !l.isEmpty
  | .trng a, .Call (.Name x _) [.Call (.Name y _) [e] [] _] [] _ => nmIs x "tuple" && glbB sc x && gi.frs.contains "tuple" && nmIs y "range" && glbB sc y && gi.frs.contains "range" && chk sc a e
  | .mget a k d, .Call (.Attribute x s p) [e, f] [] q => nmIs s "get" && decide (p.endLine = q.line) && notCall x && chk sc a x && chk sc k e && chk sc d f
  | _, _ => false
def chkL (sc : Scope) : List CE → List Expr → Bool
  | [], [] => true
  | c :: l, e :: r => chk sc c e && chkL sc l r
  | _, _ => false
def chkK (sc : Scope) : List String → List CE → List PySem.Keyword → Bool
  | [], [], [] => true
  | s :: ns, c :: l, ⟨some x, e, _⟩ :: r => nmIs x s && chk sc c e && chkK sc ns l r
  | _, _, _ => false
def chkO (sc : Scope) : Option CE → Option Expr → Bool
  | none, none => true
  | some c, some e => chk sc c e
  | _, _ => false
end
end

section
variable {gi : GI} {N : List Str} {sc : Scope}
theorem chk_plain {c : CE} {e : Expr} (h : chk gi N sc c e = true) : isSlice e = false := by
  cases e <;> first | rfl | (exfalso; revert h; cases c <;> simp [chk, isStar, isSlice, isSet])
theorem plainIx {e : Expr} (h : isSlice e = false) : L2.PlainIx e := by
  intro o i
  cases e <;> first | rfl | (exact absurd h (by simp [isSlice]))
theorem chk_star {c : CE} {e : Expr} (h : chk gi N sc c e = true) : isStar e = false := by
  cases e <;> first | rfl | (exfalso; revert h; cases c <;> simp [chk, isStar, isSlice, isSet])
theorem star_ok {e : Expr} {es : List Expr} {env : PySem.Env} (h : isStar e = false) : PySem.starEach (e :: es) env = (false, PySem.eval e env) :: PySem.starEach es env := by
  cases e <;> first | rfl | (exact absurd h (by simp [isStar]))
theorem star_none {pos : Pos} {env : PySem.Env} : ∀ {l : List CE} {es : List Expr}, chkL gi N sc l es = true → (PySem.backTo pos (PySem.starEach es env)).any (·.1) = false
  | [], [], _ => rfl
  | c :: l, e :: es, h => by
    simp only [chkL, Bool.and_eq_true] at h
    rw [star_ok (chk_star h.1)]
    have ih := star_none (pos := pos) (env := env) h.2
    simp only [PySem.backTo, List.map_cons, List.any_cons, Bool.false_or] at ih ⊢
    exact ih
  | [], _ :: _, h => by simp [chkL] at h
  | _ :: _, [], h => by simp [chkL] at h
end
end Iv

set_option linter.all false
set_option maxRecDepth 100000
set_option autoImplicit false
set_option Elab.async false
set_option maxHeartbeats 1000000
/-! Iv, part 5: expressions. -/
namespace Iv
open PySem (Str Addr Value Obj Heap World Program Expr Stmt Scope Pos Shared Tok NameKind)
open L2 (V Hp HO St upd SqL SqT Rd RelV Vals VK TE TT TA TS Cx Inv PE PT PA PS PSs upd_same upd_ne WX Takes Sp XK OpR CallR IxR)
variable {EP : ExPin}

def COk (K : PySem.W.Frag) (XC : String → Addr) (σ : St) (U : Addr → Prop) (H : Hp) (as : Rho) (o : COut) (Q : VK) (E : XK) : Prop := match o with
  | .ok a outs => ∀ U' H', Adv noEx K σ U H as U' H' outs → ∀ v, RA K U' H' σ H a v → Q v H'
  | .exc c fs outs => ∀ U' H' cls d, Adv noEx K σ U H as U' H' outs → RX K XC U' H' c fs cls d → E cls d H'
  | .stuck => False
/-- a def's promise: what the interpreter says -/
def spF (K : PySem.W.Frag) (XC : String → Addr) (Φ : String → Rho → COut) (f : String) : Sp := fun vs H Q E =>
  ∃ (as : Rho) (U : Addr → Prop), R noEx K U H (vs.map some) as ∧ COk K XC (vs.map some) U H as (Φ f as) Q E

/-- what the module holds -/
structure Ctx (gi : GI) (V : Env) (Φ : String → Rho → COut) (XC : String → Addr) (k : Nat) (P : Program) (w : World) (K : PySem.W.Frag) (mg : Str → Option Value) (base : Heap) : Prop where
  fr : ∀ x, gi.frs.contains x = true → mg (Str.ofString x) = none
  gl : ∀ x, gi.gls.contains x = true → ∃ d v u, V.glob x = some d ∧ mg (Str.ofString x) = some u ∧ RelV v u ∧ ∀ U H, RD K U H d v
  gd : ∀ x, gi.gds.contains x = true → ∃ (l : List (Tx × D)) (a : Addr), V.gdct x = some l ∧ mg (Str.ofString x) = some (.ref a) ∧ ∀ s d, l.lookup s = some d → ∃ v, L2.KDct K w a (sx s) v ∧ ∀ U H, RD K U H d v
  fn : ∀ x, gi.fns.contains x = true → ∃ (f : Addr) (fd : PySem.FuncData) (ps : List Str), mg (Str.ofString x) = some (.ref f) ∧ PySem.W.keepIn K (.ref f) = true ∧
    L2.Binds K fd ps [] ∧ L2.FnOk P w K mg base (L2.CX P w) k f fd ps (spF K XC Φ x)
  ex : ∀ c, gi.cls.contains c = true → ∃ (bmB : List Value) (B newId initId : String), PySem.ExcBaseFacts B newId initId bmB ∧ PySem.W.excIn K (XC c) bmB newId = true ∧ mg (Str.ofString c) = some (.ref (XC c)) ∧ PySem.W.keepIn K (.ref (XC c)) = true ∧
    PySem.W.subIn K (.ref (XC c)) (.type "BaseException") = some true ∧ PySem.W.typeIn K (.ref (XC c)) = some (.type "type") ∧ L2.ExcC K (XC c)
  sb : ∀ c c' b, V.sub c c' = some b → PySem.W.exmOne K (.ref (XC c)) (.ref (XC c')) = some b ∧ PySem.W.kitOne K (.ref (XC c)) (.ref (XC c')) = some b ∧ L2.ExcC K (XC c)
  kw : ∀ q, gi.kws.contains q = true → ∃ (f : Addr) (fd : PySem.FuncData) (ps : List Str), mg (Str.ofString q.1) = some (.ref f) ∧ PySem.W.keepIn K (.ref f) = true ∧
    L2.FnOk P w K mg base (L2.CX P w) k f fd ps (spF K XC Φ q.1) ∧ ∀ (s : Shared) (us ws : List Value), us.length = q.2.1 → ws.length = q.2.2.1.length → PySem.BindsTo s fd ⟨us, (q.2.2.1.map Str.ofString).zip ws⟩ (ps.zip (us ++ pickL q.2.2.2 ws))

/-- a place of the text: X's names, its scope, what it wants of exceptions -/
structure Gd (EP : ExPin) (XC : String → Addr) (hot : Bool) (k : Nat) (N : List Str) (sc : Scope) (W : WX) (X : Cx) : Prop where
  tk : Takes X W
  n : X.N = N
  sc : X.env.scope = sc
  nd : N.Nodup
  calm : hot = false → X.calm = true
  room : hot = false → L2.Room k X.A
  un : X.A.units + 200 < PySem.cLine
  ep : hot = false → ∀ i a c fs, ¬ EP.at_ i a c fs
  pe : ∀ i a c fs, EP.at_ i a c fs → ∃ oe, (a, oe) ∈ X.pn ∧ (∃ vs, oe.data = .fields vs) ∧ (fs = [] → L2.Zc (.ref (XC c)) none oe)

section
variable (EP : ExPin) (K : PySem.W.Frag) (XC : String → Addr) (W : WX)
/-- the readings of computations -/
def tM (m : M A) : TE := fun σ H Q => ∃ (ρ : Rho) (U : Addr → Prop), R EP K U H σ ρ ∧ OutOk EP K XC W σ U H ρ (m ρ) fun a U' H' _ => ∀ v, RA K U' H' σ H a v → Q v H'
def tB (m : M Bool) : TT := fun σ H Q => ∃ (ρ : Rho) (U : Addr → Prop), R EP K U H σ ρ ∧ OutOk EP K XC W σ U H ρ (m ρ) fun b _ H' _ => Q b H'
/-- kept values -/
def tS (m : M (List D)) : TA := fun σ H Q => ∃ (ρ : Rho) (U : Addr → Prop), R EP K U H σ ρ ∧ OutOk EP K XC W σ U H ρ (m ρ) fun l U' H' _ => ∀ vs, RL K U' H' l vs → Q vs H'
end
theorem pe_of {X : Cx} {e : Expr} {t' : TE} (h : ∀ σ H Q, t' σ H Q → ∃ t : TE, PE X e t ∧ t σ H Q) : PE X e t' :=
  ⟨fun pins s σ H Q I q => let ⟨t, p, z⟩ := h σ H Q q; p.run pins s σ H Q I z⟩
theorem pt_of {X : Cx} {e : Expr} {t' : TT} (h : ∀ σ H Q, t' σ H Q → ∃ t : TT, PT X e t ∧ t σ H Q) : PT X e t' :=
  ⟨fun pins s σ H Q I q => let ⟨t, p, z⟩ := h σ H Q q; p.run pins s σ H Q I z⟩
theorem pa_of {X : Cx} {es : List Expr} {t' : TA} (h : ∀ σ H Q, t' σ H Q → ∃ t : TA, PA X es t ∧ t σ H Q) : PA X es t' :=
  ⟨fun pos pins s σ H Q I q => let ⟨t, p, z⟩ := h σ H Q q; p.run pos pins s σ H Q I z⟩

section
variable {K : PySem.W.Frag} {XC : String → Addr} {W : WX} {σ : St} {U U' U1 : Addr → Prop} {H H' H1 : Hp} {ρ ρ' ρ1 : Rho} {α β : Type}
theorem OutOk.now {a : α} {k : α → (Addr → Prop) → Hp → Rho → Prop} (h : OutOk EP K XC W σ U H ρ (.ok a ρ') k) (f : Adv EP K σ U H ρ U' H' ρ') : k a U' H' ρ' := h U' H' f
theorem OutOk.opt {o : Option α} {k : α → (Addr → Prop) → Hp → Rho → Prop} (h : OutOk EP K XC W σ U H ρ (opt o ρ') k) : ∃ a, o = some a ∧ OutOk EP K XC W σ U H ρ (.ok a ρ') k := by
  cases o with
  | none => exact h.elim
  | some a => exact ⟨a, rfl, h⟩
theorem OutOk.grd {b : Bool} {f : Unit → M β} {k : β → (Addr → Prop) → Hp → Rho → Prop} (h : OutOk EP K XC W σ U H ρ (Iv.bnd (Iv.grd b) f ρ') k) : b = true ∧ OutOk EP K XC W σ U H ρ (f () ρ') k := by
  unfold Iv.bnd Iv.grd at h
  by_cases e : b = true
  · rw [if_pos e] at h; exact ⟨e, h⟩
  · rw [if_neg e] at h; exact h.elim
theorem OutOk.bopt {o : Option α} {f : α → M β} {k : β → (Addr → Prop) → Hp → Rho → Prop} (h : OutOk EP K XC W σ U H ρ (Iv.bnd (Iv.opt o) f ρ') k) : ∃ a, o = some a ∧ OutOk EP K XC W σ U H ρ (f a ρ') k := by
  cases o with
  | none => exact h.elim
  | some a => exact ⟨a, rfl, h⟩
theorem OutOk.brd {x : A} {v : V} {H0 : Hp} {f : D → M β} {k : β → (Addr → Prop) → Hp → Rho → Prop} (r : R EP K U' H' σ ρ') (a : RA K U' H' σ H0 x v) (h : OutOk EP K XC W σ U H ρ (Iv.bnd (rd x) f ρ') k) :
    ∃ d, RC K U' H' d v ∧ OutOk EP K XC W σ U H ρ (f d ρ') k := by
  unfold Iv.bnd at h
  cases e : rd x ρ' with
  | stuck => rw [e] at h; exact h.elim
  | exc c fs ρ2 =>
    cases x with
    | val d => cases e
    | fr d => cases e
    | rf i =>
      exfalso
      unfold rd at e
      simp only [Iv.bnd, slot] at e
      cases q : ρ'[i]? with
      | none => rw [q] at e; cases e
      | some s => rw [q] at e; cases s <;> cases e
  | ok d ρ2 =>
    obtain ⟨e1, c⟩ := rd_ok r a e
    rw [e] at h
    subst e1
    exact ⟨d, c, h⟩
/-- behind a first computation: the base is kept, the step known -/
theorem OutOk.seq {m : M α} {f : α → M β} {k : β → (Addr → Prop) → Hp → Rho → Prop} (h : OutOk EP K XC W σ U H ρ (Iv.bnd m f ρ1) k) (a : Adv EP K σ U H ρ U1 H1 ρ1) :
    OutOk EP K XC W σ U1 H1 ρ1 (m ρ1) fun x U2 H2 ρ2 => Adv EP K σ U1 H1 ρ1 U2 H2 ρ2 ∧ OutOk EP K XC W σ U H ρ (f x ρ2) k := by
  unfold Iv.bnd at h
  cases e : m ρ1 with
  | stuck => rw [e] at h; exact h.elim
  | exc c fs ρ' => rw [e] at h; exact fun U' H' cls d f2 => h U' H' cls d (a.trans f2)
  | ok x ρ2 => rw [e] at h; exact fun U1 H1 f1 => ⟨f1, h⟩
theorem Step.none_back {O : Addr → Prop} (s : Step O U U' H H') {p : Addr} (h : H' p = none) : H p = none := by
  cases e : H p with
  | none => rfl
  | some o => obtain ⟨o', e'⟩ := s.trk p o e; rw [h] at e'; cases e'
theorem RA.back {a : A} {v : V} {H0 : Hp} (s : Adv EP K σ U H0 ρ U1 H1 ρ1) (h : RA K U' H' σ H1 a v) : RA K U' H' σ H0 a v := by
  cases a with
  | val d => exact h
  | rf i => exact h
  | fr d => obtain ⟨p, e, o, n⟩ := h; exact ⟨p, e, o, s.st.none_back n⟩
/-- two operands: both are there behind the second -/
theorem two {ma mb : M A} {f : A → A → M A} {Q : VK} {R2 : V → V → Hp → Prop} (h : tM EP K XC W (bnd ma fun x => bnd mb fun y => f x y) σ H Q)
    (hr : ∀ (ρ : Rho) (U : Addr → Prop) (x y : A) (v v' : V) (U2 : Addr → Prop) (H2 : Hp) (ρ2 : Rho), R EP K U H σ ρ → Adv EP K σ U H ρ U2 H2 ρ2 → RA K U2 H2 σ H x v → RA K U2 H2 σ H y v' →
      (OutOk EP K XC W σ U H ρ (f x y ρ2) fun a U' H' _ => ∀ v, RA K U' H' σ H a v → Q v H') → R2 v v' H2) :
    tM EP K XC W ma σ H fun v H1 => tM EP K XC W mb σ H1 fun v' H2 => R2 v v' H2 := by
  obtain ⟨ρ, U, r, o⟩ := h
  refine ⟨ρ, U, r, (o.seq (Adv.refl r)).mono fun x U1 H1 ρ1 _ z v rv => ?_⟩
  obtain ⟨a1, o1⟩ := z
  refine ⟨ρ1, U1, a1.r, (OutOk.seq o1 a1).mono fun y U2 H2 ρ2 _ z v' rv' => ?_⟩
  obtain ⟨a2, o2⟩ := z
  exact hr ρ U x y v v' U2 H2 ρ2 r (a1.trans a2) (RA.mono a1.r a2 (fun b z => r.ownS (a1.sub b z)) rv) (RA.back a1 rv') o2
end
end Iv

set_option linter.all false
set_option maxRecDepth 100000
set_option autoImplicit false
set_option Elab.async false
set_option maxHeartbeats 1000000
/-! Iv, part 6: operators by values. -/
namespace Iv
open PySem (Str Addr Value Obj Heap World Program Expr Stmt Scope Pos Shared Tok NameKind Operator CmpOp)
open L2 (V Hp HO St upd SqL SqT Rd RelV Vals VK TE TT TA TS Cx Inv PE PT PA PS PSs upd_same upd_ne WX Takes Sp XK OpR CallR IxR R2)
variable {EP : ExPin}

section
variable {K : PySem.W.Frag} {U : Addr → Prop} {H : Hp}
theorem RC.non {v : V} (h : RC K U H .non v) : v = .non := by
  rcases h with h | ⟨p, _, h⟩
  · unfold RD at h; exact h
  · unfold RO at h; exact h.2.elim
theorem RC.bl {b : Bool} {v : V} (h : RC K U H (.bl b) v) : v = .bl b := by
  rcases h with h | ⟨p, _, h⟩
  · unfold RD at h; exact h
  · unfold RO at h; exact h.2.elim
theorem RC.int {i : Int} {v : V} (h : RC K U H (.int i) v) : v = .int i := by
  rcases h with h | ⟨p, _, h⟩
  · unfold RD at h; exact h
  · unfold RO at h; exact h.2.elim
theorem RC.str {s : Tx} {v : V} (h : RC K U H (.str s) v) : v = .str (sx s) ∧ okTx s := by
  rcases h with h | ⟨p, _, h⟩
  · unfold RD at h; exact h
  · unfold RO at h; exact h.2.elim
theorem RC.set {l : List D} {v : V} (h : RC K U H (.set l) v) : False := by
  rcases h with h | ⟨p, _, h⟩
  · unfold RD at h; exact h
  · unfold RO at h; exact h.2.elim
theorem ShT.sq {a : Addr} {vs : List V} (h : ShT K H a vs) : SqT K H a vs := h.elim .inl (fun z => z H)
theorem ShL.sq {a : Addr} {vs : List V} (h : ShL K U H a vs) : SqL K H a vs := h.elim (fun z => .inl z.2) (fun z => z H)
theorem RC.tup {l : List D} {v : V} (h : RC K U H (.tup l) v) : ∃ a vs, v = .ref a ∧ ShT K H a vs ∧ RL K U H l vs := by
  rcases h with h | ⟨p, _, h⟩
  · unfold RD at h; exact h
  · unfold RO at h; exact h.2.elim
theorem RC.lst {l : List D} {v : V} (h : RC K U H (.lst l) v) : ∃ a vs, v = .ref a ∧ SqL K H a vs ∧ RL K U H l vs := by
  rcases h with h | ⟨p, e, h⟩
  · unfold RD at h
    obtain ⟨a, vs, e, s, r⟩ := h
    exact ⟨a, vs, e, s.sq, r⟩
  · unfold RO at h
    obtain ⟨_, vs, s, r⟩ := h
    exact ⟨p, vs, e, .inl (.inl s), r⟩
theorem RC.dtn {l : List (D × D)} {v : V} (h : RC K U H (.dtn l) v) : ∃ a kvs, v = .ref a ∧ H a = some (.dT kvs) ∧ RT K U H l kvs := by
  rcases h with h | ⟨p, e, h⟩
  · unfold RD at h
    obtain ⟨a, vs, e, s, r⟩ := h
    exact ⟨a, vs, e, s.2, r⟩
  · unfold RO at h
    obtain ⟨_, vs, s, r⟩ := h
    exact ⟨p, vs, e, s, r⟩
theorem RC.dct {l : List (D × D)} {v : V} (h : RC K U H (.dct l) v) : ∃ a kvs, v = .ref a ∧ Rd H a (.dK kvs) ∧ RK K U H l kvs := by
  rcases h with h | ⟨p, e, h⟩
  · unfold RD at h
    obtain ⟨a, vs, e, s, r⟩ := h
    exact ⟨a, vs, e, s.2, r⟩
  · unfold RO at h
    obtain ⟨_, vs, s, r⟩ := h
    exact ⟨p, vs, e, .inl s, r⟩
end

/-- a new outcome: H0 the heap ahead of it -/
def RN (K : PySem.W.Frag) (U : Addr → Prop) (H H0 : Hp) : A → V → Prop
  | .val d, v => RD K U H d v
  | .fr d, v => ∃ p, v = .ref p ∧ RO K U H d p ∧ H0 p = none
  | .rf _, _ => False
/-- an outcome is handed on: the heap as it was, or with one new object -/
def Dlv (K : PySem.W.Frag) (U : Addr → Prop) (H : Hp) (a : A) (Q : VK) : Prop := ∀ (H' : Hp) (v : V), (H' = H ∨ ∃ p o, H p = none ∧ H' = upd H p o) → RN K U H' H a v → Q v H'
section
variable {K : PySem.W.Frag} {XC : String → Addr} {W : WX} {σ : St} {U U' U1 U2 : Addr → Prop} {H H' H1 H2 : Hp} {ρ ρ' ρ1 ρ2 : Rho} {Q : VK} {a : A}
theorem RN.ra {v : V} {H0 : Hp} (h : RN K U H H0 a v) : RA K U H σ H0 a v := by
  cases a with
  | rf i => exact h.elim
  | val d => exact h
  | fr d => exact h
/-- the end of a computation, as a wish for its outcome -/
theorem OutOk.dlv (f : Adv EP K σ U H ρ U2 H2 ρ2) (h : OutOk EP K XC W σ U H ρ (.ok a ρ2) fun a U' H' _ => ∀ v, RA K U' H' σ H a v → Q v H') : Dlv K U2 H2 a Q := by
  intro H' v e r
  have r2 : RA K U2 H' σ H2 a v := r.ra
  rcases e with rfl | ⟨p, o, hp, rfl⟩
  · exact h U2 _ f v (r2.back f)
  · exact h U2 _ (f.trans (Adv.alloc f.r hp)) v (r2.back f)
theorem Dlv.same {v : V} (d : Dlv K U H a Q) (r : RN K U H H a v) : Q v H := d H v (.inl rfl) r
theorem Dlv.int {i : Int} (d : Dlv K U H (.val (.int i)) Q) : Q (.int i) H := d.same (by show RD K U H (.int i) _; unfold RD; rfl)
theorem Dlv.bl {i : Bool} (d : Dlv K U H (.val (.bl i)) Q) : Q (.bl i) H := d.same (by show RD K U H (.bl i) _; unfold RD; rfl)
theorem Dlv.str {i : Tx} (d : Dlv K U H (.val (.str i)) Q) (h : okTx i) : Q (.str (sx i)) H := d.same (by show RD K U H (.str i) _; unfold RD; exact ⟨rfl, h⟩)
theorem okTx.app {s t : Tx} (a : okTx s) (b : okTx t) : okTx (s ++ t) := fun c h => (List.mem_append.mp h).elim (a c) (b c)
theorem Dlv.non (d : Dlv K U H (.val .non) Q) : Q .non H := d.same (by show RD K U H .non _; unfold RD; rfl)
theorem Dlv.val {x : D} {v : V} (d : Dlv K U H (.val x) Q) (r : RD K U H x v) : Q v H := d.same r
theorem Dlv.tup {l : List D} {vs : List V} (d : Dlv K U H (.val (.tup l)) Q) (r : RL K U H l vs) {p : Addr} (hp : H p = none) : Q (.ref p) (upd H p (.tup vs)) := by
  refine d _ _ (.inr ⟨p, _, hp, rfl⟩) ?_
  show RD K U _ (.tup l) _
  unfold RD
  exact ⟨p, vs, rfl, .inl (.inl upd_same), RL.mono (Kp.alloc hp) l vs r⟩
theorem Dlv.lst {l : List D} {vs : List V} (d : Dlv K U H (.fr (.lst l)) Q) (r : RL K U H l vs) {p : Addr} (hp : H p = none) (nu : ¬ U p) : Q (.ref p) (upd H p (.lst vs)) := by
  refine d _ _ (.inr ⟨p, _, hp, rfl⟩) ⟨p, rfl, ?_, hp⟩
  unfold RO
  exact ⟨nu, vs, upd_same, RL.mono (Kp.alloc hp) l vs r⟩
end

/-! ### operators -/
section
variable {X : Cx}
/-- a rule for an operator, from what it makes of contents -/
def rD (K : PySem.W.Frag) (f : D → D → Option A) : R2 := fun x y H Q => ∃ (U : Addr → Prop) (d d' : D) (a : A), (∀ b, U b → ∃ o, H b = some o) ∧ RC K U H d x ∧ RC K U H d' y ∧ f d d' = some a ∧ Dlv K U H a Q
theorem guardO_some {α : Type} {b : Bool} {a c : α} (h : guardO b a = some c) : b = true ∧ a = c := by
  unfold guardO at h
  split at h
  · exact ⟨by assumption, by simpa using h⟩
  · cases h
theorem sx_len (s : Tx) : (sx s).length = s.length := by simp [sx, PySem.Str.length]
theorem sx_app (s t : Tx) : sx s ++ sx t = sx (s ++ t) := by
  show (⟨(sx s).cps ++ (sx t).cps⟩ : Str) = _
  simp [sx]
theorem mulOk_ok {i j : Int} (h : mulOk i j = true) : PySem.IntMulOk i j := by
  have h3 : i.natAbs.log2 + j.natAbs.log2 < 100000000 := of_decide_eq_true h
  have b : ∀ x : Int, PySem.Builtin.Int.intBits x ≤ x.natAbs.log2 + 1 := fun x => by
    unfold PySem.Builtin.Int.intBits; split <;> omega
  have h1 := b i
  have h2 := b j
  have e : PySem.bitsLine = 134217728 := by decide
  unfold PySem.IntMulOk
  intro z
  have z2 := (Bool.and_eq_true_iff.mp z).2
  unfold PySem.Builtin.Int.intTooBig at z2
  have z3 := of_decide_eq_true z2
  omega
theorem op_mulB : OpR X (PySem.binaryOp .Mult) (L2.rI (fun i j => mulOk i j = true) fun i j => .int (i * j)) := L2.opI fun _ _ _ _ _ _ _ hc q => PyProof.Rows.mul_int q (mulOk_ok hc)
theorem op_divB : OpR X (PySem.binaryOp .FloorDiv) (L2.rI (fun _ j => divOk j = true) fun i j => .int (i.fdiv j)) := L2.opI fun _ _ _ _ _ _ _ hc q => by
  have hc' := Bool.and_eq_true_iff.mp hc
  exact PyProof.Rows.floordiv_int (of_decide_eq_true hc'.1) q (.inl (PyProof.noPylong_of_log2 (of_decide_eq_true hc'.2)))
/-- list + list, wherever they stand -/
theorem op_catL : OpR X (PySem.binaryOp .Add) (fun x y H Q => ∃ l b xs zs, x = .ref l ∧ y = .ref b ∧ SqL X.K H l xs ∧ SqL X.K H b zs ∧ xs.length + zs.length ≤ PySem.sizeLine ∧ ∀ p, H p = none → Q (.ref p) (upd H p (.lst (xs ++ zs)))) := by
  intro pins s σ H x y v u Q I rx ry h
  obtain ⟨l, b, xs, zs, rfl, rfl, hH, hB, hz, q⟩ := h
  cases rx
  cases ry
  obtain ⟨ms, r, ⟨⟨c1, d1, t1, sl1⟩, n1, e1, z1, _, y1⟩, _⟩ := I.list hH
  obtain ⟨ks, r2, ⟨⟨c2, d2, t2, sl2⟩, n2, e2, z2, _, y2⟩, _⟩ := I.list hB
  simp only at z1 y1 z2 y2
  subst z1 y1 z2 y2
  have q1 := r.length
  have q2 := r2.length
  refine PySem.concat_meets ⟨_, e1, rfl⟩ ⟨_, e2, rfl⟩ PySem.noFill_list_add PySem.seq_list_add PySem.F.slot_list_add PySem.F.entry_list_add (PySem.F.args_list_add_2 _ _)
    (PyProof.Rows.list_addW l b ms.toArray ks.toArray n1 n2 d1 d2 sl1 sl2 (by simp; omega)) ⟨e1, e2, ?_⟩
  have ea : ms.toArray ++ ks.toArray = (ms ++ ks).toArray := by simp
  rw [ea]
  exact ⟨.ref _, _, I.lnew (t' := s.toks) (r.append r2) (by rw [List.length_append]; omega), rfl, q _ I.fresh⟩
theorem sizeLine_is : sizeLine = PySem.sizeLine := by rw [PySem.sizeLine_eq]; rfl
theorem OpR.imp {f : Value → Value → PySem.Sem Value} {r r' : R2} (h : OpR X f r) (i : ∀ x y H Q, r' x y H Q → r x y H Q) : OpR X f r' := fun pins s σ H x y v u Q I rx ry q => h pins s σ H x y v u Q I rx ry (i x y H Q q)
theorem op_binD (o : Operator) : OpR X (PySem.binaryOp o) (rD X.K (binD o)) := by
  intro pins s σ H x y v u Q I rx ry h
  obtain ⟨U, d, d', a, tr, c, c', e, q⟩ := h
  have nu : ∀ {p : Addr}, H p = none → ¬ U p := fun hp z => by obtain ⟨o, w⟩ := tr _ z; rw [hp] at w; cases w
  unfold binD at e
  split at e
  · cases e; cases c.int; cases c'.int
    exact L2.op_add pins s σ H _ _ v u Q I rx ry ⟨_, _, rfl, rfl, q.int⟩
  · obtain ⟨e1, rfl⟩ := guardO_some e
    obtain ⟨rfl, k1⟩ := c.str
    obtain ⟨rfl, k2⟩ := c'.str
    refine L2.op_add_str pins s σ H _ _ v u Q I rx ry ⟨_, _, rfl, rfl, ?_, ?_⟩
    · rw [sx_len, sx_len, ← sizeLine_is]; exact of_decide_eq_true e1
    · rw [sx_app]; exact q.str (k1.app k2)
  · obtain ⟨e1, rfl⟩ := guardO_some e
    obtain ⟨l, vs, rfl, s1, r1⟩ := c.tup
    obtain ⟨b, ws, rfl, s2, r2⟩ := c'.tup
    refine L2.op_catA pins s σ H _ _ v u Q I rx ry ⟨l, b, vs, ws, rfl, rfl, s1.sq, s2.sq, ?_, fun z => ?_, fun _ z => ?_, fun _ _ p hp => q.tup (r1.append r2) hp⟩
    · rw [r1.len, r2.len, ← sizeLine_is]; exact of_decide_eq_true e1
    · subst z
      have e0 := r1.len
      have e2 : _ = [] := List.length_eq_zero_iff.mp e0.symm
      subst e2
      exact q.val (by show RD _ _ _ (.tup _) _; unfold RD; exact ⟨b, ws, rfl, s2, r2⟩)
    · subst z
      have e0 := r2.len
      have e2 : _ = [] := List.length_eq_zero_iff.mp e0.symm
      subst e2
      exact q.val (by show RD _ _ _ (.tup _) _; unfold RD; exact ⟨l, vs, rfl, s1, by simpa using r1⟩)
  · obtain ⟨e1, rfl⟩ := guardO_some e
    obtain ⟨l, vs, rfl, s1, r1⟩ := c.lst
    obtain ⟨b, ws, rfl, s2, r2⟩ := c'.lst
    refine op_catL pins s σ H _ _ v u Q I rx ry ⟨l, b, vs, ws, rfl, rfl, s1, s2, ?_, fun p hp => q.lst (r1.append r2) hp (nu hp)⟩
    rw [r1.len, r2.len, ← sizeLine_is]; exact of_decide_eq_true e1
  · cases e; cases c.int; cases c'.int
    exact L2.op_sub pins s σ H _ _ v u Q I rx ry ⟨_, _, rfl, rfl, q.int⟩
  · obtain ⟨e1, rfl⟩ := guardO_some e
    cases c.int; cases c'.int
    exact op_mulB pins s σ H _ _ v u Q I rx ry ⟨_, _, rfl, rfl, e1, q.int⟩
  · obtain ⟨e1, rfl⟩ := guardO_some e
    cases c.int; cases c'.int
    exact op_divB pins s σ H _ _ v u Q I rx ry ⟨_, _, rfl, rfl, e1, q.int⟩
  · obtain ⟨e1, rfl⟩ := guardO_some e
    cases c.int; cases c'.int
    exact L2.op_modN pins s σ H _ _ v u Q I rx ry ⟨_, _, rfl, rfl, of_decide_eq_true e1, q.int⟩
  · obtain ⟨e1, rfl⟩ := guardO_some e
    cases c.int; cases c'.int
    have e2 := Bool.and_eq_true_iff.mp e1
    have e3 := Bool.and_eq_true_iff.mp e2.1
    exact L2.op_pow pins s σ H _ _ v u Q I rx ry ⟨_, _, rfl, rfl, ⟨of_decide_eq_true e3.1, of_decide_eq_true e3.2, of_decide_eq_true e2.2⟩, q.int⟩
  · cases e; cases c.int; cases c'.int
    exact L2.op_and pins s σ H _ _ v u Q I rx ry ⟨_, _, rfl, rfl, q.int⟩
  · cases e; cases c.int; cases c'.int
    exact L2.op_or pins s σ H _ _ v u Q I rx ry ⟨_, _, rfl, rfl, q.int⟩
  · cases e; cases c.int; cases c'.int
    exact L2.op_xor pins s σ H _ _ v u Q I rx ry ⟨_, _, rfl, rfl, q.int⟩
  · cases e
end
end Iv

set_option linter.all false
set_option maxRecDepth 100000
set_option autoImplicit false
set_option Elab.async false
set_option maxHeartbeats 1000000
/-! Iv, part 7: comparisons. -/
namespace Iv
open PySem (Str Addr Value Obj Heap World Program Expr Stmt Scope Pos Shared Tok NameKind Operator CmpOp PyData)
open L2 (V Hp HO St upd SqL SqT Rd RelV Vals VK TE TT TA TS Cx Inv PE PT PA PS PSs upd_same upd_ne WX Takes Sp XK OpR CallR IxR R2 Dp DpAll)
variable {EP : ExPin}

mutual
def D.toP : D → PyData
  | .non => .none
  | .bl b => .bool b
  | .int i => .int i
  | .str s => .str (sx s)
  | .tup l => .tuple (D.toPL l)
  | .lst l => .list (D.toPL l)
  | .dct _ => .none
  | .set _ => .none
  | .dtn _ => .none
def D.toPL : List D → List PyData
  | [] => []
  | d :: l => D.toP d :: D.toPL l
end
theorem sx_eq (s t : Tx) : (sx s == sx t) = (s == t) := by
  rw [Bool.eq_iff_iff]
  simp [sx]
mutual
theorem pe_eqv : ∀ (a b : D), a.pln = true → b.pln = true → PyData.eqv a.toP b.toP = D.pe a b
  | .non, b, _, hb => by cases b <;> first | rfl | (simp [D.pln] at hb)
  | .bl x, b, _, hb => by cases b <;> first | rfl | (simp [D.pln] at hb)
  | .int i, b, _, hb => by cases b <;> first | rfl | (simp [D.pln] at hb)
  | .str s, b, _, hb => by
    cases b <;> first | rfl | (simp [D.pln] at hb; done) | skip
    exact sx_eq _ _
  | .tup l, b, ha, hb => by
    cases b <;> first | rfl | (simp [D.pln] at hb; done) | skip
    exact pe_eqvL l _ ha hb
  | .lst l, b, ha, hb => by
    cases b <;> first | rfl | (simp [D.pln] at hb; done) | skip
    exact pe_eqvL l _ ha hb
  | .dct _, _, ha, _ => by simp [D.pln] at ha
  | .set _, _, ha, _ => by simp [D.pln] at ha
  | .dtn _, _, ha, _ => by simp [D.pln] at ha
theorem pe_eqvL : ∀ (l m : List D), D.plnL l = true → D.plnL m = true → PyData.eqvAll (D.toPL l) (D.toPL m) = D.peL l m
  | [], [], _, _ => rfl
  | [], _ :: _, _, _ => rfl
  | _ :: _, [], _, _ => rfl
  | a :: l, b :: m, ha, hb => by
    have ha' : a.pln = true ∧ D.plnL l = true := by simpa [D.plnL] using ha
    have hb' : b.pln = true ∧ D.plnL m = true := by simpa [D.plnL] using hb
    show (PyData.eqv a.toP b.toP && PyData.eqvAll (D.toPL l) (D.toPL m)) = (D.pe a b && D.peL l m)
    rw [pe_eqv a b ha'.1 hb'.1, pe_eqvL l m ha'.2 hb'.2]
end
mutual
theorem dep_toP : ∀ d : D, d.pln = true → PyData.depth d.toP = d.dep
  | .non, _ => rfl
  | .bl _, _ => rfl
  | .int _, _ => rfl
  | .str _, _ => rfl
  | .tup l, h => by show PyData.depthAll (D.toPL l) + 1 = D.depL l + 1; rw [dep_toPL l h]
  | .lst l, h => by show PyData.depthAll (D.toPL l) + 1 = D.depL l + 1; rw [dep_toPL l h]
  | .dct _, h => by simp [D.pln] at h
  | .set _, h => by simp [D.pln] at h
  | .dtn _, h => by simp [D.pln] at h
theorem dep_toPL : ∀ l : List D, D.plnL l = true → PyData.depthAll (D.toPL l) = D.depL l
  | [], _ => rfl
  | d :: l, h => by
    have h' : d.pln = true ∧ D.plnL l = true := by simpa [D.plnL] using h
    show max (PyData.depth d.toP) (PyData.depthAll (D.toPL l)) = max d.dep (D.depL l)
    rw [dep_toP d h'.1, dep_toPL l h'.2]
end
section
variable {K : PySem.W.Frag} {U : Addr → Prop} {H : Hp}
mutual
theorem RD.dp : ∀ (d : D) (v : V), RD K U H d v → d.pln = true → Dp K H v d.toP ∧ PyData.canLay0 d.toP = true
  | .non, v, h, _ => by unfold RD at h; subst h; exact ⟨.non, rfl⟩
  | .bl b, v, h, _ => by unfold RD at h; subst h; exact ⟨.bl b, rfl⟩
  | .int i, v, h, _ => by unfold RD at h; subst h; exact ⟨.int i, rfl⟩
  | .str s, v, h, _ => by
    unfold RD at h
    obtain ⟨rfl, k⟩ := h
    refine ⟨.str _, ?_⟩
    show PyData.strOk (sx s) = true
    simp only [PyData.strOk, sx, List.all_toArray, List.all_eq_true, decide_eq_true_eq]
    exact k
  | .tup l, v, h, p => by
    unfold RD at h
    obtain ⟨a, vs, rfl, s, r⟩ := h
    obtain ⟨q1, q2⟩ := RL.dp l vs r p
    exact ⟨.tup s.sq q1, q2⟩
  | .lst l, v, h, p => by
    unfold RD at h
    obtain ⟨a, vs, rfl, s, r⟩ := h
    obtain ⟨q1, q2⟩ := RL.dp l vs r p
    exact ⟨.lst s.sq q1, q2⟩
  | .dct _, _, _, p => by simp [D.pln] at p
  | .set _, _, _, p => by simp [D.pln] at p
  | .dtn _, _, _, p => by simp [D.pln] at p
theorem RL.dp : ∀ (l : List D) (vs : List V), RL K U H l vs → D.plnL l = true → DpAll K H vs (D.toPL l) ∧ PyData.canLayAll0 (D.toPL l) = true
  | [], vs, h, _ => by unfold RL at h; subst h; exact ⟨.nil, rfl⟩
  | d :: l, vs, h, p => by
    unfold RL at h
    obtain ⟨v, vr, rfl, r, q⟩ := h
    have p' : d.pln = true ∧ D.plnL l = true := by simpa [D.plnL] using p
    obtain ⟨a1, a2⟩ := RD.dp d v r p'.1
    obtain ⟨b1, b2⟩ := RL.dp l vr q p'.2
    refine ⟨.cons a1 b1, ?_⟩
    show (PyData.canLay0 d.toP && PyData.canLayAll0 (D.toPL l)) = true
    rw [a2, b2]; rfl
end
theorem RC.dp {d : D} {v : V} (h : RC K U H d v) (p : d.cmpable = true) : Dp K H v d.toP ∧ PySem.SeqAt.shaped d.toP = true := by
  have p' := Bool.and_eq_true_iff.mp p
  have fin : PyData.canLay0 d.toP = true → PySem.SeqAt.shaped d.toP = true := fun z => by
    show (PyData.canLay0 d.toP && decide (PyData.depth d.toP ≤ 64)) = true
    rw [z, dep_toP d p'.1]; exact p'.2
  rcases h with h | ⟨q, rfl, h⟩
  · obtain ⟨a, b⟩ := RD.dp d v h p'.1
    exact ⟨a, fin b⟩
  · unfold RO at h
    cases d with
    | lst l =>
      obtain ⟨_, vs, s, r⟩ := h
      obtain ⟨a, b⟩ := RL.dp l vs r p'.1
      exact ⟨.lst (.inl (.inl s)) a, fin b⟩
    | dct l => exact absurd p'.1 (by simp [D.pln])
    | dtn l => exact absurd p'.1 (by simp [D.pln])
    | _ => exact h.2.elim
end
theorem toPL_any (x : D) (hx : x.pln = true) : ∀ l : List D, D.plnL l = true → ((D.toPL l).any fun z => PyData.eqv z x.toP) = memD x l
  | [], _ => rfl
  | d :: l, h => by
    have h' : d.pln = true ∧ D.plnL l = true := by simpa [D.plnL] using h
    show (PyData.eqv d.toP x.toP || (D.toPL l).any fun z => PyData.eqv z x.toP) = (D.pe d x || memD x l)
    rw [pe_eqv d x h'.1 hx, toPL_any x hx l h'.2]

section
variable {K : PySem.W.Frag} {U : Addr → Prop} {H : Hp}
theorem RC.keyV {d : D} {x : V} (h : RC K U H d x) (k : d.key = true) : ∃ q, keyD d = some q ∧ x = L2.kV q := by
  cases d with
  | int i => cases h.int; exact ⟨_, rfl, rfl⟩
  | str s => obtain ⟨rfl, _⟩ := h.str; exact ⟨_, rfl, rfl⟩
  | _ => cases k
theorem key_eq {a b : D} {p q : L2.Key} (ha : keyD a = some p) (hb : keyD b = some q) : (D.eq a b = true) ↔ p = q := by
  cases a <;> first | (cases ha; done) | skip
  · cases ha
    cases b <;> first | (cases hb; done) | skip
    · cases hb; simp [D.eq]
    · cases hb; simp [D.eq]
  · cases ha
    cases b <;> first | (cases hb; done) | skip
    · cases hb; simp [D.eq]
    · cases hb; simp [D.eq, sx]
theorem RK.get {x : D} {q : L2.Key} (hq : keyD x = some q) : ∀ {l : List (D × D)} {kvs : List (L2.Key × V)}, RK K U H l kvs →
    match dget l x with
    | none => L2.valV kvs q = none
    | some d => ∃ v, L2.valV kvs q = some v ∧ RD K U H d v
  | [], kvs, h => by unfold RK at h; subst h; rfl
  | (a, d) :: l, kvs, h => by
    unfold RK at h
    obtain ⟨p, v, vr, rfl, hp, _, r, w⟩ := h
    have ih := RK.get hq w
    unfold dget
    by_cases e : p = q
    · rw [if_pos ((key_eq hp hq).mpr e)]
      exact ⟨v, by simp [L2.valV, e], r⟩
    · rw [if_neg (fun z => e ((key_eq hp hq).mp z))]
      have e2 : L2.valV ((p, v) :: vr) q = L2.valV vr q := by simp [L2.valV, e]
      rw [e2]
      exact ih
theorem keyTL_eq : ∀ {l m : List D} {p q : List L2.Key}, keyTL l = some p → keyTL m = some q → ((D.eqL l m = true) ↔ p = q)
  | [], [], p, q, h1, h2 => by cases h1; cases h2; simp [D.eqL]
  | [], b :: m, p, q, h1, h2 => by
    cases h1
    unfold keyTL at h2
    split at h2
    · obtain ⟨r, _, rfl⟩ := Option.map_eq_some_iff.mp h2; simp [D.eqL]
    · cases h2
  | a :: l, [], p, q, h1, h2 => by
    cases h2
    unfold keyTL at h1
    split at h1
    · obtain ⟨r, _, rfl⟩ := Option.map_eq_some_iff.mp h1; simp [D.eqL]
    · cases h1
  | a :: l, b :: m, p, q, h1, h2 => by
    unfold keyTL at h1 h2
    cases ea : keyD a with
    | none => rw [ea] at h1; cases h1
    | some ka =>
      cases eb : keyD b with
      | none => rw [eb] at h2; cases h2
      | some kb =>
        rw [ea] at h1
        rw [eb] at h2
        obtain ⟨r, hr, rfl⟩ := Option.map_eq_some_iff.mp h1
        obtain ⟨t, ht, rfl⟩ := Option.map_eq_some_iff.mp h2
        have i1 := key_eq ea eb
        have i2 := keyTL_eq hr ht
        show ((D.eq a b && D.eqL l m) = true) ↔ _
        rw [Bool.and_eq_true, i1, i2, List.cons.injEq]
theorem keyT_eq {a b : D} {p q : List L2.Key} (ha : keyT a = some p) (hb : keyT b = some q) : (D.eq a b = true) ↔ p = q := by
  cases a <;> first | (cases ha; done) | skip
  cases b <;> first | (cases hb; done) | skip
  exact keyTL_eq ha hb
theorem RT.get {x : D} {q : List L2.Key} (hq : keyT x = some q) : ∀ {l : List (D × D)} {kvs : List (List L2.Key × V)}, RT K U H l kvs →
    match dget l x with
    | none => L2.valV kvs q = none
    | some d => ∃ v, L2.valV kvs q = some v ∧ RD K U H d v
  | [], kvs, h => by unfold RT at h; subst h; rfl
  | (a, d) :: l, kvs, h => by
    unfold RT at h
    obtain ⟨p, v, vr, rfl, hp, r, w⟩ := h
    have ih := RT.get hq w
    unfold dget
    by_cases e : p = q
    · rw [if_pos ((keyT_eq hp hq).mpr e)]
      exact ⟨v, by simp [L2.valV, e], r⟩
    · rw [if_neg (fun z => e ((keyT_eq hp hq).mp z))]
      have e2 : L2.valV ((p, v) :: vr) q = L2.valV vr q := by simp [L2.valV, e]
      rw [e2]
      exact ih
theorem RT.look {x : D} {q : List L2.Key} {l : List (D × D)} {kvs : List (List L2.Key × V)} (h : RT K U H l kvs) (hq : keyT x = some q) : (L2.valV kvs q).isSome = (dget l x).isSome := by
  have z := RT.get hq h
  cases e : dget l x with
  | none => rw [e] at z; have z : L2.valV kvs q = none := z; rw [z]; rfl
  | some d => rw [e] at z; obtain ⟨v, w, _⟩ := z; rw [w]; rfl
theorem RT.len : ∀ {l : List (D × D)} {kvs : List (List L2.Key × V)}, RT K U H l kvs → kvs.length = l.length
  | [], _, h => by unfold RT at h; subst h; rfl
  | (k, d) :: l, _, h => by
    unfold RT at h
    obtain ⟨_, _, _, rfl, _, _, w⟩ := h
    simp [RT.len w]
theorem RT.any {x : D} {q : List L2.Key} (hq : keyT x = some q) : ∀ {l : List (D × D)} {kvs : List (List L2.Key × V)}, RT K U H l kvs → (kvs.any fun kv => decide (kv.1 = q)) = l.any fun p => D.eq p.1 x
  | [], kvs, h => by unfold RT at h; subst h; rfl
  | (a, d) :: l, kvs, h => by
    unfold RT at h
    obtain ⟨p, v, vr, rfl, hp, r, w⟩ := h
    rw [List.any_cons, List.any_cons, RT.any hq w]
    congr 1
    show decide (p = q) = D.eq a x
    rw [Bool.eq_iff_iff, decide_eq_true_iff]
    exact (keyT_eq hp hq).symm
theorem flat_keys : ∀ {l : List D} {vs : List V}, RL K U H l vs → l.all D.key = true → ∃ q, keyTL l = some q ∧ vs = q.map L2.kV
  | [], vs, h, _ => by unfold RL at h; subst h; exact ⟨[], rfl, rfl⟩
  | d :: l, vs, h, k => by
    unfold RL at h
    obtain ⟨v, vr, rfl, r, w⟩ := h
    rw [List.all_cons, Bool.and_eq_true] at k
    obtain ⟨q, hq, rfl⟩ := flat_keys w k.2
    obtain ⟨p, hp, rfl⟩ := RC.keyV (.inl r) k.1
    exact ⟨p :: q, by unfold keyTL; rw [hp, hq]; rfl, rfl⟩
theorem RC.keysV {d : D} {x : V} (h : RC K U H d x) (k : d.keyT = true) : ∃ q b, keyT d = some q ∧ x = .ref b ∧ SqT K H b (q.map L2.kV) := by
  cases d <;> first | (cases k; done) | skip
  obtain ⟨a, vs, rfl, s, r⟩ := h.tup
  obtain ⟨q, hq, rfl⟩ := flat_keys r k
  exact ⟨q, a, hq, rfl, s.sq⟩
theorem RK.look {x : D} {q : L2.Key} {l : List (D × D)} {kvs : List (L2.Key × V)} (h : RK K U H l kvs) (hq : keyD x = some q) : (L2.valV kvs q).isSome = (dget l x).isSome := by
  have z := RK.get hq h
  cases e : dget l x with
  | none => rw [e] at z; have z : L2.valV kvs q = none := z; rw [z]; rfl
  | some d => rw [e] at z; obtain ⟨v, w, _⟩ := z; rw [w]; rfl
end
section
variable {X : Cx}
/-- a tuple is a key -/
theorem key_in {pins : List (Addr × Obj)} {σ : St} {H : Hp} {s : Shared} {b : Addr} {q : List L2.Key} (I : Inv X pins σ H s) (h : SqT X.K H b (q.map L2.kV)) : (PySem.tupleKind (L2.mixKind X.prog X.w)).is s.heap q b := by
  obtain ⟨its, r, ⟨o, h1, h2, n, h3⟩, _⟩ := I.tuple h
  exact ⟨o, its.toArray, n, h1, h2, h3, by simpa using L2.items_are r⟩
theorem t_in {pins : List (Addr × Obj)} {σ : St} {H : Hp} {s : Shared} {a b : Addr} {q : List L2.Key} {kvs : List (List L2.Key × V)} {E : Value → Shared → Prop} {Q : Value → Shared → Prop} (hu : X.A.units + 1 < PySem.cLine) (I : Inv X pins σ H s) (e : Rd H a (.dT kvs)) (eb : SqT X.K H b (q.map L2.kV))
    (h : ∀ s', Inv X pins σ H s' → Q (.bool (L2.valV kvs q).isSome) s') : PySem.wpAny (PySem.model X.prog X.w) X.A (PySem.compareOp .In (.ref b) (.ref a)) Q E s := by
  obtain ⟨z, hd, xs, rel, dd⟩ := L2.dt_rd I.hok e
  refine PySem.wpAny_in_heap (PySem.tupleKind_room_in1 hu) (key_in I eb) hd dd ?_
  have w := (rel.val q).isSome_eq
  rw [Option.isSome_map] at w
  rw [← w]
  exact h _ (I.tok _)
theorem t_notIn {pins : List (Addr × Obj)} {σ : St} {H : Hp} {s : Shared} {a b : Addr} {q : List L2.Key} {kvs : List (List L2.Key × V)} {E : Value → Shared → Prop} {Q : Value → Shared → Prop} (hu : X.A.units + 1 < PySem.cLine) (I : Inv X pins σ H s) (e : Rd H a (.dT kvs)) (eb : SqT X.K H b (q.map L2.kV))
    (h : ∀ s', Inv X pins σ H s' → Q (.bool (!(L2.valV kvs q).isSome)) s') : PySem.wpAny (PySem.model X.prog X.w) X.A (PySem.compareOp .NotIn (.ref b) (.ref a)) Q E s := by
  obtain ⟨z, hd, xs, rel, dd⟩ := L2.dt_rd I.hok e
  refine PyProof.Rows.wpAny_notIn_heap (PySem.tupleKind_room_in1 hu) (key_in I eb) hd dd ?_
  have w := (rel.val q).isSome_eq
  rw [Option.isSome_map] at w
  rw [← w]
  exact h _ (I.tok _)
/-- a rule for a comparison, from what it makes of contents -/
def rC (K : PySem.W.Frag) (f : D → D → Option Bool) : R2 := fun x y H Q => ∃ (U : Addr → Prop) (d d' : D) (k : Bool), RC K U H d x ∧ RC K U H d' y ∧ f d d' = some k ∧ Q (.bl k) H
theorem op_inT (hu : X.A.units + 65 < PySem.cLine) : OpR X (PySem.compareOp .In) (fun x y H Q => ∃ d ds, Dp X.K H x d ∧ Dp X.K H y (.tuple ds) ∧ PySem.SeqAt.shaped d = true ∧ PyData.canLayAll0 ds = true ∧ Q (.bl (ds.any fun z => PyData.eqv z d)) H) := by
  intro pins s σ H x y v u Q I rx ry h
  obtain ⟨d, ds, hd, he, sd, se, q⟩ := h
  obtain ⟨as, r1⟩ := Dp.reads I d x v hd rx
  obtain ⟨bs, r2⟩ := Dp.reads I (.tuple ds) y u he ry
  exact PySem.SeqAt.in_tuple_reads r2 r1 se (PySem.SeqAt.canLay_of_shaped sd) (PyProof.Rows.room_in_shaped sd hu) ⟨.bl _, H, I, rfl, q⟩
theorem op_niT (hu : X.A.units + 65 < PySem.cLine) : OpR X (PySem.compareOp .NotIn) (fun x y H Q => ∃ d ds, Dp X.K H x d ∧ Dp X.K H y (.tuple ds) ∧ PySem.SeqAt.shaped d = true ∧ PyData.canLayAll0 ds = true ∧ Q (.bl (!ds.any fun z => PyData.eqv z d)) H) := by
  intro pins s σ H x y v u Q I rx ry h
  obtain ⟨d, ds, hd, he, sd, se, q⟩ := h
  obtain ⟨as, r1⟩ := Dp.reads I d x v hd rx
  obtain ⟨bs, r2⟩ := Dp.reads I (.tuple ds) y u he ry
  exact PySem.SeqAt.notIn_tuple_reads r2 r1 se (PySem.SeqAt.canLay_of_shaped sd) (PyProof.Rows.room_in_shaped sd hu) ⟨.bl _, H, I, rfl, q⟩
theorem op_inL (hu : X.A.units + 65 < PySem.cLine) : OpR X (PySem.compareOp .In) (fun x y H Q => ∃ d ds, Dp X.K H x d ∧ Dp X.K H y (.list ds) ∧ PySem.SeqAt.shaped d = true ∧ PyData.canLayAll0 ds = true ∧ Q (.bl (ds.any fun z => PyData.eqv z d)) H) := by
  intro pins s σ H x y v u Q I rx ry h
  obtain ⟨d, ds, hd, he, sd, se, q⟩ := h
  obtain ⟨as, r1⟩ := Dp.reads I d x v hd rx
  obtain ⟨bs, r2⟩ := Dp.reads I (.list ds) y u he ry
  exact PySem.SeqAt.in_list_reads r2 r1 se (PySem.SeqAt.canLay_of_shaped sd) (PyProof.Rows.room_in_shaped sd hu) ⟨.bl _, H, I, rfl, q⟩
theorem op_niL (hu : X.A.units + 65 < PySem.cLine) : OpR X (PySem.compareOp .NotIn) (fun x y H Q => ∃ d ds, Dp X.K H x d ∧ Dp X.K H y (.list ds) ∧ PySem.SeqAt.shaped d = true ∧ PyData.canLayAll0 ds = true ∧ Q (.bl (!ds.any fun z => PyData.eqv z d)) H) := by
  intro pins s σ H x y v u Q I rx ry h
  obtain ⟨d, ds, hd, he, sd, se, q⟩ := h
  obtain ⟨as, r1⟩ := Dp.reads I d x v hd rx
  obtain ⟨bs, r2⟩ := Dp.reads I (.list ds) y u he ry
  exact PySem.SeqAt.notIn_list_reads r2 r1 se (PySem.SeqAt.canLay_of_shaped sd) (PyProof.Rows.room_in_shaped sd hu) ⟨.bl _, H, I, rfl, q⟩

theorem Dp.tupI {K : PySem.W.Frag} {U : Addr → Prop} {H : Hp} {l : List D} {v : V} (h : RC K U H (.tup l) v) (p : D.plnL l = true) : Dp K H v (.tuple (D.toPL l)) ∧ PyData.canLayAll0 (D.toPL l) = true := by
  obtain ⟨a, vs, rfl, s, r⟩ := h.tup
  obtain ⟨q1, q2⟩ := RL.dp l vs r p
  exact ⟨.tup s.sq q1, q2⟩
theorem Dp.lstI {K : PySem.W.Frag} {U : Addr → Prop} {H : Hp} {l : List D} {v : V} (h : RC K U H (.lst l) v) (p : D.plnL l = true) : Dp K H v (.list (D.toPL l)) ∧ PyData.canLayAll0 (D.toPL l) = true := by
  obtain ⟨a, vs, rfl, s, r⟩ := h.lst
  obtain ⟨q1, q2⟩ := RL.dp l vs r p
  exact ⟨.lst s q1, q2⟩
theorem sx_list (s : Tx) : (sx s).cps.toList = s := by simp [sx]

theorem op_cmpD (o : CmpOp) (hu : X.A.units + 200 < PySem.cLine) : OpR X (PySem.compareOp o) (rC X.K (cmpD o)) := by
  intro pins s σ H x y v u Q I rx ry h
  obtain ⟨U, d, d', k, c, c', e, q⟩ := h
  have hin : ∀ {k : Bool}, inD d d' = some k → (∀ (_ : PySem.compareOp .In = PySem.compareOp .In), Q (.bl k) H → PySem.wpAny (PySem.model X.prog X.w) X.A (PySem.compareOp .In v u) (L2.EP X pins σ Q) X.xe s) ∧ (Q (.bl (!k)) H → PySem.wpAny (PySem.model X.prog X.w) X.A (PySem.compareOp .NotIn v u) (L2.EP X pins σ Q) X.xe s) := by
    intro k e
    unfold inD at e
    split at e
    · obtain ⟨e1, rfl⟩ := guardO_some e
      have e2 := Bool.and_eq_true_iff.mp e1
      obtain ⟨p1, p2⟩ := c.dp e2.1
      obtain ⟨p3, p4⟩ := Dp.tupI c' e2.2
      have e3 := toPL_any d (Bool.and_eq_true_iff.mp e2.1).1 _ e2.2
      exact ⟨fun _ q => op_inT (by omega) pins s σ H _ _ v u Q I rx ry ⟨_, _, p1, p3, p2, p4, by rw [e3]; exact q⟩, fun q => op_niT (by omega) pins s σ H _ _ v u Q I rx ry ⟨_, _, p1, p3, p2, p4, by rw [e3]; exact q⟩⟩
    · obtain ⟨e1, rfl⟩ := guardO_some e
      have e2 := Bool.and_eq_true_iff.mp e1
      obtain ⟨p1, p2⟩ := c.dp e2.1
      obtain ⟨p3, p4⟩ := Dp.lstI c' e2.2
      have e3 := toPL_any d (Bool.and_eq_true_iff.mp e2.1).1 _ e2.2
      exact ⟨fun _ q => op_inL (by omega) pins s σ H _ _ v u Q I rx ry ⟨_, _, p1, p3, p2, p4, by rw [e3]; exact q⟩, fun q => op_niL (by omega) pins s σ H _ _ v u Q I rx ry ⟨_, _, p1, p3, p2, p4, by rw [e3]; exact q⟩⟩
    · split at e
      · cases e
        obtain ⟨rfl, _⟩ := c.str
        obtain ⟨rfl, _⟩ := c'.str
        refine ⟨fun _ q => L2.op_in_sign pins s σ H _ _ v u Q I rx ry ⟨_, _, rfl, rfl, ?_⟩, fun q => L2.op_notIn_sign pins s σ H _ _ v u Q I rx ry ⟨_, _, rfl, rfl, ?_⟩⟩
        · rw [sx_list]; simpa using q
        · rw [sx_list]; simpa using q
      · cases e
    · obtain ⟨e1, rfl⟩ := guardO_some e
      obtain ⟨a, kvs, rfl, rd, rk⟩ := c'.dct
      obtain ⟨q, hq, hv⟩ := c.keyV e1
      have hz := rk.look hq
      have g : L2.DGet H a x (L2.valV kvs q) := .inl ⟨kvs, q, rd, hv, rfl⟩
      have hs : (L2.valV kvs q).isSome = (dget _ d).isSome := hz
      refine ⟨fun _ w => ?_, fun w => ?_⟩
      · cases ry
        exact L2.d_in (by omega) I g rx fun s' I' => ⟨.bl _, H, I', rfl, by rw [hs]; exact w⟩
      · cases ry
        exact L2.d_notIn (by omega) I g rx fun s' I' => ⟨.bl _, H, I', rfl, by rw [hs]; exact w⟩
    · obtain ⟨e1, rfl⟩ := guardO_some e
      obtain ⟨a, kvs, rfl, rd, rk⟩ := c'.dtn
      obtain ⟨q, b, hq, rfl, hv⟩ := c.keysV e1
      have hs : (L2.valV kvs q).isSome = (dget _ d).isSome := rk.look hq
      cases rx
      cases ry
      refine ⟨fun _ w => ?_, fun w => ?_⟩
      · exact t_in (by omega) I (.inl rd) hv fun s' I' => ⟨.bl _, H, I', rfl, by rw [hs]; exact w⟩
      · exact t_notIn (by omega) I (.inl rd) hv fun s' I' => ⟨.bl _, H, I', rfl, by rw [hs]; exact w⟩
    · cases e
  unfold cmpD at e
  split at e
  · obtain ⟨e1, rfl⟩ := guardO_some e
    have e2 := Bool.and_eq_true_iff.mp e1
    obtain ⟨p1, p2⟩ := c.dp e2.1
    obtain ⟨p3, p4⟩ := c'.dp e2.2
    exact L2.op_eqD (by omega) pins s σ H _ _ v u Q I rx ry ⟨_, _, p1, p3, p2, p4, by rw [pe_eqv _ _ (Bool.and_eq_true_iff.mp e2.1).1 (Bool.and_eq_true_iff.mp e2.2).1]; exact q⟩
  · obtain ⟨e1, rfl⟩ := guardO_some e
    have e2 := Bool.and_eq_true_iff.mp e1
    obtain ⟨p1, p2⟩ := c.dp e2.1
    obtain ⟨p3, p4⟩ := c'.dp e2.2
    exact L2.op_neD (by omega) pins s σ H _ _ v u Q I rx ry ⟨_, _, p1, p3, p2, p4, by rw [pe_eqv _ _ (Bool.and_eq_true_iff.mp e2.1).1 (Bool.and_eq_true_iff.mp e2.2).1]; exact q⟩
  · unfold ltD at e
    split at e
    · cases e; cases c.int; cases c'.int
      exact L2.op_lt pins s σ H _ _ v u Q I rx ry ⟨_, _, rfl, rfl, q⟩
    · cases e
      obtain ⟨rfl, _⟩ := c.str
      obtain ⟨rfl, _⟩ := c'.str
      exact L2.op_lt_str pins s σ H _ _ v u Q I rx ry ⟨_, _, rfl, rfl, by rw [sx_list, sx_list]; exact q⟩
    · cases e
  · unfold leD at e
    split at e
    · cases e; cases c.int; cases c'.int
      exact L2.op_le pins s σ H _ _ v u Q I rx ry ⟨_, _, rfl, rfl, q⟩
    · cases e
      obtain ⟨rfl, _⟩ := c.str
      obtain ⟨rfl, _⟩ := c'.str
      exact L2.op_le_str pins s σ H _ _ v u Q I rx ry ⟨_, _, rfl, rfl, by rw [sx_list, sx_list]; exact q⟩
    · cases e
  · unfold ltD at e
    split at e
    · cases e; cases c.int; cases c'.int
      exact L2.op_gt pins s σ H _ _ v u Q I rx ry ⟨_, _, rfl, rfl, q⟩
    · cases e
      obtain ⟨rfl, _⟩ := c.str
      obtain ⟨rfl, _⟩ := c'.str
      exact L2.op_gt_str pins s σ H _ _ v u Q I rx ry ⟨_, _, rfl, rfl, by rw [sx_list, sx_list]; exact q⟩
    · cases e
  · unfold leD at e
    split at e
    · cases e; cases c.int; cases c'.int
      exact L2.op_ge pins s σ H _ _ v u Q I rx ry ⟨_, _, rfl, rfl, q⟩
    · cases e
      obtain ⟨rfl, _⟩ := c.str
      obtain ⟨rfl, _⟩ := c'.str
      exact L2.op_ge_str pins s σ H _ _ v u Q I rx ry ⟨_, _, rfl, rfl, by rw [sx_list, sx_list]; exact q⟩
    · cases e
  · exact (hin e).1 rfl q
  · cases e2 : inD d d' with
    | none => rw [e2] at e; cases e
    | some b =>
      rw [e2] at e
      cases e
      exact (hin e2).2 q
  · cases c'.non
    cases e
    refine L2.op_isN pins s σ H _ _ v u Q I rx ry ⟨rfl, ?_⟩
    have z : decide (x = V.non) = D.isNon d := by
      cases d with
      | non => cases c.non; rfl
      | bl _ => cases c.bl; rfl
      | int _ => cases c.int; rfl
      | str _ => obtain ⟨rfl, _⟩ := c.str; rfl
      | tup _ => obtain ⟨a, vs, rfl, _⟩ := c.tup; rfl
      | lst _ => obtain ⟨a, vs, rfl, _⟩ := c.lst; rfl
      | dct _ => obtain ⟨a, vs, rfl, _⟩ := c.dct; rfl
      | set _ => exact c.set.elim
      | dtn _ => obtain ⟨a, vs, rfl, _⟩ := c.dtn; rfl
    rw [z]; exact q
  · cases c'.non
    cases e
    refine L2.op_notN pins s σ H _ _ v u Q I rx ry ⟨rfl, ?_⟩
    have z : (!decide (x = V.non)) = !D.isNon d := by
      cases d with
      | non => cases c.non; rfl
      | bl _ => cases c.bl; rfl
      | int _ => cases c.int; rfl
      | str _ => obtain ⟨rfl, _⟩ := c.str; rfl
      | tup _ => obtain ⟨a, vs, rfl, _⟩ := c.tup; rfl
      | lst _ => obtain ⟨a, vs, rfl, _⟩ := c.lst; rfl
      | dct _ => obtain ⟨a, vs, rfl, _⟩ := c.dct; rfl
      | set _ => exact c.set.elim
      | dtn _ => obtain ⟨a, vs, rfl, _⟩ := c.dtn; rfl
    rw [z]; exact q
  · cases e
end
end Iv

set_option linter.all false
set_option maxRecDepth 100000
set_option autoImplicit false
set_option Elab.async false
set_option maxHeartbeats 1000000
/-! Iv, part 8: arguments, kept values. -/
namespace Iv
open PySem (Str Addr Value Obj Heap World Program Expr Stmt Scope Pos Shared Tok NameKind Operator CmpOp PyData)
open L2 (V Hp HO St upd SqL SqT Rd RelV Vals VK TE TT TA TS Cx Inv PE PT PA PS PSs upd_same upd_ne WX Takes Sp XK OpR CallR IxR R2 Dp DpAll)
variable {EP : ExPin}

section
variable (K : PySem.W.Frag) (U : Addr → Prop) (H : Hp)
def RAs (σ : St) (H0 : Hp) : List A → List V → Prop
  | [], vs => vs = []
  | a :: l, vs => ∃ v vr, vs = v :: vr ∧ RA K U H σ H0 a v ∧ RAs σ H0 l vr ∧ ∀ d, a = .fr d → ∀ (j : Nat) (d' : D), l[j]? = some (.fr d') → vr[j]? ≠ some v
def RCs : List D → List V → Prop
  | [], vs => vs = []
  | d :: l, vs => ∃ v vr, vs = v :: vr ∧ RC K U H d v ∧ RCs l vr
end
/-- U and p -/
def addU (U : Addr → Prop) (p : Addr) : Addr → Prop := fun b => U b ∨ b = p

section
variable {K : PySem.W.Frag} {XC : String → Addr} {W : WX} {σ : St} {U U' U1 U2 : Addr → Prop} {H H' H1 H2 H0 : Hp} {ρ ρ' ρ1 ρ2 : Rho}
theorem Kp.add {p : Addr} : Kp U (addU U p) H H := ⟨fun _ h => .inl h, fun _ _ _ h => h, fun _ _ _ h => h, fun _ _ h => h, fun _ _ _ h => h⟩
theorem RO.rd {d : D} {p : Addr} (h : RO K U H d p) : RD K (addU U p) H d (.ref p) := by
  unfold RO at h
  cases d with
  | lst l =>
    obtain ⟨_, vs, e, r⟩ := h
    unfold RD
    exact ⟨p, vs, rfl, .inl ⟨.inr rfl, .inl e⟩, RL.mono Kp.add l vs r⟩
  | dct l =>
    obtain ⟨_, vs, e, r⟩ := h
    unfold RD
    exact ⟨p, vs, rfl, ⟨.inr rfl, .inl e⟩, RK.mono Kp.add l vs r⟩
  | dtn l =>
    obtain ⟨_, vs, e, r⟩ := h
    unfold RD
    exact ⟨p, vs, rfl, ⟨.inr rfl, e⟩, RT.mono Kp.add l vs r⟩
  | _ => exact h.2.elim
theorem RO.there {d : D} {p : Addr} (h : RO K U H d p) : ∃ o, H p = some o := by
  unfold RO at h
  cases d with
  | lst l => obtain ⟨_, vs, e, r⟩ := h; exact ⟨_, e⟩
  | dct l => obtain ⟨_, vs, e, r⟩ := h; exact ⟨_, e⟩
  | dtn l => obtain ⟨_, vs, e, r⟩ := h; exact ⟨_, e⟩
  | _ => exact h.2.elim
theorem RO.add {d : D} {p q : Addr} (h : RO K U H d p) (n : p ≠ q) : RO K (addU U q) H d p := by
  unfold RO at h ⊢
  refine ⟨fun z => z.elim h.1 n, ?_⟩
  have h2 := h.2
  cases d with
  | lst l => obtain ⟨vs, e, r⟩ := h2; exact ⟨vs, e, RL.mono Kp.add l vs r⟩
  | dct l => obtain ⟨vs, e, r⟩ := h2; exact ⟨vs, e, RK.mono Kp.add l vs r⟩
  | dtn l => obtain ⟨vs, e, r⟩ := h2; exact ⟨vs, e, RT.mono Kp.add l vs r⟩
  | _ => exact h2.elim
/-- an address that no slot owns is shared from now on -/
theorem R.add {p : Addr} (r : R EP K U H σ ρ) (h : ∃ o, H p = some o) (n : ¬ own σ ρ p) : R EP K (addU U p) H σ ρ where
  len := r.len
  trk := fun b z => z.elim (r.trk b) fun e => e ▸ h
  sh := fun i d e => let ⟨v, q, z⟩ := r.sh i d e; ⟨v, q, RD.mono Kp.add d v z⟩
  ow := fun i s d e hd => let ⟨q, hq, z⟩ := r.ow i s d e hd; ⟨q, hq, z.add fun e2 => n (e2 ▸ ⟨i, s, d, e, hd, hq⟩)⟩
  dis := r.dis
  ex := r.ex
/-- slot i holds something else that is shared -/
theorem R.setSh {i : Nat} {d : D} {v : V} (r : R EP K U H σ ρ) (hs : σ[i]? = some (some v)) (h : RD K U H d v) : R EP K U H σ (ρ.set i (.sh d)) where
  len := by rw [List.length_set]; exact r.len
  trk := r.trk
  sh := fun j d' e => by
    by_cases hj : i = j
    · subst hj
      have hi : i < ρ.length := by rw [r.len]; exact (List.getElem?_eq_some_iff.mp hs).1
      rw [List.getElem?_set_self hi] at e
      cases e
      exact ⟨v, hs, h⟩
    · rw [List.getElem?_set_ne hj] at e
      exact r.sh j d' e
  ow := fun j s d' e hd => by
    by_cases hj : i = j
    · subst hj
      have hi : i < ρ.length := by rw [r.len]; exact (List.getElem?_eq_some_iff.mp hs).1
      rw [List.getElem?_set_self hi] at e
      cases e
      rcases hd with z | z <;> cases z
    · rw [List.getElem?_set_ne hj] at e
      exact r.ow j s d' e hd
  dis := fun a b s s' d1 d2 p ea ha eb hb qa qb => by
    have ne : ∀ {c : Nat} {s : Sl} {d0 : D}, (ρ.set i (.sh d))[c]? = some s → held s d0 → ρ[c]? = some s := fun {c s d0} e hd => by
      by_cases hj : i = c
      · subst hj
        have hi : i < ρ.length := by rw [r.len]; exact (List.getElem?_eq_some_iff.mp hs).1
        rw [List.getElem?_set_self hi] at e
        cases e
        rcases hd with z | z <;> cases z
      · rw [List.getElem?_set_ne hj] at e; exact e
    exact r.dis a b s s' d1 d2 p (ne ea ha) ha (ne eb hb) hb qa qb
  ex := fun j c fs e => r.ex j c fs (ex_set (fun _ _ z => by cases z) e).2

theorem own_setSh {i : Nat} {d : D} {b : Addr} (h : own σ (ρ.set i (.sh d)) b) : own σ ρ b := by
  obtain ⟨j, s, d', e, hd, q⟩ := h
  by_cases hj : i = j
  · subst hj
    rw [List.getElem?_set] at e
    rw [if_pos rfl] at e
    split at e
    · cases e; rcases hd with z | z <;> cases z
    · cases e
  · rw [List.getElem?_set_ne hj] at e
    exact ⟨j, s, d', e, hd, q⟩
theorem own_sub {i : Nat} {d : D} {b : Addr} (h : own σ (ρ.set i .no) b) : own σ (ρ.set i (.sh d)) b := by
  obtain ⟨j, s, d', e, hd, q⟩ := h
  by_cases hj : i = j
  · subst hj
    rw [List.getElem?_set, if_pos rfl] at e
    split at e
    · cases e; rcases hd with z | z <;> cases z
    · cases e
  · rw [List.getElem?_set_ne hj] at e
    exact ⟨j, s, d', by rw [List.getElem?_set_ne hj]; exact e, hd, q⟩
theorem set_no {i c : Nat} {s : Sl} (h : (ρ.set i .no)[c]? = some s) (n : s ≠ .no) : i ≠ c ∧ ρ[c]? = some s := by
  by_cases hj : i = c
  · subst hj
    rw [List.getElem?_set, if_pos rfl] at h
    split at h
    · cases h; exact absurd rfl n
    · cases h
  · rw [List.getElem?_set_ne hj] at h; exact ⟨hj, h⟩
theorem held_no {s : Sl} {d : D} (h : held s d) : s ≠ .no := fun e => by subst e; rcases h with z | z <;> cases z
/-- slot i forgotten -/
theorem R.clear (r : R EP K U H σ ρ) (i : Nat) : R EP K U H σ (ρ.set i .no) where
  len := by rw [List.length_set]; exact r.len
  trk := r.trk
  sh := fun j d e => r.sh j d (set_no e (by intro z; cases z)).2
  ow := fun j s d e hd => r.ow j s d (set_no e (held_no hd)).2 hd
  dis := fun a b s s' d1 d2 p ea ha eb hb qa qb => r.dis a b s s' d1 d2 p (set_no ea (held_no ha)).2 ha (set_no eb (held_no hb)).2 hb qa qb
  ex := fun j c fs e => r.ex j c fs (ex_set (fun _ _ z => by cases z) e).2
/-- freezing: from a base -/
theorem Adv.freeze {p : Addr} (a : Adv EP K σ U H ρ U1 H1 ρ1) (h : ∃ o, H1 p = some o) (n : own σ ρ p ∨ H p = none) (r2 : R EP K (addU U1 p) H1 σ ρ2) (so : ∀ i, owAt ρ2 i = true → owAt ρ1 i = true) (fx : ∀ (i : Nat) (s : Sl), ρ1[i]? = some s → fixS s = true → ρ2[i]? = some s) : Adv EP K σ U H ρ (addU U1 p) H1 ρ2 where
  st := ⟨a.st.keep, a.st.trk, fun b z => .inl (a.st.up b z), fun b z => z.elim (a.st.new b) fun e => by
    subst e
    exact n.elim (fun w => .inr (.inr w)) fun w => .inr (.inl w)⟩
  r := r2
  so := fun i z => a.so i (so i z)
  fx := fun i s e h => fx i s (a.fx i s e h) h
theorem stv_ok {a : A} {v : V} {d : D} (r0 : R EP K U H σ ρ) (a1 : Adv EP K σ U H ρ U1 H1 ρ1) (h : RA K U1 H1 σ H a v) (e : stv a ρ1 = .ok d ρ2) :
    ∃ U2, Adv EP K σ U H ρ U2 H1 ρ2 ∧ RD K U2 H1 d v ∧ Kp U1 U2 H1 H1 ∧ (∀ i, owAt ρ2 i = true → owAt ρ1 i = true) := by
  cases a with
  | val d' => cases e; exact ⟨U1, a1, h, Kp.refl, fun _ z => z⟩
  | fr d' =>
    cases e
    obtain ⟨p, rfl, o, n⟩ := h
    have np : ¬ own σ ρ1 p := fun z => by obtain ⟨o', q⟩ := r0.ownS (a1.sub p z); rw [n] at q; cases q
    exact ⟨addU U1 p, a1.freeze o.there (.inr n) (a1.r.add o.there np) (fun _ z => z) (fun _ _ z _ => z), o.rd, Kp.add, fun _ z => z⟩
  | rf i =>
    have h' : σ[i]? = some (some v) := h
    cases q : ρ1[i]? with
    | none => simp [stv, bnd, slot, q] at e
    | some s =>
      simp only [stv, bnd, slot, q] at e
      cases s with
      | no => cases e
      | ex _ _ => cases e
      | lk _ => cases e
      | sh d' =>
        cases e
        obtain ⟨w, hw, rr⟩ := a1.r.sh i _ q
        rw [h'] at hw; cases hw
        exact ⟨U1, a1, rr, Kp.refl, fun _ z => z⟩
      | ow d' =>
        simp only [putSl, ret] at e
        cases e
        obtain ⟨p, hp, o⟩ := a1.r.ow i _ _ q (.inl rfl)
        rw [h'] at hp; cases hp
        have np : ¬ own σ (ρ1.set i (.sh d)) p := fun z => by
          obtain ⟨j, s', d2, e2, hd, q2⟩ := z
          by_cases hj : i = j
          · subst hj
            rw [List.getElem?_set, if_pos rfl] at e2
            split at e2
            · cases e2; rcases hd with z | z <;> cases z
            · cases e2
          · rw [List.getElem?_set_ne hj] at e2
            exact hj (a1.r.dis i j _ s' d d2 p q (.inl rfl) e2 hd h' q2)
        have np0 : ¬ own σ (ρ1.set i .no) p := fun z => np (own_sub z)
        have r2 : R EP K (addU U1 p) H1 σ (ρ1.set i (.sh d)) := by
          have z := (R.add (R.clear a1.r i) o.there np0).setSh (i := i) (d := d) h' o.rd
          rwa [List.set_set] at z
        exact ⟨addU U1 p, a1.freeze o.there (.inl (a1.sub p ⟨i, _, _, q, .inl rfl, h'⟩)) r2 (fun j z => (owAt_set sh_nh z).2) (fun j s' e2 hf => by
          by_cases hj : i = j
          · subst hj; rw [q] at e2; cases e2; cases hf
          · rw [List.getElem?_set_ne hj]; exact e2), o.rd, Kp.add, fun j z => (owAt_set sh_nh z).2⟩

theorem OutOk.bstv {β : Type} {a : A} {v : V} {f : D → M β} {k : β → (Addr → Prop) → Hp → Rho → Prop} (r0 : R EP K U H σ ρ) (a1 : Adv EP K σ U H ρ U1 H1 ρ1) (h : RA K U1 H1 σ H a v) (o : OutOk EP K XC W σ U H ρ (Iv.bnd (stv a) f ρ1) k) :
    ∃ d U2 ρ2, Adv EP K σ U H ρ U2 H1 ρ2 ∧ RD K U2 H1 d v ∧ Kp U1 U2 H1 H1 ∧ (∀ i, owAt ρ2 i = true → owAt ρ1 i = true) ∧ OutOk EP K XC W σ U H ρ (f d ρ2) k := by
  unfold Iv.bnd at o
  cases e : stv a ρ1 with
  | stuck => rw [e] at o; exact o.elim
  | exc c fs ρ' =>
    exfalso
    cases a with
    | val d => cases e
    | fr d => cases e
    | rf i =>
      unfold stv at e
      simp only [Iv.bnd, slot, putSl] at e
      cases q : ρ1[i]? with
      | none => rw [q] at e; cases e
      | some s => rw [q] at e; cases s <;> cases e
  | ok d ρ2 =>
    rw [e] at o
    obtain ⟨U2, x1, x2, x3, x4⟩ := stv_ok r0 a1 h e
    exact ⟨d, U2, ρ2, x1, x2, x3, x4, o⟩
theorem OutOk.brdL {β : Type} {k : β → (Addr → Prop) → Hp → Rho → Prop} (r : R EP K U1 H1 σ ρ1) : ∀ {as : List A} {vs : List V} {f : List D → M β}, RAs K U1 H1 σ H0 as vs → OutOk EP K XC W σ U H ρ (Iv.bnd (rdL as) f ρ1) k →
    ∃ ds, RCs K U1 H1 ds vs ∧ OutOk EP K XC W σ U H ρ (f ds ρ1) k
  | [], vs, f, h, o => ⟨[], h, o⟩
  | a :: l, vs, f, h, o => by
    obtain ⟨v, vr, rfl, ra, rs, _⟩ := h
    have o2 : OutOk EP K XC W σ U H ρ (Iv.bnd (rd a) (fun d => Iv.bnd (rdL l) fun ds => f (d :: ds)) ρ1) k := by
      have e : Iv.bnd (rdL (a :: l)) f ρ1 = Iv.bnd (rd a) (fun d => Iv.bnd (rdL l) fun ds => f (d :: ds)) ρ1 := by
        show Iv.bnd (Iv.bnd (rd a) fun d => Iv.bnd (rdL l) fun ds => ret (d :: ds)) f ρ1 = _
        simp only [Iv.bnd, ret]
        cases rd a ρ1 with
        | ok d ρ2 => simp only []; cases rdL l ρ2 <;> rfl
        | exc _ _ _ => rfl
        | stuck => rfl
      rw [← e]; exact o
    obtain ⟨d, c, o3⟩ := OutOk.brd r ra o2
    obtain ⟨ds, cs, o4⟩ := OutOk.brdL r rs o3
    exact ⟨d :: ds, ⟨v, vr, rfl, c, cs⟩, o4⟩

/-! ### readings of argument lists -/
theorem RAs.back (s : Adv EP K σ U H0 ρ U1 H1 ρ1) : ∀ {as : List A} {vs : List V}, RAs K U' H' σ H1 as vs → RAs K U' H' σ H0 as vs
  | [], _, h => h
  | a :: l, _, h => by
    obtain ⟨v, vr, rfl, ra, rs, z⟩ := h
    exact ⟨v, vr, rfl, RA.back s ra, RAs.back s rs, z⟩
/-- new ones are not where something stood -/
theorem RAs.fresh : ∀ {as : List A} {vs : List V}, RAs K U1 H1 σ H0 as vs → ∀ (j : Nat) (d : D), as[j]? = some (.fr d) → ∃ p, vs[j]? = some (.ref p) ∧ H0 p = none
  | [], _, _, _, _, e => by simp at e
  | a :: l, _, h, 0, d, e => by
    obtain ⟨v, vr, rfl, ra, rs, z⟩ := h
    simp at e; subst e
    obtain ⟨p, rfl, _, n⟩ := ra
    exact ⟨p, rfl, n⟩
  | a :: l, _, h, j + 1, d, e => by
    obtain ⟨v, vr, rfl, ra, rs, z⟩ := h
    simpa using RAs.fresh rs j d (by simpa using e)
theorem RAs.cons {a : A} {v : V} {l : List A} {vs : List V} (r : R EP K U H σ ρ) (a1 : Adv EP K σ U H ρ U1 H1 ρ1) (a2 : Adv EP K σ U1 H1 ρ1 U2 H2 ρ2) (h : RA K U1 H1 σ H a v) (q : RAs K U2 H2 σ H1 l vs) : RAs K U2 H2 σ H (a :: l) (v :: vs) := by
  refine ⟨v, vs, rfl, RA.mono a1.r a2 (fun b z => r.ownS (a1.sub b z)) h, RAs.back a1 q, fun d e j d' ej => ?_⟩
  subst e
  obtain ⟨p, rfl, o, n⟩ := h
  obtain ⟨p', e', n'⟩ := RAs.fresh q j d' ej
  rw [e']
  intro z
  cases z
  obtain ⟨o', w⟩ := o.there
  rw [n'] at w; cases w
section
variable (EP) (K) (XC) (W)
def tA (m : M (List A)) : TA := fun σ H Q => ∃ (ρ : Rho) (U : Addr → Prop), R EP K U H σ ρ ∧ OutOk EP K XC W σ U H ρ (m ρ) fun as U' H' _ => ∀ vs, RAs K U' H' σ H as vs → Q vs H'
end
theorem tA_nil {Q : List V → Hp → Prop} (h : tA EP K XC W (ret []) σ H Q) : Q [] H := by
  obtain ⟨ρ, U, r, o⟩ := h
  exact o U H (Adv.refl r) [] rfl
theorem tA_cons {m : M A} {ml : M (List A)} {Q : List V → Hp → Prop} (h : tA EP K XC W (bnd m fun x => bnd ml fun xs => ret (x :: xs)) σ H Q) :
    tM EP K XC W m σ H fun v H1 => tA EP K XC W ml σ H1 fun vs H2 => Q (v :: vs) H2 := by
  obtain ⟨ρ, U, r, o⟩ := h
  refine ⟨ρ, U, r, (OutOk.seq o (Adv.refl r)).mono fun x U1 H1 ρ1 _ z v rv => ?_⟩
  obtain ⟨a1, o1⟩ := z
  refine ⟨ρ1, U1, a1.r, (OutOk.seq o1 a1).mono fun xs U2 H2 ρ2 _ z vs rvs => ?_⟩
  obtain ⟨a2, o2⟩ := z
  exact o2 U2 H2 (a1.trans a2) (v :: vs) (RAs.cons r a1 a2 rv rvs)
theorem tS_nil {Q : List V → Hp → Prop} (h : tS EP K XC W (ret []) σ H Q) : Q [] H := by
  obtain ⟨ρ, U, r, o⟩ := h
  exact o U H (Adv.refl r) [] RL.nil
theorem tS_cons {m : M A} {ml : M (List D)} {Q : List V → Hp → Prop} (h : tS EP K XC W (bnd m fun x => bnd (stv x) fun d => bnd ml fun ds => ret (d :: ds)) σ H Q) :
    tM EP K XC W m σ H fun v H1 => tS EP K XC W ml σ H1 fun vs H2 => Q (v :: vs) H2 := by
  obtain ⟨ρ, U, r, o⟩ := h
  refine ⟨ρ, U, r, (OutOk.seq o (Adv.refl r)).mono fun x U1 H1 ρ1 _ z v rv => ?_⟩
  obtain ⟨a1, o1⟩ := z
  obtain ⟨d, U3, ρ3, a3, rd3, _, _, o3⟩ := OutOk.bstv r a1 rv o1
  refine ⟨ρ3, U3, a3.r, (OutOk.seq o3 a3).mono fun xs U2 H2 ρ2 _ z vs rvs => ?_⟩
  obtain ⟨a2, o2⟩ := z
  exact o2 U2 H2 (a3.trans a2) (v :: vs) (RL.cons (RD.mono (a2.kp a3.r) d v rd3) rvs)
end
end Iv

set_option linter.all false
set_option maxRecDepth 100000
set_option autoImplicit false
set_option Elab.async false
set_option maxHeartbeats 1000000
/-! Iv, part 9: built-in functions, items, slices, methods. -/
namespace Iv
open PySem (Str Addr Value Obj Heap World Program Expr Stmt Scope Pos Shared Tok NameKind Operator CmpOp PyData)
open L2 (V Hp HO St upd SqL SqT Rd RelV Vals VK TE TT TA TS Cx Inv PE PT PA PS PSs upd_same upd_ne WX Takes Sp XK OpR CallR IxR R2 Dp DpAll)
variable {EP : ExPin}

section
variable {K : PySem.W.Frag} {U : Addr → Prop} {H : Hp}
theorem RCs.nil {vs : List V} (h : RCs K U H [] vs) : vs = [] := h
theorem RCs.one {d : D} {vs : List V} (h : RCs K U H [d] vs) : ∃ v, vs = [v] ∧ RC K U H d v := by
  obtain ⟨v, vr, rfl, c, e⟩ := h
  cases (show vr = [] from e)
  exact ⟨v, rfl, c⟩
theorem RCs.two {d d' : D} {vs : List V} (h : RCs K U H [d, d'] vs) : ∃ v v', vs = [v, v'] ∧ RC K U H d v ∧ RC K U H d' v' := by
  obtain ⟨v, vr, rfl, c, e⟩ := h
  obtain ⟨v', rfl, c'⟩ := RCs.one e
  exact ⟨v, v', rfl, c, c'⟩
theorem RL.bls : ∀ {l : List D} {bs : List Bool} {vs : List V}, allBl l = some bs → RL K U H l vs → vs = bs.map V.bl
  | [], bs, vs, e, h => by cases e; unfold RL at h; exact h
  | .bl b :: l, bs, vs, e, h => by
    unfold RL at h
    obtain ⟨v, vr, rfl, r, q⟩ := h
    unfold RD at r
    subst r
    cases e2 : allBl l with
    | none => rw [allBl, e2] at e; cases e
    | some c =>
      rw [allBl, e2] at e
      cases e
      rw [RL.bls e2 q]; rfl
  | .non :: l, _, _, e, _ => by cases e
  | .int _ :: l, _, _, e, _ => by cases e
  | .str _ :: l, _, _, e, _ => by cases e
  | .tup _ :: l, _, _, e, _ => by cases e
  | .lst _ :: l, _, _, e, _ => by cases e
  | .dct _ :: l, _, _, e, _ => by cases e
  | .set _ :: l, _, _, e, _ => by cases e
  | .dtn _ :: l, _, _, e, _ => by cases e
theorem RL.ints : ∀ {l : List D} {bs : List Int} {vs : List V}, allInt l = some bs → RL K U H l vs → vs = bs.map V.int
  | [], bs, vs, e, h => by cases e; unfold RL at h; exact h
  | .int b :: l, bs, vs, e, h => by
    unfold RL at h
    obtain ⟨v, vr, rfl, r, q⟩ := h
    unfold RD at r
    subst r
    cases e2 : allInt l with
    | none => rw [allInt, e2] at e; cases e
    | some c =>
      rw [allInt, e2] at e
      cases e
      rw [RL.ints e2 q]; rfl
  | .non :: l, _, _, e, _ => by cases e
  | .bl _ :: l, _, _, e, _ => by cases e
  | .str _ :: l, _, _, e, _ => by cases e
  | .tup _ :: l, _, _, e, _ => by cases e
  | .lst _ :: l, _, _, e, _ => by cases e
  | .dct _ :: l, _, _, e, _ => by cases e
  | .set _ :: l, _, _, e, _ => by cases e
  | .dtn _ :: l, _, _, e, _ => by cases e
end
theorem toString_sx (i : Int) : (Str.ofString (toString i)) = sx (strInt i) := by
  show _ = (⟨(tx (toString i)).toArray⟩ : Str)
  rw [PySem.Str.ofString_eq_toList]
  rfl
theorem okTx_tx (s : String) : okTx (tx s) := fun c h => by
  obtain ⟨x, _, rfl⟩ := List.mem_map.mp h
  have := x.valid
  show x.val.toNat < 1114112
  simp only [UInt32.isValidChar, Nat.isValidChar] at this
  omega

section
variable {X : Cx}
def rB (K : PySem.W.Frag) (f : String) : List V → Hp → VK → Prop := fun xs H Q => ∃ (U : Addr → Prop) (ds : List D) (a : A), (∀ b, U b → ∃ o, H b = some o) ∧ RCs K U H ds xs ∧ biD f ds = some a ∧ Dlv K U H a Q
theorem RK.len {K : PySem.W.Frag} {U : Addr → Prop} {H : Hp} : ∀ {l : List (D × D)} {kvs : List (L2.Key × V)}, RK K U H l kvs → kvs.length = l.length
  | [], kvs, h => by unfold RK at h; subst h; rfl
  | (k, d) :: l, kvs, h => by
    unfold RK at h
    obtain ⟨q, v, vr, rfl, _, _, _, w⟩ := h
    simp [RK.len w]
/-- len of a dict, locked or not -/
theorem call_lenD : CallR X (.builtin "len") (fun xs H Q => ∃ (a : Addr) (kvs : List (L2.Key × V)), xs = [V.ref a] ∧ Rd H a (.dK kvs) ∧ Q (.int kvs.length) H) := by
  intro pins s σ H xs us Q I r h
  obtain ⟨a, kvs, rfl, ha, q⟩ := h
  obtain ⟨u, rfl, ru⟩ := L2.vals1 r
  cases ru
  exact L2.d_len I ha fun t s' I' => ⟨.int kvs.length, H, I', ⟨t, rfl⟩, q⟩
theorem call_biB {f : String} (hf : biFn f = true) (hc : coldBi f = true → X.calm = true) : CallR X (.builtin f) (rB X.K f) := by
  intro pins s σ H xs us Q I r h
  obtain ⟨U, ds, a, tr, cc, e, q⟩ := h
  have nu : ∀ {p : Addr}, H p = none → ¬ U p := fun hp z => by obtain ⟨o, w⟩ := tr _ z; rw [hp] at w; cases w
  unfold biD at e
  split at e
  · cases e
    obtain ⟨v, rfl, c⟩ := cc.one
    obtain ⟨b, vs, rfl, s1, r1⟩ := c.tup
    exact L2.call_len pins s σ H _ us Q I r ⟨_, _, rfl, .inr ⟨vs, s1.sq, rfl⟩, by rw [r1.len]; exact q.int⟩
  · cases e
    obtain ⟨v, rfl, c⟩ := cc.one
    obtain ⟨b, vs, rfl, s1, r1⟩ := c.lst
    exact L2.call_len pins s σ H _ us Q I r ⟨_, _, rfl, .inl ⟨vs, s1, rfl⟩, by rw [r1.len]; exact q.int⟩
  · cases e
    obtain ⟨v, rfl, c⟩ := cc.one
    obtain ⟨b, kvs, rfl, s1, r1⟩ := c.dct
    refine call_lenD pins s σ H _ us Q I r ⟨_, kvs, rfl, s1, ?_⟩
    rw [r1.len]; exact q.int
  · obtain ⟨e1, rfl⟩ := guardO_some e
    obtain ⟨v, rfl, c⟩ := cc.one
    obtain ⟨rfl, _⟩ := c.str
    refine L2.call_len pins s σ H _ us Q I r ⟨_, _, rfl, ⟨?_, rfl⟩, ?_⟩
    · rw [sx_len, ← sizeLine_is]; exact of_decide_eq_true e1
    · rw [sx_len]; exact q.int
  · cases e
    obtain ⟨v, rfl, c⟩ := cc.one
    cases c.int
    exact L2.call_abs pins s σ H _ us Q I r ⟨_, rfl, q.int⟩
  · cases e
    obtain ⟨v, v', rfl, c, c'⟩ := cc.two
    cases c.int; cases c'.int
    exact L2.call_max2 (hc rfl) pins s σ H _ us Q I r ⟨_, _, rfl, q.int⟩
  · cases e
    obtain ⟨v, v', rfl, c, c'⟩ := cc.two
    cases c.int; cases c'.int
    exact L2.call_min2 (hc rfl) pins s σ H _ us Q I r ⟨_, _, rfl, q.int⟩
  · exact absurd hf (by decide)
  · exact absurd hf (by decide)
  · exact absurd hf (by decide)
  · exact absurd hf (by decide)
  · exact absurd hf (by decide)
  · exact absurd hf (by decide)
  · exact absurd hf (by decide)
  · exact absurd hf (by decide)
  · exact absurd hf (by decide)
  · obtain ⟨bs, e1, rfl⟩ := Option.map_eq_some_iff.mp e
    obtain ⟨v, rfl, c⟩ := cc.one
    obtain ⟨b, vs, rfl, s1, r1⟩ := c.lst
    cases r1.bls e1
    exact L2.cr_any (hc rfl) pins s σ H _ us Q I r ⟨_, bs, rfl, s1, q.bl⟩
  · obtain ⟨bs, e1, rfl⟩ := Option.map_eq_some_iff.mp e
    obtain ⟨v, rfl, c⟩ := cc.one
    obtain ⟨b, vs, rfl, s1, r1⟩ := c.lst
    cases r1.bls e1
    exact L2.cr_all (hc rfl) pins s σ H _ us Q I r ⟨_, bs, rfl, s1, q.bl⟩
  · obtain ⟨bs, e1, rfl⟩ := Option.map_eq_some_iff.mp e
    obtain ⟨v, rfl, c⟩ := cc.one
    obtain ⟨b, vs, rfl, s1, r1⟩ := c.lst
    cases r1.ints e1
    exact L2.cr_sum (hc rfl) pins s σ H _ us Q I r ⟨_, bs, rfl, s1, q.int⟩
  · cases e
theorem str_bl : CallR X (.type "str") (fun xs H Q => ∃ b : Bool, xs = [.bl b] ∧ Q (.str (sx (tx (if b then "True" else "False")))) H) := by
  intro pins s σ H xs us Q I r h
  obtain ⟨b, rfl, q⟩ := h
  obtain ⟨u, rfl, r1⟩ := L2.vals1 r
  cases r1
  have e : sx (tx (if b then "True" else "False")) = (if b then ("True" : Str) else ("False" : Str)) := by cases b <;> rfl
  rw [e] at q
  exact PySem.callType_new PySem.F.called_str (by decide) (PySem.F.typeCall_str_1 _) (PySem.F.newCall_str_1 _) (fun obj => PySem.F.args_object_init_2 obj _) PySem.F.entry_str_new
    (PySem.meets_str_new (S := fun _ R s => R (.ok (.ret (.str (if b then "True" else "False") s.toks))) { s with toks := s.toks + 1 }) fun _ _ _ _ s hq =>
      PySem.wpAny_strOf_gives rfl (PySem.typeIs_bool s b) PySem.F.slot_bool_str PySem.F.slot_bool_repr PySem.F.entry_bool_repr (PySem.F.args_bool_repr_1 _) (PySem.gives_bool_repr b) hq (hsz := by cases b <;> decide)) ⟨PySem.typeIs_str _ _ _, ⟨.str _, H, I.tok _, ⟨_, rfl⟩, q⟩⟩
theorem str_non : CallR X (.type "str") (fun xs H Q => xs = [.non] ∧ Q (.str (sx (tx "None"))) H) := by
  intro pins s σ H xs us Q I r h
  obtain ⟨rfl, q⟩ := h
  obtain ⟨u, rfl, r1⟩ := L2.vals1 r
  cases r1
  have e : sx (tx "None") = ("None" : Str) := by rfl
  rw [e] at q
  exact PySem.callType_new PySem.F.called_str (by decide) (PySem.F.typeCall_str_1 _) (PySem.F.newCall_str_1 _) (fun obj => PySem.F.args_object_init_2 obj _) PySem.F.entry_str_new
    (PySem.meets_str_new (S := fun _ R s => R (.ok (.ret (.str "None" s.toks))) { s with toks := s.toks + 1 }) fun _ _ _ _ s hq =>
      PySem.wpAny_strOf_gives rfl (PySem.typeIs_none s) PySem.F.slot_NoneType_str PySem.F.slot_NoneType_repr PySem.F.entry_NoneType_repr (PySem.F.args_NoneType_repr_1 _) PySem.gives_none_repr hq (hsz := by decide)) ⟨PySem.typeIs_str _ _ _, ⟨.str _, H, I.tok _, ⟨_, rfl⟩, q⟩⟩
theorem call_biT {f : String} (hf : biTy f = true) (hc : coldBi f = true → X.calm = true) : CallR X (.type f) (rB X.K f) := by
  intro pins s σ H xs us Q I r h
  obtain ⟨U, ds, a, tr, cc, e, q⟩ := h
  have nu : ∀ {p : Addr}, H p = none → ¬ U p := fun hp z => by obtain ⟨o, w⟩ := tr _ z; rw [hp] at w; cases w
  unfold biD at e
  split at e
  · exact absurd hf (by decide)
  · exact absurd hf (by decide)
  · exact absurd hf (by decide)
  · exact absurd hf (by decide)
  · exact absurd hf (by decide)
  · exact absurd hf (by decide)
  · exact absurd hf (by decide)
  · cases e
    obtain ⟨v, rfl, c⟩ := cc.one
    cases c.int
    exact L2.call_int1 pins s σ H _ us Q I r (.inl ⟨_, rfl, q.int⟩)
  · cases e
    obtain ⟨v, rfl, c⟩ := cc.one
    cases c.bl
    exact L2.call_int1 pins s σ H _ us Q I r (.inr ⟨_, rfl, q.int⟩)
  · cases e
    obtain ⟨v, rfl, c⟩ := cc.one
    cases c.bl
    exact str_bl pins s σ H _ us Q I r ⟨_, rfl, q.str (okTx_tx _)⟩
  · cases e
    obtain ⟨v, rfl, c⟩ := cc.one
    cases c.non
    exact str_non pins s σ H _ us Q I r ⟨rfl, q.str (okTx_tx _)⟩
  · obtain ⟨e1, rfl⟩ := guardO_some e
    obtain ⟨v, rfl, c⟩ := cc.one
    cases c.int
    exact L2.call_str_int pins s σ H _ us Q I r ⟨_, rfl, of_decide_eq_true e1, by rw [toString_sx]; exact q.str (okTx_tx _)⟩
  · cases e
    obtain ⟨v, rfl, c⟩ := cc.one
    obtain ⟨b, vs, rfl, s1, r1⟩ := c.lst
    exact L2.call_list_of pins s σ H _ us Q I r ⟨_, _, rfl, .inl s1, fun p hp => q.lst r1 hp (nu hp)⟩
  · cases e
    obtain ⟨v, rfl, c⟩ := cc.one
    obtain ⟨b, vs, rfl, s1, r1⟩ := c.tup
    exact L2.call_list_of pins s σ H _ us Q I r ⟨_, _, rfl, .inr s1.sq, fun p hp => q.lst r1 hp (nu hp)⟩
  · cases e
    obtain ⟨v, rfl, c⟩ := cc.one
    obtain ⟨b, vs, rfl, s1, r1⟩ := c.lst
    exact L2.call_tuple_of pins s σ H _ us Q I r ⟨_, _, rfl, .inl ⟨s1, fun p hp => q.tup r1 hp⟩⟩
  · cases e
    obtain ⟨v, rfl, c⟩ := cc.one
    obtain ⟨b, vs, rfl, s1, r1⟩ := c.tup
    exact L2.call_tuple_of pins s σ H _ us Q I r ⟨_, _, rfl, .inr ⟨s1.sq, q.val (by show RD _ _ _ (.tup _) _; unfold RD; exact ⟨b, vs, rfl, s1, r1⟩)⟩⟩
  · exact absurd hf (by decide)
  · exact absurd hf (by decide)
  · exact absurd hf (by decide)
  · cases e

/-! ### items, slices -/
theorem t_get {pins : List (Addr × Obj)} {σ : St} {H : Hp} {s : Shared} {a b : Addr} {q : List L2.Key} {kvs : List (List L2.Key × V)} {w : V} {E : Value → Shared → Prop} {Q : Value → Shared → Prop} (hu : X.A.units + 1 < PySem.cLine) (I : Inv X pins σ H s) (e : Rd H a (.dT kvs)) (eb : SqT X.K H b (q.map L2.kV)) (hw : L2.valV kvs q = some w)
    (h : ∀ w' s', Inv X pins σ H s' → RelV w w' → Q w' s') : PySem.wpAny (PySem.model X.prog X.w) X.A (PySem.getItem (.ref a) (.ref b)) Q E s := by
  obtain ⟨z, hd, xs, rel, dd⟩ := L2.dt_rd I.hok e
  obtain ⟨w', hw', rw'⟩ := L2.RelO.some_of (v := w) (o := (PySem.atKey xs q).map (·.2)) (by rw [← hw]; exact rel.val q)
  obtain ⟨p, hp, hp2⟩ := Option.map_eq_some_iff.mp hw'
  refine PySem.wpAny_getItem_heap (PySem.tupleKind_room_in1 hu) (key_in I eb) dd hp ?_
  rw [hp2]
  exact h w' _ (I.tok _) rw'
theorem t_is {pins : List (Addr × Obj)} {σ : St} {H : Hp} {s : Shared} {a : Addr} {kvs : List (List L2.Key × V)} (I : Inv X pins σ H s) (e : Rd H a (.dT kvs)) : s.TypeIs (.ref a) "dict" := by
  obtain ⟨_, _, xs, _, dd⟩ := L2.dt_rd I.hok e
  exact dd.typeIs
theorem ix_dtn (hu : X.A.units + 1 < PySem.cLine) : IxR X (fun x y H Q => ∃ (a b : Addr) (q : List L2.Key) (kvs : List (List L2.Key × V)) (w : V), x = .ref a ∧ y = .ref b ∧ Rd H a (.dT kvs) ∧ SqT X.K H b (q.map L2.kV) ∧ L2.valV kvs q = some w ∧ Q w H) := by
  intro value slice pins s σ H x y v u Q I rx ry h hs
  obtain ⟨a, b, q, kvs, z, rfl, rfl, e, eb, hw, k⟩ := h
  cases rx
  cases ry
  exact PyProof.Rows.tail_any (t_is I e) PySem.F.slot_dict_getitem.lookup (t_get hu I e eb hw fun w' s3 I3 rw' => ⟨z, H, I3, rw', k⟩) hs
theorem ixN_eq (n : Nat) (i : Int) : L2.ixN n i = ixN n i := rfl
theorem slN_eq (n d : Nat) (o : Option Int) : HT.sIx n d o = slN n d o := by
  cases o <;> rfl
theorem ix_dct (hu : X.A.units + 1 < PySem.cLine) : IxR X (fun x y H Q => ∃ (a : Addr) (v : V), x = .ref a ∧ L2.DGet H a y (some v) ∧ Q v H) := by
  intro value slice pins s σ H x y v u Q I rx ry h hs
  obtain ⟨a, z, rfl, g, q⟩ := h
  cases rx
  exact PyProof.Rows.tail_any (L2.dict_typeIs I g) PySem.F.slot_dict_getitem.lookup (L2.d_getItem hu I g ry fun w' s3 I3 rw' => ⟨z, H, I3, rw', q⟩) hs
def rIx (K : PySem.W.Frag) : R2 := fun x y H Q => ∃ (U : Addr → Prop) (d d' r : D), RC K U H d x ∧ RC K U H d' y ∧ idxD d d' = some r ∧ ∀ v, RD K U H r v → Q v H
theorem RL.at {K : PySem.W.Frag} {U : Addr → Prop} {H : Hp} {l : List D} {vs : List V} {i : Int} {d : D} (r : RL K U H l vs) (h : ((ixN l.length i).bind fun j => l[j]?) = some d) : ∃ v, L2.atI vs i = some v ∧ RD K U H d v := by
  obtain ⟨j, h1, h2⟩ := Option.bind_eq_some_iff.mp h
  obtain ⟨v, h3, h4⟩ := r.get h2
  refine ⟨v, ?_, h4⟩
  unfold L2.atI
  rw [r.len, ixN_eq, h1]
  exact h3
theorem ix_D (hu : X.A.units + 1 < PySem.cLine) : IxR X (rIx X.K) := by
  intro value slice pins s σ H x y v u Q I rx ry h hs
  obtain ⟨U, d, d', r, c, c', e, q⟩ := h
  unfold idxD at e
  split at e
  · cases c'.int
    obtain ⟨a, vs, rfl, s1, r1⟩ := c.tup
    obtain ⟨w, e1, e2⟩ := r1.at e
    exact L2.ix_tup value slice pins s σ H _ _ v u Q I rx ry ⟨a, vs, _, w, rfl, rfl, s1.sq, e1, q w e2⟩ hs
  · cases c'.int
    obtain ⟨a, vs, rfl, s1, r1⟩ := c.lst
    obtain ⟨w, e1, e2⟩ := r1.at e
    exact L2.ix_list value slice pins s σ H _ _ v u Q I rx ry ⟨a, vs, _, w, rfl, rfl, s1, e1, q w e2⟩ hs
  · cases c'.int
    obtain ⟨rfl, ok⟩ := c.str
    obtain ⟨_, e1, e2⟩ := Option.bind_eq_some_iff.mp e
    obtain ⟨j, e3, e4⟩ := Option.bind_eq_some_iff.mp e2
    obtain ⟨ch, e5, rfl⟩ := Option.map_eq_some_iff.mp e4
    refine L2.ix_str value slice pins s σ H _ _ v u Q I rx ry ⟨_, _, ch, rfl, rfl, ?_, ?_, ?_⟩ hs
    · rw [sx_len, ← sizeLine_is]; exact of_decide_eq_true (guardO_some e1).1
    · unfold L2.atI
      rw [sx_list, ixN_eq, e3]
      exact e5
    · refine q _ ?_
      unfold RD
      exact ⟨rfl, fun z hz => by cases List.mem_singleton.mp hz; exact ok ch (List.mem_of_getElem? e5)⟩
  · obtain ⟨_, e1, e2⟩ := Option.bind_eq_some_iff.mp e
    obtain ⟨a, kvs, rfl, s1, r1⟩ := c.dct
    obtain ⟨k, hk, rfl⟩ := c'.keyV (guardO_some e1).1
    have z := RK.get hk r1
    rw [e2] at z
    obtain ⟨w, e3, e4⟩ := z
    exact ix_dct hu value slice pins s σ H _ _ v u Q I rx ry ⟨a, w, rfl, by rw [← e3]; exact .inl ⟨kvs, k, s1, rfl, rfl⟩, q w e4⟩ hs
  · obtain ⟨_, e1, e2⟩ := Option.bind_eq_some_iff.mp e
    obtain ⟨a, kvs, rfl, s1, r1⟩ := c.dtn
    obtain ⟨k, b, hk, rfl, hv⟩ := c'.keysV (guardO_some e1).1
    have z := RT.get hk r1
    rw [e2] at z
    obtain ⟨w, e3, e4⟩ := z
    exact ix_dtn hu value slice pins s σ H _ _ v u Q I rx ry ⟨a, b, k, kvs, w, rfl, rfl, .inl s1, hv, e3, q w e4⟩ hs
  · cases e
def rSl (K : PySem.W.Frag) : V → Option Int → Option Int → Hp → VK → Prop := fun x lo hi H Q => ∃ (U : Addr → Prop) (d : D) (a : A), (∀ b, U b → ∃ o, H b = some o) ∧ RC K U H d x ∧ slcD d lo hi = some a ∧ Dlv K U H a Q
theorem RL.cut {K : PySem.W.Frag} {U : Addr → Prop} {H : Hp} {l : List D} {vs : List V} (r : RL K U H l vs) (lo hi : Option Int) : RL K U H (cutL l lo hi) (L2.cutV vs lo hi) := by
  unfold cutL L2.cutV
  rw [r.len, slN_eq, slN_eq]
  exact (r.drop _).take _
theorem cut_whole {l : List D} {vs : List V} {lo hi : Option Int} (h : vs.length = l.length) (a : slN vs.length 0 lo = 0) (b : slN vs.length vs.length hi = vs.length) : cutL l lo hi = l := by
  unfold cutL
  rw [← h, a, b, List.drop_zero, Nat.sub_zero]
  exact List.take_of_length_le (Nat.le_of_eq h.symm)
theorem cut_sx (s : Tx) (lo hi : Option Int) : L2.cutS (sx s) lo hi = sx (cutL s lo hi) := by
  unfold L2.cutS cutL
  rw [sx_len, sx_list, slN_eq, slN_eq]; rfl
theorem sl_D : L2.SlR X (rSl X.K) := by
  intro pins s σ H x v vl vu lo hi sl Q I rx hs pl pu h
  obtain ⟨U, d, a, tr, c, e, q⟩ := h
  have nu : ∀ {p : Addr}, H p = none → ¬ U p := fun hp z => by obtain ⟨o, w⟩ := tr _ z; rw [hp] at w; cases w
  unfold slcD at e
  split at e
  · cases e
    obtain ⟨b, vs, rfl, s1, r1⟩ := c.tup
    refine L2.sl_tupA pins s σ H _ v vl vu lo hi sl Q I rx hs pl pu ⟨b, vs, rfl, s1.sq, fun z => ?_, fun _ p hp => q.tup (r1.cut lo hi) hp⟩
    refine q.val ?_
    rw [slN_eq, slN_eq] at z
    rw [cut_whole r1.len z.1 z.2]
    unfold RD
    exact ⟨b, vs, rfl, s1, r1⟩
  · cases e
    obtain ⟨b, vs, rfl, s1, r1⟩ := c.lst
    exact L2.sl_list pins s σ H _ v vl vu lo hi sl Q I rx hs pl pu ⟨b, vs, rfl, s1, fun p hp => q.lst (r1.cut lo hi) hp (nu hp)⟩
  · obtain ⟨e1, rfl⟩ := guardO_some e
    obtain ⟨rfl, ok⟩ := c.str
    refine L2.sl_str pins s σ H _ v vl vu lo hi sl Q I rx hs pl pu ⟨_, rfl, ?_, ?_⟩
    · rw [sx_len, ← sizeLine_is]; exact of_decide_eq_true e1
    · rw [cut_sx]
      exact q.str fun ch hc => ok ch (List.mem_of_mem_drop (List.mem_of_mem_take hc))
  · cases e
end
end Iv

set_option linter.all false
set_option maxRecDepth 100000
set_option autoImplicit false
set_option Elab.async false
set_option maxHeartbeats 4000000
/-! Iv, part 9b: list.extend by any list or tuple. -/
namespace PySem.IvX
open PySem PySem.Spec PySem.AutoSeq1
set_option maxRecDepth 8000 in
theorem extend_listW (l : Addr) (items : Array Value) (n : Nat) (b : Addr) (items2 : Array Value) (n2 : Nat) (dd2 : Option Addr) (sl2 : Array (Option Value)) (hc0 : ¬(!items.isEmpty && Builtin.List.listTooLong (items.size + items2.size)) = true) (hc1 : items.size ≤ sizeLine) (hs2 : items.size + items2.size ≤ sizeLine + 1) :
    Meets (Builtin.«list.extend» ⟨[.ref l, .ref b], []⟩) (fun _ R s => s.heap.get? l = some { cls := .type "list", dict := none, data := .seq items n, slots := #[] } ∧ s.heap.get? b = some { cls := .type "list", dict := dd2, data := .seq items2 n2, slots := sl2 } ∧ R (.ok (.ret Value.none)) { s with heap := s.heap.update l (Obj.mapSeq fun x => x ++ items2), toks := s.toks }) :=
  .of_wp fun prog w A R s h => by
    obtain ⟨hp, g, d, tk, os⟩ := s; obtain ⟨hl, hb, h⟩ := h; have f1 := idx_int; have f2 := sub_tuple_tuple; have f3 := sub_list_list; have f4 := sub_tuple_list; have f5 := sub_list_tuple
    have hz' : (items ++ items2).size ≤ sizeLine + 1 := by rw [Array.size_append]; exact hs2
    wp_walk using (wpAny_updateSeq hl rfl (hz := hc1) (_hz' := hz')), wpAny_loadPart' hl, wpAny_loadPart' hb; exact ⟨_, rfl, h⟩
set_option maxRecDepth 8000 in
theorem extend_tupleW (l : Addr) (items : Array Value) (n : Nat) (b : Addr) (items2 : Array Value) (n2 : Nat) (dd2 : Option Addr) (sl2 : Array (Option Value)) (hc0 : ¬(!items.isEmpty && Builtin.List.listTooLong (items.size + items2.size)) = true) (hc1 : items.size ≤ sizeLine) (hs2 : items.size + items2.size ≤ sizeLine + 1) :
    Meets (Builtin.«list.extend» ⟨[.ref l, .ref b], []⟩) (fun _ R s => s.heap.get? l = some { cls := .type "list", dict := none, data := .seq items n, slots := #[] } ∧ s.heap.get? b = some { cls := .type "tuple", dict := dd2, data := .seq items2 n2, slots := sl2 } ∧ R (.ok (.ret Value.none)) { s with heap := s.heap.update l (Obj.mapSeq fun x => x ++ items2), toks := s.toks }) :=
  .of_wp fun prog w A R s h => by
    obtain ⟨hp, g, d, tk, os⟩ := s; obtain ⟨hl, hb, h⟩ := h; have f1 := idx_int; have f2 := sub_tuple_tuple; have f3 := sub_list_list; have f4 := sub_tuple_list; have f5 := sub_list_tuple
    have hz' : (items ++ items2).size ≤ sizeLine + 1 := by rw [Array.size_append]; exact hs2
    wp_walk using (wpAny_updateSeq hl rfl (hz := hc1) (_hz' := hz')), wpAny_loadPart' hl, wpAny_loadPart' hb; exact ⟨_, rfl, h⟩
end PySem.IvX
namespace Iv
open PySem (Str Addr Value Obj Heap World Program Expr Stmt Scope Pos Shared Tok NameKind Operator CmpOp PyData)
open L2 (V Hp HO St upd SqL SqT Rd RelV Vals VK TE TT TA TS Cx Inv PE PT PA PS PSs upd_same upd_ne WX Takes Sp XK OpR CallR IxR R2 Dp DpAll)
section
variable {X : Cx}
/-- extend by a list or a tuple -/
theorem ext_any : L2.MtR X "list.extend" (fun x vs H Q => ∃ l b xs zs, x = .ref l ∧ vs = [.ref b] ∧ H l = some (.lst xs) ∧ (SqL X.K H b zs ∨ SqT X.K H b zs) ∧ xs.length + zs.length ≤ PySem.sizeLine ∧ Q .non (upd H l (.lst (xs ++ zs)))) := by
  intro pins s σ H x vs v us Q I rx rv h
  obtain ⟨l, b, xs, zs, rfl, rfl, hH, hB, hz, q⟩ := h
  cases rx
  obtain ⟨u, rfl, ru⟩ := rv.one
  cases ru
  obtain ⟨z, its, n, r, hl, e⟩ := I.lstM hH
  rcases hB with hB | hB
  · obtain ⟨ks, r2, ⟨⟨c2, d2, t2, sl2⟩, n2, e2, z2, _, y2⟩, _⟩ := I.list hB
    simp only at z2 y2
    subst z2 y2
    have q2 := r2.length
    have hsz : its.toArray.size + ks.toArray.size ≤ PySem.sizeLine := by rw [List.size_toArray, List.size_toArray]; omega
    have hlong : ¬ (!its.toArray.isEmpty && PySem.Builtin.List.listTooLong (its.toArray.size + ks.toArray.size)) = true := by
      rw [L2.notLongL hsz, Bool.and_false]
      exact Bool.false_ne_true
    refine PySem.call_meets PySem.F.slot_list_extend ⟨_, e, rfl⟩ PySem.F.entry_list_extend (PySem.F.args_list_extend_2 _ _)
      (PySem.IvX.extend_listW l its.toArray n b ks.toArray n2 d2 sl2 hlong (by rw [List.size_toArray]; omega) (by omega)) ⟨e, e2, ?_⟩
    refine ⟨.non, _, I.lset (its' := its ++ ks) hH e (by simp) (r.append r2) ?_, rfl, q⟩
    rw [List.length_append]
    omega
  · obtain ⟨ks, r2, ⟨⟨c2, d2, t2, sl2⟩, e2, z2, n2, y2⟩, _⟩ := I.tuple hB
    simp only at z2 y2
    subst z2 y2
    have q2 := r2.length
    have hsz : its.toArray.size + ks.toArray.size ≤ PySem.sizeLine := by rw [List.size_toArray, List.size_toArray]; omega
    have hlong : ¬ (!its.toArray.isEmpty && PySem.Builtin.List.listTooLong (its.toArray.size + ks.toArray.size)) = true := by
      rw [L2.notLongL hsz, Bool.and_false]
      exact Bool.false_ne_true
    refine PySem.call_meets PySem.F.slot_list_extend ⟨_, e, rfl⟩ PySem.F.entry_list_extend (PySem.F.args_list_extend_2 _ _)
      (PySem.IvX.extend_tupleW l its.toArray n b ks.toArray n2 d2 sl2 hlong (by rw [List.size_toArray]; omega) (by omega)) ⟨e, e2, ?_⟩
    refine ⟨.non, _, I.lset (its' := its ++ ks) hH e (by simp) (r.append r2) ?_, rfl, q⟩
    rw [List.length_append]
    omega
end
end Iv

set_option linter.all false
set_option maxRecDepth 100000
set_option autoImplicit false
set_option Elab.async false
set_option maxHeartbeats 1000000
/-! Iv, part 10: methods. -/
namespace Iv
open PySem (Str Addr Value Obj Heap World Program Expr Stmt Scope Pos Shared Tok NameKind Operator CmpOp PyData)
open L2 (V Hp HO St upd SqL SqT Rd RelV Vals VK TE TT TA TS Cx Inv PE PT PA PS PSs upd_same upd_ne WX Takes Sp XK OpR CallR IxR R2 Dp DpAll)
variable {EP : ExPin}

section
variable {K : PySem.W.Frag} {σ : St} {U : Addr → Prop} {H : Hp} {ρ : Rho}
theorem RO.kind {d : D} {p : Addr} (h : RO K U H d p) : OwH H p := by
  unfold RO at h
  cases d with
  | lst l => obtain ⟨_, vs, e, _⟩ := h; exact .inl ⟨vs, e⟩
  | dct l => obtain ⟨_, vs, e, _⟩ := h; exact .inr (.inl ⟨vs, e⟩)
  | dtn l => obtain ⟨_, vs, e, _⟩ := h; exact .inr (.inr ⟨vs, e⟩)
  | _ => exact h.2.elim
theorem Kp.mut {d : D} {p : Addr} {o : HO} (h : RO K U H d p) : Kp U U H (upd H p o) := by
  have nu : ¬ U p := by unfold RO at h; exact h.1
  have k : ∀ b u, b ≠ p → H b = some u → upd H p o b = some u := fun b u n e => by rw [upd_ne n]; exact e
  refine ⟨fun _ z => z, fun b vs u r => rdTo r fun o e => k b o (fun z => nu (z ▸ u)) e, fun b vs u r => rdTo r fun o e => k b o (fun z => nu (z ▸ u)) e, fun b vs r => rdTo r fun o e => k b o (fun z => ?_) e, fun b vs u r => k b _ (fun z => nu (z ▸ u)) r⟩
  subst z
  exact h.kind.noTup r
theorem Adv.mut {i : Nat} {d d' : D} {p : Addr} {o : HO} (r : R EP K U H σ ρ) (e : ρ[i]? = some (.ow d)) (hs : σ[i]? = some (some (V.ref p))) (h : RO K U (upd H p o) d' p) : Adv EP K σ U H ρ U (upd H p o) (ρ.set i (.ow d')) := by
  obtain ⟨q, hq, ho⟩ := r.ow i _ d e (.inl rfl)
  rw [hs] at hq; cases hq
  have kp := Kp.mut (o := o) ho
  have hi : i < ρ.length := (List.getElem?_eq_some_iff.mp e).1
  have ownp : own σ ρ p := ⟨i, _, d, e, .inl rfl, hs⟩
  have at_ : ∀ {c : Nat} {s : Sl} {d0 : D}, (ρ.set i (.ow d'))[c]? = some s → held s d0 → (c = i ∧ d0 = d') ∨ (c ≠ i ∧ ρ[c]? = some s) := fun {c s d0} z hd => by
    by_cases hj : i = c
    · subst hj
      rw [List.getElem?_set_self hi] at z
      cases z
      rcases hd with w | w <;> cases w
      exact .inl ⟨rfl, rfl⟩
    · rw [List.getElem?_set_ne hj] at z; exact .inr ⟨fun w => hj w.symm, z⟩
  have own_ : ∀ b, own σ (ρ.set i (.ow d')) b → own σ ρ b := fun b ⟨c, s, d0, z, hd, q⟩ => by
    rcases at_ z hd with ⟨rfl, _⟩ | ⟨_, w⟩
    · rw [hs] at q; cases q; exact ownp
    · exact ⟨c, s, d0, w, hd, q⟩
  refine ⟨⟨fun b u z n => by rw [upd_ne (fun w => n (by subst w; exact ownp))]; exact z, fun b u z => ?_, fun _ z => z, fun b z => .inl z⟩, ⟨?_, fun b z => ?_, fun j d0 z => ?_, fun j s d0 z hd => ?_, fun a b s s' d1 d2 q ea ha eb hb qa qb => ?_, fun j c fs e => r.ex j c fs (ex_set (fun _ _ z => by cases z) e).2⟩, fun j z => ?_, fun j s z hf => ?_⟩
  · by_cases w : b = p
    · exact ⟨o, by rw [w, upd_same]⟩
    · exact ⟨u, by rw [upd_ne w]; exact z⟩
  · rw [List.length_set]; exact r.len
  · obtain ⟨u, w⟩ := r.trk b z
    by_cases y : b = p
    · exact ⟨o, by rw [y, upd_same]⟩
    · exact ⟨u, by rw [upd_ne y]; exact w⟩
  · by_cases hj : i = j
    · subst hj
      rw [List.getElem?_set_self hi] at z
      cases z
    · rw [List.getElem?_set_ne hj] at z
      obtain ⟨v, q, w⟩ := r.sh j d0 z
      exact ⟨v, q, RD.mono kp d0 v w⟩
  · rcases at_ z hd with ⟨rfl, rfl⟩ | ⟨n, w⟩
    · exact ⟨p, hs, h⟩
    · obtain ⟨q, hq, w2⟩ := r.ow j s d0 w hd
      have ne : q ≠ p := fun y => n (r.dis j i s _ d0 d q w hd e (.inl rfl) hq (by rw [y]; exact hs))
      refine ⟨q, hq, ?_⟩
      have nu2 : ¬ U q := by unfold RO at w2; exact w2.1
      unfold RO at w2 ⊢
      refine ⟨nu2, ?_⟩
      have w3 := w2.2
      cases d0 with
      | lst l => obtain ⟨vs, y, rr⟩ := w3; exact ⟨vs, by rw [upd_ne ne]; exact y, RL.mono kp l vs rr⟩
      | dct l => obtain ⟨vs, y, rr⟩ := w3; exact ⟨vs, by rw [upd_ne ne]; exact y, RK.mono kp l vs rr⟩
      | dtn l => obtain ⟨vs, y, rr⟩ := w3; exact ⟨vs, by rw [upd_ne ne]; exact y, RT.mono kp l vs rr⟩
      | _ => exact w3.elim
  · have back : ∀ {c : Nat} {s : Sl} {d0 : D}, (ρ.set i (.ow d'))[c]? = some s → held s d0 → ∃ s0 d00, ρ[c]? = some s0 ∧ held s0 d00 := fun {c s d0} z hd => by
      rcases at_ z hd with ⟨rfl, _⟩ | ⟨_, w⟩
      · exact ⟨_, d, e, .inl rfl⟩
      · exact ⟨s, d0, w, hd⟩
    obtain ⟨s0, d0, w0, h0⟩ := back ea ha
    obtain ⟨s1, d3, w1, h1⟩ := back eb hb
    exact r.dis a b s0 s1 d0 d3 q w0 h0 w1 h1 qa qb
  · obtain ⟨s, d0, w, hd⟩ := owAt_held z
    rcases at_ w hd with ⟨rfl, _⟩ | ⟨_, w⟩
    · exact held_owAt e (.inl rfl)
    · exact held_owAt w hd
  · by_cases hj : i = j
    · subst hj; rw [e] at z; cases z; cases hf
    · rw [List.getElem?_set_ne hj]; exact z
end

/-- what a method makes of contents -/
def MEnd (K : PySem.W.Frag) (U : Addr → Prop) (H : Hp) (d : D) (x : V) (r : Option D × A) (Q : VK) : Prop := match r.1 with
  | none => Dlv K U H r.2 Q
  | some d' => ∃ p, x = .ref p ∧ RO K U H d p ∧ ∀ o v, RO K U (upd H p o) d' p → RN K U (upd H p o) H r.2 v → Q v (upd H p o)
/-- by contents: its arguments kept (true) or read -/
def rM (K : PySem.W.Frag) (kp : Bool) (f : D → List D → Option (Option D × A)) : V → List V → Hp → VK → Prop := fun x xs H Q => ∃ (U : Addr → Prop) (d : D) (ds : List D) (r : Option D × A), (∀ b, U b → ∃ o, H b = some o) ∧ RC K U H d x ∧
  (if kp = true then RL K U H ds xs else RCs K U H ds xs) ∧ f d ds = some r ∧ MEnd K U H d x r Q
section
variable {X : Cx}
theorem rn_non {K : PySem.W.Frag} {U : Addr → Prop} {H H0 : Hp} : RN K U H H0 (.val .non) .non := by show RD K U H .non _; unfold RD; rfl
theorem RL.one' {K : PySem.W.Frag} {U : Addr → Prop} {H : Hp} {d : D} {vs : List V} (h : RL K U H [d] vs) : ∃ v, vs = [v] ∧ RD K U H d v := by
  unfold RL at h
  obtain ⟨v, vr, rfl, r, q⟩ := h
  unfold RL at q
  subst q
  exact ⟨v, rfl, r⟩
theorem RL.two' {K : PySem.W.Frag} {U : Addr → Prop} {H : Hp} {d d' : D} {vs : List V} (h : RL K U H [d, d'] vs) : ∃ v v', vs = [v, v'] ∧ RD K U H d v ∧ RD K U H d' v' := by
  unfold RL at h
  obtain ⟨v, vr, rfl, r, q⟩ := h
  obtain ⟨v', rfl, r'⟩ := q.one'
  exact ⟨v, v', rfl, r, r'⟩
theorem mt_append : L2.MtR X "list.append" (rM X.K true mAppend) := by
  intro pins s σ H x xs v us Q I rx rv h
  obtain ⟨U, d, ds, r, tr, c, cs, e, q⟩ := h
  have cs : RL X.K U H ds xs := cs
  unfold mAppend at e
  split at e
  · obtain ⟨e1, rfl⟩ := guardO_some e
    obtain ⟨p, rfl, o, q⟩ := q
    have o2 := o
    unfold RO at o2
    obtain ⟨nu, vs, hp, rl⟩ := o2
    obtain ⟨w, rfl, rw1⟩ := cs.one'
    refine L2.mt_append pins s σ H _ _ v us Q I rx rv ⟨p, vs, w, rfl, rfl, hp, ?_, ?_⟩
    · rw [rl.len, ← sizeLine_is]; exact of_decide_eq_true e1
    · refine q _ _ ?_ rn_non
      unfold RO
      exact ⟨nu, _, upd_same, (RL.mono (Kp.mut o) _ _ rl).append (RL.one (RD.mono (Kp.mut o) _ _ rw1))⟩
  · cases e
theorem mt_insert : L2.MtR X "list.insert" (rM X.K true mInsert) := by
  intro pins s σ H x xs v us Q I rx rv h
  obtain ⟨U, d, ds, r, tr, c, cs, e, q⟩ := h
  have cs : RL X.K U H ds xs := cs
  unfold mInsert at e
  split at e
  · obtain ⟨e1, rfl⟩ := guardO_some e
    obtain ⟨p, rfl, o, q⟩ := q
    have o2 := o
    unfold RO at o2
    obtain ⟨nu, vs, hp, rl⟩ := o2
    obtain ⟨w, w', rfl, rw1, rw2⟩ := cs.two'
    unfold RD at rw1
    subst rw1
    have e2 := Bool.and_eq_true_iff.mp e1
    have e3 := Bool.and_eq_true_iff.mp e2.1
    have e4 := of_decide_eq_true e3.2
    refine L2.mt_insert pins s σ H _ _ v us Q I rx rv ⟨p, vs, _, w', rfl, rfl, hp, ?_, of_decide_eq_true e3.1, by omega, ?_⟩
    · rw [rl.len, ← sizeLine_is]; exact of_decide_eq_true e2.2
    · refine q _ _ ?_ rn_non
      unfold RO
      exact ⟨nu, _, upd_same, ((RL.take _ (RL.mono (Kp.mut o) _ _ rl)).append (RL.one (RD.mono (Kp.mut o) _ _ rw2))).append (RL.drop _ (RL.mono (Kp.mut o) _ _ rl))⟩
  · cases e
theorem mt_extend : L2.MtR X "list.extend" (rM X.K false mExtend) := by
  intro pins s σ H x xs v us Q I rx rv h
  obtain ⟨U, d, ds, r, tr, c, cs, e, q⟩ := h
  have cs : RCs X.K U H ds xs := cs
  unfold mExtend at e
  split at e
  · obtain ⟨e1, rfl⟩ := guardO_some e
    obtain ⟨p, rfl, o, q⟩ := q
    have o2 := o
    unfold RO at o2
    obtain ⟨nu, vs, hp, rl⟩ := o2
    obtain ⟨w, rfl, cw⟩ := cs.one
    obtain ⟨b, ws, rfl, s1, r1⟩ := cw.tup
    refine ext_any pins s σ H _ _ v us Q I rx rv ⟨p, b, vs, ws, rfl, rfl, hp, .inr s1.sq, ?_, ?_⟩
    · rw [rl.len, r1.len, ← sizeLine_is]; exact of_decide_eq_true e1
    · refine q _ _ ?_ rn_non
      unfold RO
      exact ⟨nu, _, upd_same, (RL.mono (Kp.mut o) _ _ rl).append (RL.mono (Kp.mut o) _ _ r1)⟩
  · obtain ⟨e1, rfl⟩ := guardO_some e
    obtain ⟨p, rfl, o, q⟩ := q
    have o2 := o
    unfold RO at o2
    obtain ⟨nu, vs, hp, rl⟩ := o2
    obtain ⟨w, rfl, cw⟩ := cs.one
    obtain ⟨b, ws, rfl, s1, r1⟩ := cw.lst
    refine ext_any pins s σ H _ _ v us Q I rx rv ⟨p, b, vs, ws, rfl, rfl, hp, .inl s1, ?_, ?_⟩
    · rw [rl.len, r1.len, ← sizeLine_is]; exact of_decide_eq_true e1
    · refine q _ _ ?_ rn_non
      unfold RO
      exact ⟨nu, _, upd_same, (RL.mono (Kp.mut o) _ _ rl).append (RL.mono (Kp.mut o) _ _ r1)⟩
  · cases e
theorem mt_upper : L2.MtR X "str.upper" (rM X.K false mUpper) := by
  intro pins s σ H x xs v us Q I rx rv h
  obtain ⟨U, d, ds, r, tr, c, cs, e, q⟩ := h
  have cs : RCs X.K U H ds xs := cs
  unfold mUpper at e
  split at e
  · obtain ⟨_, e1, e2⟩ := Option.bind_eq_some_iff.mp e
    obtain ⟨t, e3, rfl⟩ := Option.map_eq_some_iff.mp e2
    obtain ⟨rfl, ok⟩ := c.str
    cases cs.nil
    have q : Dlv X.K U H (.val (.str t)) Q := q
    refine L2.mt_upper pins s σ H _ _ v us Q I rx rv ⟨_, rfl, rfl, ?_, ?_⟩
    · rw [sx_len]; exact of_decide_eq_true (guardO_some e1).1
    · obtain ⟨e4, rfl⟩ := guardO_some e3
      have z := q.str fun ch hc => of_decide_eq_true (List.all_eq_true.mp e4 ch hc)
      exact z
  · cases e
theorem toPL_at : ∀ (l : List D) (j : Nat), (D.toPL l)[j]? = l[j]?.map D.toP
  | [], j => by unfold D.toPL; simp
  | d :: l, 0 => by unfold D.toPL; simp
  | d :: l, j + 1 => by unfold D.toPL; simpa using toPL_at l j
theorem plnL_at : ∀ (l : List D) (j : Nat) (d : D), D.plnL l = true → l[j]? = some d → d.pln = true
  | [], _, _, _, e => by simp at e
  | a :: l, 0, d, h, e => by
    unfold D.plnL at h
    simp at e; subst e
    exact (Bool.and_eq_true_iff.mp h).1
  | a :: l, j + 1, d, h, e => by
    unfold D.plnL at h
    exact plnL_at l j d (Bool.and_eq_true_iff.mp h).2 (by simpa using e)
theorem toPL_idx (x : D) (hx : x.pln = true) (l : List D) (j : Nat) (hl : D.plnL l = true) (h : l.findIdx? (fun y => D.pe y x) = some j) : ∃ w, (D.toPL l)[j]? = some w ∧ PyData.eqv w x.toP = true ∧ ∀ (m : Nat) (z' : PyData), m < j → (D.toPL l)[m]? = some z' → PyData.eqv z' x.toP = false := by
  obtain ⟨hj, h1, h2⟩ := List.findIdx?_eq_some_iff_getElem.mp h
  refine ⟨(l[j]).toP, by rw [toPL_at]; simp [hj], ?_, fun m z' hm e => ?_⟩
  · rw [pe_eqv _ _ (plnL_at l j _ hl (by simp)) hx]; exact h1
  · rw [toPL_at] at e
    have hm' : m < l.length := by omega
    have : l[m]? = some l[m] := by simp [hm']
    rw [this] at e
    cases e
    rw [pe_eqv _ _ (plnL_at l m _ hl (by simp)) hx]
    have := h2 m hm
    simpa using this
theorem mt_index (hu : X.A.units + 65 < PySem.cLine) : L2.MtR X "list.index" (rM X.K false mIndex) := by
  intro pins s σ H x xs v us Q I rx rv h
  obtain ⟨U, d, ds, r, tr, c, cs, e, q⟩ := h
  have cs : RCs X.K U H ds xs := cs
  unfold mIndex at e
  split at e
  · obtain ⟨_, e1, e2⟩ := Option.bind_eq_some_iff.mp e
    obtain ⟨j, e3, rfl⟩ := Option.map_eq_some_iff.mp e2
    obtain ⟨y, rfl, cy⟩ := cs.one
    have e4 := Bool.and_eq_true_iff.mp (guardO_some e1).1
    obtain ⟨p1, p2⟩ := cy.dp e4.1
    obtain ⟨p3, p4⟩ := c.dp e4.2
    obtain ⟨a, vs, rfl, s1, r1⟩ := c.lst
    have e5 : D.plnL _ = true := (Bool.and_eq_true_iff.mp e4.2).1
    obtain ⟨w, e6, e7, e8⟩ := toPL_idx _ (Bool.and_eq_true_iff.mp e4.1).1 _ _ e5 e3
    have q : Dlv X.K U H (.val (.int j)) Q := q
    exact L2.mt_indexD hu pins s σ H _ _ v us Q I rx rv ⟨a, y, _, D.toPL _, j, w, rfl, rfl, p3, p1, p4, p2, e6, e7, e8, q.int⟩
  · cases e
end
end Iv

set_option linter.all false
set_option maxRecDepth 100000
set_option autoImplicit false
set_option Elab.async false
set_option maxHeartbeats 1000000
/-! Iv, part 10b: calls of the module's own functions. -/
namespace Iv
open PySem (Str Addr Value Obj Heap World Program Expr Stmt Scope Pos Shared Tok NameKind Operator CmpOp PyData)
open L2 (V Hp HO St upd SqL SqT Rd RelV Vals VK TE TT TA TS Cx Inv PE PT PA PS PSs upd_same upd_ne WX Takes Sp XK OpR CallR IxR R2 Dp DpAll)
variable {EP : ExPin}

theorem slOf_rf (ρ : Rho) (i : Nat) : (∃ s, slOf (.rf i) ρ = .ok s ρ ∧ ρ[i]? = some s ∧ ∀ c fs, s ≠ .ex c fs) ∨ slOf (.rf i) ρ = .stuck := by
  unfold slOf
  simp only [bnd, slot]
  cases ρ[i]? with
  | none => exact .inr rfl
  | some s =>
    cases s with
    | no => exact .inr rfl
    | ex _ _ => exact .inr rfl
    | sh d => exact .inl ⟨_, rfl, rfl, fun _ _ z => by cases z⟩
    | ow d => exact .inl ⟨_, rfl, rfl, fun _ _ z => by cases z⟩
    | lk d => exact .inl ⟨_, rfl, rfl, fun _ _ z => by cases z⟩
theorem slOf_cases (ρ : Rho) (a : A) : (∃ s, slOf a ρ = .ok s ρ) ∨ slOf a ρ = .stuck := by
  cases a with
  | val d => exact .inl ⟨_, rfl⟩
  | fr d => exact .inl ⟨_, rfl⟩
  | rf i => exact (slOf_rf ρ i).imp (fun ⟨s, h, _⟩ => ⟨s, h⟩) id
theorem putOuts_len : ∀ (as : List A) (outs ρ : Rho), (putOuts as outs ρ).length = ρ.length
  | [], _, _ => by unfold putOuts; rfl
  | .val _ :: r, [], ρ => by unfold putOuts; rfl
  | .fr _ :: r, [], ρ => by unfold putOuts; rfl
  | .rf _ :: r, [], ρ => by unfold putOuts; rfl
  | .val _ :: r, s :: ss, ρ => by unfold putOuts; exact putOuts_len r ss ρ
  | .fr _ :: r, s :: ss, ρ => by unfold putOuts; exact putOuts_len r ss ρ
  | .rf i :: r, s :: ss, ρ => by
    unfold putOuts
    rw [putOuts_len r ss]
    split
    · rw [List.length_set]
    · rfl
theorem refs_mem : ∀ {as : List A} {i j : Nat}, as[j]? = some (A.rf i) → i ∈ refs as
  | [], _, _, e => by simp at e
  | a :: r, i, 0, e => by
    simp at e; subst e
    unfold refs; exact List.mem_cons_self
  | a :: r, i, j + 1, e => by
    have h := refs_mem (as := r) (i := i) (j := j) (by simpa using e)
    cases a with
    | rf k => unfold refs; exact List.mem_cons_of_mem _ h
    | val _ => unfold refs; exact h
    | fr _ => unfold refs; exact h
theorem putOuts_at : ∀ {as : List A} {outs ρ : Rho} {i : Nat} {s : Sl}, as.length = outs.length → nodupN (refs as) = true → (putOuts as outs ρ)[i]? = some s →
    (ρ[i]? = some s ∧ ∀ j : Nat, as[j]? = some (A.rf i) → owAt ρ i = false) ∨ (∃ j : Nat, as[j]? = some (A.rf i) ∧ outs[j]? = some s ∧ owAt ρ i = true)
  | [], outs, ρ, i, s, _, _, e => .inl ⟨by unfold putOuts at e; exact e, fun j z => by simp at z⟩
  | a :: r, [], ρ, i, s, l, _, e => by simp at l
  | .val d :: r, s0 :: ss, ρ, i, s, l, nd, e => by
    unfold putOuts at e
    unfold refs at nd
    rcases putOuts_at (by simpa using l) nd e with ⟨h1, h2⟩ | ⟨j, h1, h2, h3⟩
    · exact .inl ⟨h1, fun j z => by cases j with | zero => simp at z | succ j => exact h2 j (by simpa using z)⟩
    · exact .inr ⟨j + 1, by simpa using h1, by simpa using h2, h3⟩
  | .fr d :: r, s0 :: ss, ρ, i, s, l, nd, e => by
    unfold putOuts at e
    unfold refs at nd
    rcases putOuts_at (by simpa using l) nd e with ⟨h1, h2⟩ | ⟨j, h1, h2, h3⟩
    · exact .inl ⟨h1, fun j z => by cases j with | zero => simp at z | succ j => exact h2 j (by simpa using z)⟩
    · exact .inr ⟨j + 1, by simpa using h1, by simpa using h2, h3⟩
  | .rf k :: r, s0 :: ss, ρ, i, s, l, nd, e => by
    unfold putOuts at e
    unfold refs nodupN at nd
    obtain ⟨nk, nd⟩ := Bool.and_eq_true_iff.mp nd
    have nk : k ∉ refs r := by simpa using nk
    have ow_ne : k ≠ i → owAt (if owAt ρ k = true then ρ.set k s0 else ρ) i = owAt ρ i := fun n => by
      split
      · unfold owAt; rw [List.getElem?_set_ne n]
      · rfl
    have at_ne : k ≠ i → (if owAt ρ k = true then ρ.set k s0 else ρ)[i]? = ρ[i]? := fun n => by
      split
      · rw [List.getElem?_set_ne n]
      · rfl
    rcases putOuts_at (by simpa using l) nd e with ⟨h1, h2⟩ | ⟨j, h1, h2, h3⟩
    · by_cases n : k = i
      · subst n
        by_cases w : owAt ρ k = true
        · rw [if_pos w] at h1
          obtain ⟨s1, d1, q, _⟩ := owAt_held w
          have hi : k < ρ.length := (List.getElem?_eq_some_iff.mp q).1
          rw [List.getElem?_set_self hi] at h1
          cases h1
          exact .inr ⟨0, rfl, rfl, w⟩
        · rw [if_neg w] at h1
          exact .inl ⟨h1, fun _ _ => by simpa using w⟩
      · rw [at_ne n] at h1
        refine .inl ⟨h1, fun j z => ?_⟩
        cases j with
        | zero => simp at z; exact absurd z n
        | succ j => rw [← ow_ne n]; exact h2 j (by simpa using z)
    · have n : k ≠ i := fun z => nk (z ▸ refs_mem h1)
      exact .inr ⟨j + 1, by simpa using h1, by simpa using h2, by rw [← ow_ne n]; exact h3⟩

section
variable {K : PySem.W.Frag} {XC : String → Addr} {W : WX} {σ : St} {U U' U1 U2 : Addr → Prop} {H H' H1 H2 H0 : Hp} {ρ ρ' ρ1 ρ2 : Rho} {as : List A} {vs : List V}
theorem RAs.len : ∀ {as : List A} {vs : List V}, RAs K U H σ H0 as vs → vs.length = as.length
  | [], _, h => by cases (show _ = [] from h); rfl
  | a :: l, _, h => by
    obtain ⟨v, vr, rfl, _, rs, _⟩ := h
    simp [RAs.len rs]
theorem RAs.get : ∀ {as : List A} {vs : List V} {j : Nat} {a : A}, RAs K U H σ H0 as vs → as[j]? = some a → ∃ v, vs[j]? = some v ∧ RA K U H σ H0 a v
  | [], _, _, _, _, e => by simp at e
  | a :: l, _, 0, b, h, e => by
    obtain ⟨v, vr, rfl, ra, rs, _⟩ := h
    simp at e; subst e
    exact ⟨v, rfl, ra⟩
  | a :: l, _, j + 1, b, h, e => by
    obtain ⟨v, vr, rfl, ra, rs, _⟩ := h
    simpa using RAs.get (j := j) rs (by simpa using e)
theorem RAs.frfr : ∀ {as : List A} {vs : List V} {i j : Nat} {d d' : D} {v : V}, RAs K U H σ H0 as vs → as[i]? = some (A.fr d) → as[j]? = some (A.fr d') → vs[i]? = some v → vs[j]? = some v → i = j
  | [], _, _, _, _, _, _, _, e, _, _, _ => by simp at e
  | a :: l, _, 0, 0, _, _, _, _, _, _, _, _ => rfl
  | a :: l, _, 0, j + 1, d, d', v, h, e, e', q, q' => by
    obtain ⟨w, vr, rfl, ra, rs, z⟩ := h
    simp at e q; subst e; subst q
    exact absurd (by simpa using q') (z d rfl j d' (by simpa using e'))
  | a :: l, _, i + 1, 0, d, d', v, h, e, e', q, q' => by
    obtain ⟨w, vr, rfl, ra, rs, z⟩ := h
    simp at e' q'; subst e'; subst q'
    exact absurd (by simpa using q) (z d' rfl i d (by simpa using e))
  | a :: l, _, i + 1, j + 1, d, d', v, h, e, e', q, q' => by
    obtain ⟨w, vr, rfl, ra, rs, z⟩ := h
    rw [RAs.frfr (i := i) (j := j) rs (by simpa using e) (by simpa using e') (by simpa using q) (by simpa using q')]
theorem slsOf_at : ∀ {as : List A} {ss : Rho} {ρ2 : Rho}, slsOf as ρ = .ok ss ρ2 → ρ2 = ρ ∧ ss.length = as.length ∧ ∀ (j : Nat) (s : Sl), ss[j]? = some s → ∃ a, as[j]? = some a ∧ slOf a ρ = .ok s ρ
  | [], ss, ρ2, e => by cases e; exact ⟨rfl, rfl, fun j s z => by simp at z⟩
  | a :: r, ss, ρ2, e => by
    unfold slsOf Iv.bnd at e
    rcases slOf_cases ρ a with ⟨s, e1⟩ | e1
    · rw [e1] at e
      simp only [Iv.bnd] at e
      cases e2 : slsOf r ρ with
      | stuck => rw [e2] at e; cases e
      | exc _ _ _ => rw [e2] at e; cases e
      | ok ss2 ρ3 =>
        rw [e2] at e
        cases e
        obtain ⟨h1, h2, h3⟩ := slsOf_at e2
        subst h1
        refine ⟨rfl, by simp [h2], fun j s' z => ?_⟩
        cases j with
        | zero => simp at z; subst z; exact ⟨a, rfl, e1⟩
        | succ j => simpa using h3 j s' (by simpa using z)
    · rw [e1] at e; cases e
/-- the callee's state -/
theorem R.args (r0 : R EP K U H σ ρ) (a0 : Adv EP K σ U H ρ U2 H2 ρ2) (h : RAs K U2 H2 σ H as vs) (nd : nodupN (refs as) = true) {ss ρ3 : Rho} (e : slsOf as ρ2 = .ok ss ρ3) :
    R noEx K U2 H2 (vs.map some) ss ∧ (∀ b, own (vs.map some) ss b → own σ ρ2 b ∨ H b = none) ∧ (∀ b i, σ[i]? = some (some (V.ref b)) → owAt ρ2 i = true → own (vs.map some) ss b → ∃ j : Nat, as[j]? = some (A.rf i)) := by
  obtain ⟨_, hl, hat⟩ := slsOf_at e
  have vat : ∀ {j : Nat} {v : V}, vs[j]? = some v → (vs.map some)[j]? = some (some v) := fun {j v} q => by rw [List.getElem?_map, q]; rfl
  have vat' : ∀ {j : Nat} {v : V}, (vs.map some)[j]? = some (some v) → vs[j]? = some v := fun {j v} q => by
    rw [List.getElem?_map] at q
    cases e : vs[j]? with
    | none => rw [e] at q; cases q
    | some w => rw [e] at q; cases q; rfl
  have slo : ∀ {a : A} {s : Sl}, slOf a ρ2 = .ok s ρ2 → (∃ d, a = .val d ∧ s = .sh d) ∨ (∃ d, a = .fr d ∧ s = .ow d) ∨ (∃ i, a = .rf i ∧ ρ2[i]? = some s) := fun {a s} q => by
    cases a with
    | val d => cases q; exact .inl ⟨d, rfl, rfl⟩
    | fr d => cases q; exact .inr (.inl ⟨d, rfl, rfl⟩)
    | rf i =>
      rcases slOf_rf ρ2 i with ⟨s', z, z2, _⟩ | z
      · rw [z] at q; cases q; exact .inr (.inr ⟨i, rfl, z2⟩)
      · rw [z] at q; cases q
  have how : ∀ {j : Nat} {s : Sl} {d : D}, ss[j]? = some s → held s d → ∃ p, vs[j]? = some (V.ref p) ∧ RO K U2 H2 d p ∧ ((∃ d', as[j]? = some (A.fr d') ∧ H p = none) ∨ ∃ i, as[j]? = some (A.rf i) ∧ ρ2[i]? = some s ∧ σ[i]? = some (some (V.ref p)) ∧ own σ ρ2 p) := fun {j s d} q hd => by
    obtain ⟨a, ha, hs⟩ := hat j s q
    obtain ⟨v, hv, ra⟩ := h.get ha
    rcases slo hs with ⟨d', rfl, rfl⟩ | ⟨d', rfl, rfl⟩ | ⟨i, rfl, z⟩
    · rcases hd with w | w <;> cases w
    · rcases hd with w | w
      · cases w
        obtain ⟨p, rfl, o, n⟩ := ra
        exact ⟨p, hv, o, .inl ⟨d, ha, n⟩⟩
      · cases w
    · obtain ⟨p, hp, o⟩ := a0.r.ow i s d z hd
      have ra : σ[i]? = some (some v) := ra
      rw [ra] at hp; cases hp
      exact ⟨p, hv, o, .inr ⟨i, ha, z, ra, ⟨i, s, d, z, hd, ra⟩⟩⟩
  refine ⟨⟨by simp [hl, h.len], a0.r.trk, fun j d q => ?_, fun j s d q hd => ?_, fun a b s s' d d' p ea ha eb hb qa qb => ?_, fun j c fs q => ?_⟩, fun b z => ?_, fun b i hi how' z => ?_⟩
  · obtain ⟨a, ha, hs⟩ := hat j _ q
    obtain ⟨v, hv, ra⟩ := h.get ha
    rcases slo hs with ⟨d', rfl, w⟩ | ⟨d', rfl, w⟩ | ⟨i, rfl, z⟩
    · cases w; exact ⟨v, vat hv, ra⟩
    · cases w
    · obtain ⟨w, hw, rr⟩ := a0.r.sh i d z
      have ra : σ[i]? = some (some v) := ra
      rw [ra] at hw; cases hw
      exact ⟨v, vat hv, rr⟩
  · obtain ⟨p, hv, o, _⟩ := how q hd
    exact ⟨p, vat hv, o⟩
  · obtain ⟨p1, hv1, o1, c1⟩ := how ea ha
    obtain ⟨p2, hv2, o2, c2⟩ := how eb hb
    have x1 := vat' qa
    have x2 := vat' qb
    rw [hv1] at x1; cases x1
    rw [hv2] at x2; cases x2
    rcases c1 with ⟨d1, w1, n1⟩ | ⟨i1, w1, z1, g1, y1⟩
    · rcases c2 with ⟨d2, w2, n2⟩ | ⟨i2, w2, z2, g2, y2⟩
      · exact h.frfr w1 w2 hv1 hv2
      · obtain ⟨o, w⟩ := r0.ownS (a0.sub _ y2); rw [n1] at w; cases w
    · rcases c2 with ⟨d2, w2, n2⟩ | ⟨i2, w2, z2, g2, y2⟩
      · obtain ⟨o, w⟩ := r0.ownS (a0.sub _ y1); rw [n2] at w; cases w
      · have ei := a0.r.dis i1 i2 s s' d d' _ z1 ha z2 hb g1 g2
        subst ei
        -- the same slot twice: refs are distinct
        have key : ∀ (as : List A) (a b i : Nat), nodupN (refs as) = true → as[a]? = some (A.rf i) → as[b]? = some (A.rf i) → a = b := by
          intro as
          induction as with
          | nil => intro a b i _ e; simp at e
          | cons x l ih =>
            intro a b i nd e e'
            cases a with
            | zero =>
              cases b with
              | zero => rfl
              | succ b =>
                simp at e; subst e
                unfold refs nodupN at nd
                have nk := (Bool.and_eq_true_iff.mp nd).1
                exact absurd (refs_mem (as := l) (j := b) (by simpa using e')) (by simpa using nk)
            | succ a =>
              cases b with
              | zero =>
                simp at e'; subst e'
                unfold refs nodupN at nd
                have nk := (Bool.and_eq_true_iff.mp nd).1
                exact absurd (refs_mem (as := l) (j := a) (by simpa using e)) (by simpa using nk)
              | succ b =>
                have nd2 : nodupN (refs l) = true := by
                  cases x with
                  | rf k => unfold refs nodupN at nd; exact (Bool.and_eq_true_iff.mp nd).2
                  | val _ => unfold refs at nd; exact nd
                  | fr _ => unfold refs at nd; exact nd
                rw [ih a b i nd2 (by simpa using e) (by simpa using e')]
        exact key as a b i1 nd w1 w2
  · obtain ⟨a, ha, hs⟩ := hat j _ q
    cases a with
    | val d => cases hs
    | fr d => cases hs
    | rf i =>
      rcases slOf_rf ρ2 i with ⟨s', z, z2, z3⟩ | z
      · rw [z] at hs; cases hs; exact absurd rfl (z3 c fs)
      · rw [z] at hs; cases hs
  · obtain ⟨j, s, d, q, hd, w⟩ := z
    obtain ⟨p, hv, o, c⟩ := how q hd
    have x := vat' w
    rw [hv] at x; cases x
    rcases c with ⟨d', _, n⟩ | ⟨i, _, _, _, y⟩
    · exact .inr n
    · exact .inl y
  · obtain ⟨j, s, d, q, hd, w⟩ := z
    obtain ⟨p, hv, o, c⟩ := how q hd
    have x := vat' w
    rw [hv] at x; cases x
    obtain ⟨s0, d0, e0, h0⟩ := owAt_held how'
    rcases c with ⟨d', _, n⟩ | ⟨i', w', z', g', y⟩
    · obtain ⟨o, w⟩ := r0.ownS (a0.sub _ ⟨i, s0, d0, e0, h0, hi⟩); rw [n] at w; cases w
    · have := a0.r.dis i i' s0 s d0 d b e0 h0 z' hd hi g'
      subst this
      exact ⟨j, w'⟩
/-- behind the call -/
theorem Adv.call (r0 : R EP K U H σ ρ) (a0 : Adv EP K σ U H ρ U2 H2 ρ2) (h : RAs K U2 H2 σ H as vs) (nd : nodupN (refs as) = true) {ss ρ3 outs : Rho} (e : slsOf as ρ2 = .ok ss ρ3)
    (b : Adv noEx K (vs.map some) U2 H2 ss U' H' outs) : Adv EP K σ U H ρ U' H' (putOuts as outs ρ2) := by
  obtain ⟨ra, sub, pass⟩ := R.args r0 a0 h nd e
  have hl : as.length = outs.length := by rw [b.r.len, List.length_map, h.len]
  have kp := Adv.kp (EP := noEx) ra b
  have hheld : ∀ {i : Nat} {s : Sl} {d : D}, (putOuts as outs ρ2)[i]? = some s → held s d → ∃ s0 d0, ρ2[i]? = some s0 ∧ held s0 d0 := fun {i s d} q hd => by
    rcases putOuts_at hl nd q with ⟨h1, _⟩ | ⟨j, _, _, h3⟩
    · exact ⟨s, d, h1, hd⟩
    · exact owAt_held h3
  refine ⟨a0.st.trans b.st fun c z => (sub c z).imp (a0.sub c) id, ⟨by rw [putOuts_len]; exact a0.r.len, b.r.trk, fun i d q => ?_, fun i s d q hd => ?_, fun i j s s' d d' p ea ha eb hb qa qb => ?_, fun i c fs q => ?_⟩, fun i z => ?_, fun i s z hf => ?_⟩
  · rcases putOuts_at hl nd q with ⟨h1, _⟩ | ⟨j, h1, h2, h3⟩
    · obtain ⟨v, hv, rr⟩ := a0.r.sh i d h1
      exact ⟨v, hv, RD.mono kp d v rr⟩
    · obtain ⟨v, hv, rr⟩ := h.get h1
      obtain ⟨v', hv', r2⟩ := b.r.sh j d h2
      rw [List.getElem?_map, hv] at hv'
      cases hv'
      exact ⟨v, rr, r2⟩
  · rcases putOuts_at hl nd q with ⟨h1, h2⟩ | ⟨j, h1, h2, h3⟩
    · obtain ⟨p, hp, o⟩ := a0.r.ow i s d h1 hd
      refine ⟨p, hp, o.mono b.st kp fun z => ?_⟩
      obtain ⟨j, hj⟩ := pass p i hp (held_owAt h1 hd) z
      rw [held_owAt h1 hd] at h2
      exact absurd (h2 j hj) (by simp)
    · obtain ⟨v, hv, rr⟩ := h.get h1
      obtain ⟨p, hp, o⟩ := b.r.ow j s d h2 hd
      rw [List.getElem?_map, hv] at hp
      cases hp
      exact ⟨p, rr, o⟩
  · obtain ⟨s0, d0, e0, h0⟩ := hheld ea ha
    obtain ⟨s1, d1, e1, h1⟩ := hheld eb hb
    exact a0.r.dis i j s0 s1 d0 d1 p e0 h0 e1 h1 qa qb
  · rcases putOuts_at hl nd q with ⟨h1, _⟩ | ⟨j, h1, h2, h3⟩
    · exact a0.r.ex i c fs h1
    · obtain ⟨_, _, z⟩ := b.r.ex j c fs h2
      exact z.elim
  · obtain ⟨s, d, q, hd⟩ := owAt_held z
    obtain ⟨s0, d0, e0, h0⟩ := hheld q hd
    exact a0.so i (held_owAt e0 h0)
  · have z2 := a0.fx i s z hf
    have hi : i < (putOuts as outs ρ2).length := by rw [putOuts_len]; exact (List.getElem?_eq_some_iff.mp z2).1
    have q : (putOuts as outs ρ2)[i]? = some ((putOuts as outs ρ2)[i]'hi) := by simp
    rcases putOuts_at hl nd q with ⟨h1, _⟩ | ⟨j, h1, h2, h3⟩
    · rw [z2] at h1; rw [q, ← h1]
    · obtain ⟨_, hl2, hat⟩ := slsOf_at e
      have hj : j < ss.length := by rw [hl2]; exact (List.getElem?_eq_some_iff.mp h1).1
      have q2 : ss[j]? = some (ss[j]'hj) := by simp
      obtain ⟨a, ha, hs⟩ := hat j _ q2
      rw [h1] at ha; cases ha
      rcases slOf_rf ρ2 i with ⟨s', w, w2, _⟩ | w
      · rw [w] at hs
        have es : s' = ss[j] := by cases hs; rfl
        rw [z2] at w2; cases w2
        have q3 := b.fx j s (by rw [q2, es]) hf
        rw [h2] at q3
        rw [q]; exact q3
      · rw [w] at hs; cases hs
theorem RA.out {σ' : St} {a : A} {v : V} (n : ∀ i, a ≠ .rf i) (h : RA K U H σ H0 a v) : RA K U H σ' H0 a v := by
  cases a with
  | val d => exact h
  | fr d => exact h
  | rf i => exact absurd rfl (n i)
/-- a call of the module's own function, by contents -/
theorem callM_sp {Φ : String → Rho → COut} {f : String} {Q : VK} (r0 : R EP K U H σ ρ) (a0 : Adv EP K σ U H ρ U2 H2 ρ2) (h : RAs K U2 H2 σ H as vs)
    (o : OutOk EP K XC W σ U H ρ (callM Φ f as ρ2) fun a U' H' _ => ∀ v, RA K U' H' σ H a v → Q v H') : spF K XC Φ f vs H2 Q (L2.WE W σ) := by
  unfold callM at o
  obtain ⟨nd, o1⟩ := OutOk.grd o
  clear o
  have o := o1
  clear o1
  unfold Iv.bnd at o
  cases e : slsOf as ρ2 with
  | stuck => rw [e] at o; exact o.elim
  | exc c fs ρ3 =>
    exfalso
    clear o
    have : ∀ (as : List A) (c : String) (fs : List (String × D)) (ρ3 : Rho), slsOf as ρ2 ≠ .exc c fs ρ3 := by
      intro as
      induction as with
      | nil => intro c fs ρ3 z; cases z
      | cons a l ih =>
        intro c fs ρ3 z
        unfold slsOf Iv.bnd at z
        rcases slOf_cases ρ2 a with ⟨s, e1⟩ | e1
        · rw [e1] at z
          simp only [Iv.bnd] at z
          cases e2 : slsOf l ρ2 with
          | stuck => rw [e2] at z; cases z
          | ok _ _ => rw [e2] at z; cases z
          | exc c' fs' ρ' => exact ih c' fs' ρ' e2
        · rw [e1] at z; cases z
    exact this as c fs ρ3 e
  | ok ss ρ3 =>
    rw [e] at o
    obtain ⟨e3, _, _⟩ := slsOf_at e
    subst e3
    refine ⟨ss, U2, (R.args r0 a0 h nd e).1, ?_⟩
    have o : OutOk EP K XC W σ U H ρ (match Φ f ss with
      | .ok (.rf _) _ => .stuck
      | .ok a outs => .ok a (putOuts as outs ρ3)
      | .exc c fs outs => .exc c fs (putOuts as outs ρ3)
      | .stuck => .stuck) (fun a U' H' _ => ∀ v, RA K U' H' σ H a v → Q v H') := o
    unfold COk
    cases ee : Φ f ss with
    | stuck => rw [ee] at o; exact o
    | exc c fs outs =>
      rw [ee] at o
      exact fun U' H' cls d b rx => o U' H' cls d (Adv.call r0 a0 h nd e b) rx
    | ok a outs =>
      rw [ee] at o
      cases a with
      | rf i => exact o.elim
      | val d => exact fun U' H' b v rv => o U' H' (Adv.call r0 a0 h nd e b) v (RA.back a0 (RA.out (fun i z => by cases z) rv))
      | fr d => exact fun U' H' b v rv => o U' H' (Adv.call r0 a0 h nd e b) v (RA.back a0 (RA.out (fun i z => by cases z) rv))
end
end Iv

set_option linter.all false
set_option maxRecDepth 100000
set_option autoImplicit false
set_option Elab.async false
set_option maxHeartbeats 4000000
/-! Iv, part 11: an expression of the text does what its compiled term says. -/
namespace Iv
open PySem (Str Addr Value Obj Heap World Program Expr Stmt Scope Pos Shared Tok NameKind Operator CmpOp PyData)
open L2 (V Hp HO St upd SqL SqT Rd RelV Vals VK TE TT TA TS Cx Inv PE PT PA PS PSs upd_same upd_ne WX Takes Sp XK OpR CallR IxR R2 Dp DpAll)
variable {EP : ExPin}

section
variable {K : PySem.W.Frag} {XC : String → Addr} {W : WX} {σ : St} {U U' U1 U2 : Addr → Prop} {H H' H1 H2 H0 : Hp} {ρ ρ' ρ1 ρ2 : Rho} {Q : VK}
/-- a computation that ends at once -/
theorem tM_ret {a : A} (h : tM EP K XC W (ret a) σ H Q) : ∃ (ρ : Rho) (U : Addr → Prop), R EP K U H σ ρ ∧ ∀ v, RA K U H σ H a v → Q v H := by
  obtain ⟨ρ, U, r, o⟩ := h
  exact ⟨ρ, U, r, o U H (Adv.refl r)⟩
theorem tM_dlv {a : A} (h : tM EP K XC W (ret a) σ H Q) : ∃ (U : Addr → Prop), (∀ b, U b → ∃ o, H b = some o) ∧ Dlv K U H a Q := by
  obtain ⟨ρ, U, r, o⟩ := h
  exact ⟨U, r.trk, OutOk.dlv (Adv.refl r) o⟩
theorem tM_var {i : Nat} (h : tM EP K XC W (getv i) σ H Q) : L2.tVar i σ H Q := by
  obtain ⟨ρ, U, r, o⟩ := h
  unfold getv Iv.bnd slot at o
  cases e : ρ[i]? with
  | none => rw [e] at o; exact o.elim
  | some s =>
    rw [e] at o
    cases s with
    | no => exact o.elim
    | ex _ _ => exact o.elim
    | sh d =>
      obtain ⟨v, hv, rr⟩ := r.sh i d e
      exact ⟨v, hv, o U H (Adv.refl r) v rr⟩
    | ow d =>
      obtain ⟨p, hp, rr⟩ := r.ow i _ d e (.inl rfl)
      exact ⟨_, hp, o U H (Adv.refl r) _ hp⟩
    | lk d =>
      obtain ⟨p, hp, rr⟩ := r.ow i _ d e (.inr rfl)
      exact ⟨_, hp, o U H (Adv.refl r) _ hp⟩
/-- two operands, their contents, then an operation on these -/
theorem tM_bin {ma mb : M A} {f : D → D → Option A} (h : tM EP K XC W (bnd ma fun x => bnd mb fun y => bnd (rd x) fun d => bnd (rd y) fun d' => opt (f d d')) σ H Q) :
    L2.tOp (rD K f) (tM EP K XC W ma) (tM EP K XC W mb) σ H Q := by
  refine two h fun ρ U x y v v' U2 H2 ρ2 r a2 rx ry o => ?_
  obtain ⟨d, c, o⟩ := OutOk.brd a2.r rx o
  obtain ⟨d', c', o⟩ := OutOk.brd a2.r ry o
  obtain ⟨a, e, o⟩ := OutOk.opt o
  exact ⟨U2, d, d', a, a2.r.trk, c, c', e, OutOk.dlv a2 o⟩
theorem tM_cmp {ma mb : M A} {f : D → D → Option Bool} (h : tM EP K XC W (bnd ma fun x => bnd mb fun y => bnd (rd x) fun d => bnd (rd y) fun d' => bnd (opt (f d d')) fun k => ret (.val (.bl k))) σ H Q) :
    L2.tOp (rC K f) (tM EP K XC W ma) (tM EP K XC W mb) σ H Q := by
  refine two h fun ρ U x y v v' U2 H2 ρ2 r a2 rx ry o => ?_
  obtain ⟨d, c, o⟩ := OutOk.brd a2.r rx o
  obtain ⟨d', c', o⟩ := OutOk.brd a2.r ry o
  obtain ⟨k, e, o⟩ := OutOk.bopt o
  exact ⟨U2, d, d', k, c, c', e, (OutOk.dlv a2 o).bl⟩
theorem tM_idx {ma mb : M A} (h : tM EP K XC W (bnd ma fun x => bnd mb fun y => bnd (rd x) fun d => bnd (rd y) fun j => bnd (opt (idxD d j)) fun r => ret (.val r)) σ H Q) :
    L2.tOp (rIx K) (tM EP K XC W ma) (tM EP K XC W mb) σ H Q := by
  refine two h fun ρ U x y v v' U2 H2 ρ2 r a2 rx ry o => ?_
  obtain ⟨d, c, o⟩ := OutOk.brd a2.r rx o
  obtain ⟨d', c', o⟩ := OutOk.brd a2.r ry o
  obtain ⟨k, e, o⟩ := OutOk.bopt o
  exact ⟨U2, d, d', k, c, c', e, fun v rv => (OutOk.dlv a2 o).val rv⟩
/-- truth -/
theorem emp_eq {α β : Type} {a : List α} {b : List β} (h : a.length = b.length) : a.isEmpty = b.isEmpty := by
  cases a <;> cases b <;> simp_all
theorem emp_len (s : Tx) : (((sx s).length : Int) != 0) = !s.isEmpty := by
  rw [sx_len]
  cases s with
  | nil => rfl
  | cons c r =>
    show _ = true
    simp only [bne_iff_ne, ne_eq, List.length_cons]
    omega
theorem truV {d : D} {v : V} {k : Bool} (h : RC K U H d v) (e : truthD d = some k) : L2.TruV K v H k ∨ ∃ (a : Addr) (kvs : List (L2.Key × V)), v = .ref a ∧ Rd H a (.dK kvs) ∧ k = !kvs.isEmpty := by
  unfold truthD at e
  split at e
  · cases e; cases h.non; exact .inl rfl
  · cases e; cases h.bl; exact .inl rfl
  · cases e; cases h.int; exact .inl rfl
  · obtain ⟨e1, rfl⟩ := guardO_some e
    obtain ⟨rfl, _⟩ := h.str
    exact .inl ⟨by rw [sx_len, ← sizeLine_is]; exact of_decide_eq_true e1, (emp_len _).symm⟩
  · cases e
    obtain ⟨a, vs, rfl, s1, r1⟩ := h.tup
    exact .inl (.inr (.inl ⟨vs, s1.sq, by rw [emp_eq r1.len]⟩))
  · cases e
    obtain ⟨a, vs, rfl, s1, r1⟩ := h.lst
    exact .inl (.inl ⟨vs, s1, by rw [emp_eq r1.len]⟩)
  · cases e
    obtain ⟨a, vs, rfl, s1, r1⟩ := h.dct
    exact .inr ⟨a, vs, rfl, s1, by rw [emp_eq r1.len]⟩
  · cases e
  · cases e
end
section
variable {X : Cx}
def rT (K : PySem.W.Frag) (x : V) (H : Hp) (Q : Bool → Hp → Prop) : Prop := ∃ (U : Addr → Prop) (d : D) (k : Bool), RC K U H d x ∧ truthD d = some k ∧ Q k H
theorem tru_D : L2.TruR X (rT X.K) := by
  intro pins s σ H x v Q I rx h
  obtain ⟨U, d, k, c, e, q⟩ := h
  rcases truV c e with z | ⟨a, kvs, rfl, hr, rfl⟩
  · exact L2.tru_ok pins s σ H x v Q I rx ⟨k, z, q⟩
  · cases rx
    obtain ⟨hz, hS, vs, rv, m⟩ := L2.dk_rd I.hok hr
    have hl : kvs.length = vs.length := PySem.Paired.length rv
    have z63 := L2.line63
    exact PySem.wpAny_truthy_dict hS m (by omega) ⟨H, I.tok _, by rw [L2.isEmpty_kv rv]; exact q⟩
theorem pt_rt {a : Expr} {ta : TE} (ha : PE X a ta) (he : ∀ whole, PySem.isTrue a X.env whole = (do let v ← whole; PySem.standAt a.pos; PySem.holding [v] (PySem.truthy v))) :
    PT X a (fun σ H Q => ta σ H fun x H' => rT X.K x H' Q) :=
  ⟨fun pins s σ H Q I h => PyProof.Rows.isTrue_plain (L2.thn (ha.run pins s σ H _ I h) fun v s1 ⟨x, H1, I1, r1, q1⟩ => tru_D pins s1 σ H1 x v Q I1 r1 q1) (he _)⟩
end
/-- a test whose value comes first -/
theorem tB_tst {K : PySem.W.Frag} {XC : String → Addr} {W : WX} {σ : St} {H : Hp} {Q : Bool → Hp → Prop} {m : M A} (h : tB EP K XC W (tst m) σ H Q) : tM EP K XC W m σ H fun x H' => rT K x H' Q := by
  obtain ⟨ρ, U, r, o⟩ := h
  refine ⟨ρ, U, r, (OutOk.seq o (Adv.refl r)).mono fun x U1 H1 ρ1 _ z v rv => ?_⟩
  obtain ⟨a1, o1⟩ := z
  obtain ⟨d, c, o⟩ := OutOk.brd a1.r rv o1
  obtain ⟨k, e, o⟩ := OutOk.opt o
  exact ⟨U1, d, k, c, e, o U1 H1 a1⟩

section
variable {X : Cx} {a b : Expr} {rest : List Expr} {pos : Pos} {ta tb : TE}
def tAndD (K : PySem.W.Frag) (ta tb : TE) : TE := fun σ H Q => ta σ H fun x H1 => rT K x H1 fun k H2 => if k = true then tb σ H2 Q else Q x H2
def tOrD (K : PySem.W.Frag) (ta tb : TE) : TE := fun σ H Q => ta σ H fun x H1 => rT K x H1 fun k H2 => if k = true then Q x H2 else tb σ H2 Q
/-- truth, the state told -/
theorem tru_at {pins : List (Addr × Obj)} {σ : St} {H : Hp} {s : Shared} {x : V} {v : Value} {P : Bool → Hp → Prop} {Q : Bool → Shared → Prop} (I : Inv X pins σ H s) (rx : RelV x v) (h : rT X.K x H P)
    (hq : ∀ k s', Inv X pins σ H s' → P k H → Q k s') : PySem.wpAny (PySem.model X.prog X.w) X.A (PySem.truthy v) Q X.xe s := by
  obtain ⟨U, d, k, c, e, p⟩ := h
  refine L2.thn (tru_D pins s σ H x v (fun c' H2 => c' = k ∧ H2 = H) I rx ⟨U, d, k, c, e, rfl, rfl⟩) fun w s2 z => ?_
  obtain ⟨H2, I2, rfl, rfl⟩ := z
  exact hq _ s2 I2 p
theorem pe_andD (ha : PE X a ta) (hb : PE X (.BoolOp .And (b :: rest) pos) tb) : PE X (.BoolOp .And (a :: b :: rest) pos) (tAndD X.K ta tb) := by
  refine ⟨fun pins s σ H Q I h => PyProof.Rows.BoolOp_and (L2.thn (ha.run pins s σ H _ I h) fun v s1 z => ?_)⟩
  obtain ⟨x, H1, I1, r1, q1⟩ := z
  refine tru_at I1 r1 q1 fun k s2 I2 q => ?_
  cases k with
  | true => exact hb.run pins s2 σ H1 Q I2 q
  | false => exact ⟨x, H1, I2, r1, q⟩
theorem pe_orD (ha : PE X a ta) (hb : PE X (.BoolOp .Or (b :: rest) pos) tb) : PE X (.BoolOp .Or (a :: b :: rest) pos) (tOrD X.K ta tb) := by
  refine ⟨fun pins s σ H Q I h => PyProof.Rows.BoolOp_or (L2.thn (ha.run pins s σ H _ I h) fun v s1 z => ?_)⟩
  obtain ⟨x, H1, I1, r1, q1⟩ := z
  refine tru_at I1 r1 q1 fun k s2 I2 q => ?_
  cases k with
  | true => exact ⟨x, H1, I2, r1, q⟩
  | false => exact hb.run pins s2 σ H1 Q I2 q
theorem pe_notD (ha : PE X a ta) : PE X (.UnaryOp .Not a pos) (fun σ H Q => ta σ H fun x H1 => rT X.K x H1 fun k H2 => Q (.bl (!k)) H2) := by
  refine ⟨fun pins s σ H Q I h => PyProof.Rows.UnaryOp_ (L2.thn (ha.run pins s σ H _ I h) fun v s1 z => ?_)⟩
  obtain ⟨x, H1, I1, r1, q1⟩ := z
  exact PyProof.Rows.not_of (tru_at I1 r1 q1 fun k s2 I2 q => ⟨.bl (!k), H1, I2, rfl, q⟩)
theorem pt_ifP {c : Expr} {tc t u : TT} (hc : PT X c tc) (ha : PT X a t) (hb : PT X b u) : PT X (.IfExp c a b pos) (fun σ H Q => tc σ H fun k H1 => if k = true then t σ H1 Q else u σ H1 Q) := by
  refine ⟨fun pins s σ H Q I h => ?_⟩
  show PySem.wpAny _ _ (PySem.isTrue c X.env (PySem.eval c X.env) >>= fun k => if k = true then PySem.isTrue a X.env (PySem.eval a X.env) else PySem.isTrue b X.env (PySem.eval b X.env)) _ _ s
  refine PySem.wpAny_bind (L2.thn (hc.run pins s σ H _ I h) fun k s1 z => ?_)
  obtain ⟨H1, I1, q1⟩ := z
  cases k with
  | true => exact ha.run pins s1 σ H1 Q I1 q1
  | false => exact hb.run pins s1 σ H1 Q I1 q1
theorem pw_pt {op : PySem.BoolOp} {l : List Expr} {t : TT} (h : PT X (.BoolOp op l pos) t) : L2.PW X (.BoolOp op l pos) t :=
  ⟨fun wh pins s σ H Q I q => h.run pins s σ H Q I q⟩
end

theorem bnd_assoc {α β γ : Type} (m : M α) (f : α → M β) (g : β → M γ) : bnd (bnd m f) g = bnd m fun a => bnd (f a) g := by
  funext ρ
  simp only [bnd]
  cases m ρ <;> rfl
theorem rd_cases (x : A) (ρ : Rho) : (∃ d, rd x ρ = .ok d ρ) ∨ rd x ρ = .stuck := by
  cases x with
  | val d => exact .inl ⟨d, rfl⟩
  | fr d => exact .inl ⟨d, rfl⟩
  | rf i =>
    unfold rd
    simp only [bnd, slot]
    cases ρ[i]? with
    | none => exact .inr rfl
    | some s => cases s <;> first | exact .inl ⟨_, rfl⟩ | exact .inr rfl
section
variable {K : PySem.W.Frag} {XC : String → Addr} {W : WX} {σ : St} {H : Hp} {ma mb : M A}
/-- a test's outcome, then two ways -/
theorem tB_split {α : Type} {f : A → Bool → M α} {k : α → (Addr → Prop) → Hp → Rho → Prop} {ρ : Rho} {U : Addr → Prop} (r : R EP K U H σ ρ)
    (o : OutOk EP K XC W σ U H ρ (bnd ma (fun x => bnd (rd x) fun d => bnd (opt (truthD d)) fun b => f x b) ρ) k) :
    OutOk EP K XC W σ U H ρ (tst ma ρ) fun b U1 H1 ρ1 => Adv EP K σ U H ρ U1 H1 ρ1 ∧ ∃ x d, ma ρ = .ok x ρ1 ∧ rd x ρ1 = .ok d ρ1 ∧ truthD d = some b ∧ OutOk EP K XC W σ U H ρ (f x b ρ1) k := by
  unfold tst
  unfold bnd at o ⊢
  cases e : ma ρ with
  | stuck => rw [e] at o; exact o
  | exc c fs ρ1 => rw [e] at o; exact o
  | ok x ρ1 =>
    rw [e] at o
    simp only [bnd] at o ⊢
    rcases rd_cases x ρ1 with ⟨d, e1⟩ | e1
    · rw [e1] at o ⊢
      simp only [opt] at o ⊢
      cases e2 : truthD d with
      | none => rw [e2] at o; exact o
      | some b =>
        rw [e2] at o
        exact fun U1 H1 a => ⟨a, x, d, rfl, e1, e2, o⟩
    · rw [e1] at o ⊢; exact o
theorem tB_and {Q : Bool → Hp → Prop} (h : tB EP K XC W (tst (bnd ma fun x => bnd (rd x) fun d => bnd (opt (truthD d)) fun k => if k = true then mb else ret x)) σ H Q) :
    L2.tAnd (tB EP K XC W (tst ma)) (tB EP K XC W (tst mb)) σ H Q := by
  obtain ⟨ρ, U, r, o⟩ := h
  have o : OutOk EP K XC W σ U H ρ (bnd ma (fun x => bnd (rd x) fun d => bnd (opt (truthD d)) fun k => tst (if k = true then mb else ret x)) ρ) (fun b _ H' _ => Q b H') := by
    have e : tst (bnd ma fun x => bnd (rd x) fun d => bnd (opt (truthD d)) fun k => if k = true then mb else ret x) = bnd ma (fun x => bnd (rd x) fun d => bnd (opt (truthD d)) fun k => tst (if k = true then mb else ret x)) := by
      unfold tst; simp only [bnd_assoc]
    rw [e] at o; exact o
  refine ⟨ρ, U, r, (tB_split r o).mono fun b U1 H1 ρ1 _ z => ?_⟩
  obtain ⟨a1, x, d, e0, e1, e2, o⟩ := z
  cases b with
  | true => exact ⟨ρ1, U1, a1.r, OutOk.back a1 o⟩
  | false =>
    have e3 : tst (ret x) ρ1 = .ok false ρ1 := by
      unfold tst
      simp only [bnd, ret, e1, opt, e2]
    have o : OutOk EP K XC W σ U H ρ (tst (ret x) ρ1) (fun b _ H' _ => Q b H') := o
    rw [e3] at o
    exact o U1 H1 a1
theorem tB_or {Q : Bool → Hp → Prop} (h : tB EP K XC W (tst (bnd ma fun x => bnd (rd x) fun d => bnd (opt (truthD d)) fun k => if k = true then ret x else mb)) σ H Q) :
    L2.tOr (tB EP K XC W (tst ma)) (tB EP K XC W (tst mb)) σ H Q := by
  obtain ⟨ρ, U, r, o⟩ := h
  have o : OutOk EP K XC W σ U H ρ (bnd ma (fun x => bnd (rd x) fun d => bnd (opt (truthD d)) fun k => tst (if k = true then ret x else mb)) ρ) (fun b _ H' _ => Q b H') := by
    have e : tst (bnd ma fun x => bnd (rd x) fun d => bnd (opt (truthD d)) fun k => if k = true then ret x else mb) = bnd ma (fun x => bnd (rd x) fun d => bnd (opt (truthD d)) fun k => tst (if k = true then ret x else mb)) := by
      unfold tst; simp only [bnd_assoc]
    rw [e] at o; exact o
  refine ⟨ρ, U, r, (tB_split r o).mono fun b U1 H1 ρ1 _ z => ?_⟩
  obtain ⟨a1, x, d, e0, e1, e2, o⟩ := z
  cases b with
  | false => exact ⟨ρ1, U1, a1.r, OutOk.back a1 o⟩
  | true =>
    have e3 : tst (ret x) ρ1 = .ok true ρ1 := by
      unfold tst
      simp only [bnd, ret, e1, opt, e2]
    have o : OutOk EP K XC W σ U H ρ (tst (ret x) ρ1) (fun b _ H' _ => Q b H') := o
    rw [e3] at o
    exact o U1 H1 a1
/-- as values -/
theorem tM_and {Q : VK} (h : tM EP K XC W (bnd ma fun x => bnd (rd x) fun d => bnd (opt (truthD d)) fun k => if k = true then mb else ret x) σ H Q) :
    tAndD K (tM EP K XC W ma) (tM EP K XC W mb) σ H Q := by
  obtain ⟨ρ, U, r, o⟩ := h
  refine ⟨ρ, U, r, (OutOk.seq o (Adv.refl r)).mono fun x U1 H1 ρ1 _ z v rv => ?_⟩
  obtain ⟨a1, o1⟩ := z
  obtain ⟨d, c, o⟩ := OutOk.brd a1.r rv o1
  obtain ⟨k, e, o⟩ := OutOk.bopt o
  refine ⟨U1, d, k, c, e, ?_⟩
  cases k with
  | true => exact ⟨ρ1, U1, a1.r, (OutOk.back a1 o).mono fun y U2 H2 ρ2 f g v' rv' => g v' (RA.back a1 rv')⟩
  | false => exact o U1 H1 a1 v rv
theorem tM_or {Q : VK} (h : tM EP K XC W (bnd ma fun x => bnd (rd x) fun d => bnd (opt (truthD d)) fun k => if k = true then ret x else mb) σ H Q) :
    tOrD K (tM EP K XC W ma) (tM EP K XC W mb) σ H Q := by
  obtain ⟨ρ, U, r, o⟩ := h
  refine ⟨ρ, U, r, (OutOk.seq o (Adv.refl r)).mono fun x U1 H1 ρ1 _ z v rv => ?_⟩
  obtain ⟨a1, o1⟩ := z
  obtain ⟨d, c, o⟩ := OutOk.brd a1.r rv o1
  obtain ⟨k, e, o⟩ := OutOk.bopt o
  refine ⟨U1, d, k, c, e, ?_⟩
  cases k with
  | false => exact ⟨ρ1, U1, a1.r, (OutOk.back a1 o).mono fun y U2 H2 ρ2 f g v' rv' => g v' (RA.back a1 rv')⟩
  | true => exact o U1 H1 a1 v rv
theorem tM_not {Q : VK} (h : tM EP K XC W (bnd (tst ma) fun k => ret (.val (.bl (!k)))) σ H Q) : tM EP K XC W ma σ H fun x H1 => rT K x H1 fun k H2 => Q (.bl (!k)) H2 := by
  obtain ⟨ρ, U, r, o⟩ := h
  have e : bnd (tst ma) (fun k => ret (A.val (.bl (!k)))) = bnd ma fun x => bnd (rd x) fun d => bnd (opt (truthD d)) fun k => ret (.val (.bl (!k))) := by
    unfold tst; simp only [bnd_assoc]
  rw [e] at o
  refine ⟨ρ, U, r, (OutOk.seq o (Adv.refl r)).mono fun x U1 H1 ρ1 _ z v rv => ?_⟩
  obtain ⟨a1, o1⟩ := z
  obtain ⟨d, c, o⟩ := OutOk.brd a1.r rv o1
  obtain ⟨k, e, o⟩ := OutOk.bopt o
  exact ⟨U1, d, k, c, e, (OutOk.dlv a1 o).bl⟩
theorem tB_not {Q : Bool → Hp → Prop} (h : tB EP K XC W (tst (bnd (tst ma) fun k => ret (.val (.bl (!k))))) σ H Q) : L2.tNot (tB EP K XC W (tst ma)) σ H Q := by
  obtain ⟨ρ, U, r, o⟩ := h
  refine ⟨ρ, U, r, ?_⟩
  have e : tst (bnd (tst ma) fun k => ret (A.val (.bl (!k)))) ρ = bnd (tst ma) (fun k => ret (!k)) ρ := by
    unfold tst
    simp only [bnd_assoc]
    rfl
  rw [e] at o
  exact (OutOk.seq o (Adv.refl r)).mono fun b U1 H1 ρ1 _ z => z.2 U1 H1 z.1
theorem tM_ite {mc : M A} {Q : VK} (h : tM EP K XC W (bnd (tst mc) fun k => if k = true then ma else mb) σ H Q) : L2.tIf (tB EP K XC W (tst mc)) (tM EP K XC W ma) (tM EP K XC W mb) σ H Q := by
  obtain ⟨ρ, U, r, o⟩ := h
  refine ⟨ρ, U, r, (OutOk.seq o (Adv.refl r)).mono fun k U1 H1 ρ1 _ z => ?_⟩
  obtain ⟨a1, o⟩ := z
  cases k with
  | true => exact ⟨ρ1, U1, a1.r, (OutOk.back a1 o).mono fun y U2 H2 ρ2 f g v' rv' => g v' (RA.back a1 rv')⟩
  | false => exact ⟨ρ1, U1, a1.r, (OutOk.back a1 o).mono fun y U2 H2 ρ2 f g v' rv' => g v' (RA.back a1 rv')⟩
theorem tB_ite {mc : M A} {Q : Bool → Hp → Prop} (h : tB EP K XC W (tst (bnd (tst mc) fun k => if k = true then ma else mb)) σ H Q) :
    tB EP K XC W (tst mc) σ H fun k H1 => if k = true then tB EP K XC W (tst ma) σ H1 Q else tB EP K XC W (tst mb) σ H1 Q := by
  obtain ⟨ρ, U, r, o⟩ := h
  have e : tst (bnd (tst mc) fun k => if k = true then ma else mb) = bnd (tst mc) fun k => tst (if k = true then ma else mb) := bnd_assoc _ _ _
  rw [e] at o
  refine ⟨ρ, U, r, (OutOk.seq o (Adv.refl r)).mono fun k U1 H1 ρ1 _ z => ?_⟩
  obtain ⟨a1, o⟩ := z
  cases k with
  | true => exact ⟨ρ1, U1, a1.r, OutOk.back a1 o⟩
  | false => exact ⟨ρ1, U1, a1.r, OutOk.back a1 o⟩
end
end Iv

set_option linter.all false
set_option maxRecDepth 100000
set_option autoImplicit false
set_option Elab.async false
set_option maxHeartbeats 4000000
/-! Iv, part 12: the remaining readings. -/
namespace Iv
open PySem (Str Addr Value Obj Heap World Program Expr Stmt Scope Pos Shared Tok NameKind Operator CmpOp PyData)
open L2 (V Hp HO St upd SqL SqT Rd RelV Vals VK TE TT TA TS Cx Inv PE PT PA PS PSs upd_same upd_ne WX Takes Sp XK OpR CallR IxR R2 Dp DpAll)
variable {EP : ExPin}

section
variable {K : PySem.W.Frag} {XC : String → Addr} {W : WX} {σ : St} {U U' U1 U2 : Addr → Prop} {H H' H1 H2 H0 : Hp} {ρ ρ' ρ1 ρ2 : Rho} {Q : VK}
theorem tM_tup {m : M (List D)} (h : tM EP K XC W (bnd m fun ds => bnd (grd (decide (ds.length ≤ sizeLine))) fun _ => ret (.val (.tup ds))) σ H Q) : L2.tTup (tS EP K XC W m) σ H Q := by
  obtain ⟨ρ, U, r, o⟩ := h
  refine ⟨ρ, U, r, (OutOk.seq o (Adv.refl r)).mono fun ds U1 H1 ρ1 _ z vs rv => ?_⟩
  obtain ⟨a1, o1⟩ := z
  obtain ⟨e, o2⟩ := OutOk.grd o1
  exact ⟨by rw [rv.len, ← sizeLine_is]; exact of_decide_eq_true e, fun p hp => (OutOk.dlv a1 o2).tup rv hp⟩
theorem tM_lst {m : M (List D)} (h : tM EP K XC W (bnd m fun ds => bnd (grd (decide (ds.length ≤ sizeLine))) fun _ => ret (.fr (.lst ds))) σ H Q) : L2.tLst (tS EP K XC W m) σ H Q := by
  obtain ⟨ρ, U, r, o⟩ := h
  refine ⟨ρ, U, r, (OutOk.seq o (Adv.refl r)).mono fun ds U1 H1 ρ1 _ z vs rv => ?_⟩
  obtain ⟨a1, o1⟩ := z
  obtain ⟨e, o2⟩ := OutOk.grd o1
  exact ⟨by rw [rv.len, ← sizeLine_is]; exact of_decide_eq_true e, fun p hp => (OutOk.dlv a1 o2).lst rv hp (a1.r.notU hp)⟩
theorem tM_dct0 (h : tM EP K XC W (ret (.fr (.dct []))) σ H Q) : L2.tDNewK σ H Q := by
  obtain ⟨ρ, U, r, o⟩ := h
  intro p hp
  refine OutOk.dlv (Adv.refl r) o _ _ (.inr ⟨p, _, hp, rfl⟩) ⟨p, rfl, ?_, hp⟩
  unfold RO
  exact ⟨r.notU hp, [], upd_same, by unfold RK; rfl⟩
theorem tM_dctN (h : tM EP K XC W (ret (.fr (.dtn []))) σ H Q) : L2.tDNewT σ H Q := by
  obtain ⟨ρ, U, r, o⟩ := h
  intro p hp
  refine OutOk.dlv (Adv.refl r) o _ _ (.inr ⟨p, _, hp, rfl⟩) ⟨p, rfl, ?_, hp⟩
  unfold RO
  exact ⟨r.notU hp, [], upd_same, by unfold RT; rfl⟩
theorem tM_neg {m : M A} (h : tM EP K XC W (bnd m fun x => bnd (rd x) fun d => match d with | .int i => ret (.val (.int (-i))) | _ => fail) σ H Q) : L2.tUn (L2.rU fun i => .int (-i)) (tM EP K XC W m) σ H Q := by
  obtain ⟨ρ, U, r, o⟩ := h
  refine ⟨ρ, U, r, (OutOk.seq o (Adv.refl r)).mono fun x U1 H1 ρ1 _ z v rv => ?_⟩
  obtain ⟨a1, o1⟩ := z
  obtain ⟨d, c, o⟩ := OutOk.brd a1.r rv o1
  cases d with
  | int i => cases c.int; exact ⟨i, rfl, (OutOk.dlv a1 o).int⟩
  | _ => exact o.elim
theorem tM_chn {ma mb mc : M A} {f g : D → D → Option Bool} (h : tM EP K XC W (bnd ma fun x => bnd mb fun y => bnd (rd x) fun d => bnd (rd y) fun d' => bnd (opt (f d d')) fun k =>
    if k = true then bnd mc fun z => bnd (rd y) fun d' => bnd (rd z) fun e => bnd (opt (g d' e)) fun k' => ret (.val (.bl k')) else ret (.val (.bl false))) σ H Q) :
    L2.tChain (rC K f) (rC K g) (tM EP K XC W ma) (tM EP K XC W mb) (tM EP K XC W mc) σ H Q := by
  refine two h fun ρ U x y v v' U2 H2 ρ2 r a2 rx ry o => ?_
  obtain ⟨d, c, o⟩ := OutOk.brd a2.r rx o
  obtain ⟨d', c', o⟩ := OutOk.brd a2.r ry o
  obtain ⟨k, e, o⟩ := OutOk.bopt o
  refine ⟨U2, d, d', k, c, c', e, k, rfl, ?_⟩
  cases k with
  | false => exact (OutOk.dlv a2 o).bl
  | true =>
    refine ⟨ρ2, U2, a2.r, (OutOk.seq o a2).mono fun z U3 H3 ρ3 _ w v3 rv3 => ?_⟩
    obtain ⟨a3, o3⟩ := w
    have ry3 := RA.mono a2.r a3 (fun b z => r.ownS (a2.sub b z)) ry
    obtain ⟨d2, c2, o3⟩ := OutOk.brd a3.r ry3 o3
    obtain ⟨d3, c3, o3⟩ := OutOk.brd a3.r rv3 o3
    obtain ⟨k', e', o3⟩ := OutOk.bopt o3
    exact ⟨U3, d2, d3, k', c2, c3, e', (OutOk.dlv (a2.trans a3) o3).bl⟩
section
variable (EP) (K) (XC) (W)
def tP (m : M (Option Int)) : L2.TO := fun σ H Q => ∃ (ρ : Rho) (U : Addr → Prop), R EP K U H σ ρ ∧ OutOk EP K XC W σ U H ρ (m ρ) fun o _ H' _ => Q o H'
end
theorem tP_none {Q : Option Int → Hp → Prop} (h : tP EP K XC W (ret none) σ H Q) : L2.tNoPart σ H Q := by
  obtain ⟨ρ, U, r, o⟩ := h
  exact o U H (Adv.refl r)
theorem tP_some {m : M A} {Q : Option Int → Hp → Prop} (h : tP EP K XC W (bnd m fun x => bnd (rd x) fun d => match d with | .int i => ret (some i) | _ => fail) σ H Q) : L2.tPart (tM EP K XC W m) σ H Q := by
  obtain ⟨ρ, U, r, o⟩ := h
  refine ⟨ρ, U, r, (OutOk.seq o (Adv.refl r)).mono fun x U1 H1 ρ1 _ z v rv => ?_⟩
  obtain ⟨a1, o1⟩ := z
  obtain ⟨d, c, o⟩ := OutOk.brd a1.r rv o1
  cases d with
  | int i => cases c.int; exact ⟨i, rfl, o U1 H1 a1⟩
  | _ => exact o.elim
theorem tM_slc {m : M A} {ml mh : M (Option Int)} (h : tM EP K XC W (bnd m fun x => bnd ml fun l => bnd mh fun h => bnd (rd x) fun d => opt (slcD d l h)) σ H Q) :
    L2.tSl (rSl K) (tM EP K XC W m) (tP EP K XC W ml) (tP EP K XC W mh) σ H Q := by
  obtain ⟨ρ, U, r, o⟩ := h
  refine ⟨ρ, U, r, (OutOk.seq o (Adv.refl r)).mono fun x U1 H1 ρ1 _ z v rv => ?_⟩
  obtain ⟨a1, o1⟩ := z
  refine ⟨ρ1, U1, a1.r, (OutOk.seq o1 a1).mono fun l U2 H2 ρ2 _ z => ?_⟩
  obtain ⟨a2, o2⟩ := z
  refine ⟨ρ2, U2, a2.r, (OutOk.seq o2 (a1.trans a2)).mono fun u U3 H3 ρ3 _ z => ?_⟩
  obtain ⟨a3, o3⟩ := z
  have a := (a1.trans a2).trans a3
  have rv3 := RA.mono a1.r (a2.trans a3) (fun b z => r.ownS (a1.sub b z)) rv
  obtain ⟨d, c, o3⟩ := OutOk.brd a3.r rv3 o3
  obtain ⟨k, e, o3⟩ := OutOk.opt o3
  exact ⟨U3, d, k, a3.r.trk, c, e, OutOk.dlv a o3⟩
theorem tM_bi {m : M (List A)} {f : String} (h : tM EP K XC W (bnd m fun as => bnd (rdL as) fun ds => opt (biD f ds)) σ H Q) : L2.tCB (rB K f) (tA EP K XC W m) σ H Q := by
  obtain ⟨ρ, U, r, o⟩ := h
  refine ⟨ρ, U, r, (OutOk.seq o (Adv.refl r)).mono fun as U1 H1 ρ1 _ z vs rv => ?_⟩
  obtain ⟨a1, o1⟩ := z
  obtain ⟨ds, c, o⟩ := OutOk.brdL a1.r rv o1
  obtain ⟨k, e, o⟩ := OutOk.opt o
  exact ⟨U1, ds, k, a1.r.trk, c, e, OutOk.dlv a1 o⟩
theorem tM_call {m : M (List A)} {Φ : String → Rho → COut} {f : String} (h : tM EP K XC W (bnd m fun as => callM Φ f as) σ H Q) : L2.tCallS (spF K XC Φ f) (L2.WE W) (tA EP K XC W m) σ H Q := by
  obtain ⟨ρ, U, r, o⟩ := h
  refine ⟨ρ, U, r, (OutOk.seq o (Adv.refl r)).mono fun as U1 H1 ρ1 _ z vs rv => ?_⟩
  obtain ⟨a1, o1⟩ := z
  exact callM_sp r a1 rv o1
theorem RAs.app (r : R EP K U H σ ρ) (a1 : Adv EP K σ U H ρ U1 H1 ρ1) (a2 : Adv EP K σ U1 H1 ρ1 U2 H2 ρ2) : ∀ {as : List A} {vs : List V} {bs : List A} {ws : List V}, RAs K U1 H1 σ H as vs → RAs K U2 H2 σ H1 bs ws → RAs K U2 H2 σ H (as ++ bs) (vs ++ ws)
  | [], _, bs, ws, h, q => by cases (show _ = [] from h); exact RAs.back a1 q
  | a :: l, _, bs, ws, h, q => by
    obtain ⟨v, vr, rfl, ra, rs, z⟩ := h
    refine ⟨v, vr ++ ws, rfl, RA.mono a1.r a2 (fun b z => r.ownS (a1.sub b z)) ra, RAs.app r a1 a2 rs q, fun d e j d' ej => ?_⟩
    subst e
    have ej : (l ++ bs)[j]? = some (A.fr d') := ej
    by_cases hj : j < l.length
    · rw [List.getElem?_append_left hj] at ej
      rw [List.getElem?_append_left (by rw [rs.len]; exact hj)]
      exact z d rfl j d' ej
    · rw [List.getElem?_append_right (by omega)] at ej
      rw [List.getElem?_append_right (by rw [rs.len]; omega), rs.len]
      obtain ⟨p', e', n'⟩ := RAs.fresh q _ d' ej
      rw [e']
      intro w
      cases w
      obtain ⟨p, e, o, _⟩ := ra
      cases e
      obtain ⟨o', w⟩ := o.there
      rw [n'] at w; cases w
theorem RAs.of : ∀ {as : List A} {vs : List V}, vs.length = as.length → (∀ (j : Nat) (a : A) (v : V), as[j]? = some a → vs[j]? = some v → RA K U H σ H0 a v) →
    (∀ (i j : Nat) (d d' : D) (v : V), as[i]? = some (A.fr d) → as[j]? = some (A.fr d') → vs[i]? = some v → vs[j]? = some v → i = j) → RAs K U H σ H0 as vs
  | [], vs, hl, _, _ => List.length_eq_zero_iff.mp hl
  | a :: l, [], hl, _, _ => by simp at hl
  | a :: l, v :: vr, hl, h, hd => by
    refine ⟨v, vr, rfl, h 0 a v rfl rfl, RAs.of (by simpa using hl) (fun j b w e q => h (j + 1) b w (by simpa using e) (by simpa using q)) (fun i j d d' w e e' q q' => ?_), fun d e j d' ej z => ?_⟩
    · have := hd (i + 1) (j + 1) d d' w (by simpa using e) (by simpa using e') (by simpa using q) (by simpa using q')
      omega
    · subst e
      have := hd 0 (j + 1) d d' v rfl (by simpa using ej) rfl (by simpa using z)
      omega
theorem pickL_at {α : Type} : ∀ {pm : List Nat} {l : List α} (h : pm.all (fun i => decide (i < l.length)) = true), (pickL pm l).length = pm.length ∧ ∀ (j : Nat) (a : α), (pickL pm l)[j]? = some a → ∃ i, pm[j]? = some i ∧ l[i]? = some a
  | [], l, _ => ⟨rfl, fun j a e => by simp [pickL] at e⟩
  | i :: pm, l, h => by
    simp only [List.all_cons, Bool.and_eq_true, decide_eq_true_eq] at h
    obtain ⟨h1, h2⟩ := pickL_at (pm := pm) (l := l) h.2
    have hi : l[i]? = some (l[i]'h.1) := by simp [h.1]
    unfold pickL
    rw [hi]
    refine ⟨by simp [h1], fun j a e => ?_⟩
    cases j with
    | zero => simp at e; subst e; exact ⟨i, rfl, hi⟩
    | succ j => simpa using h2 j a (by simpa using e)
theorem pickL_rel {α β : Type} : ∀ {pm : List Nat} {l : List α} {m : List β}, l.length = m.length → (pickL pm l).length = (pickL pm m).length
  | [], _, _, _ => rfl
  | i :: pm, l, m, h => by
    unfold pickL
    by_cases hi : i < l.length
    · have h1 : l[i]? = some (l[i]'hi) := by simp [hi]
      have h2 : m[i]? = some (m[i]'(h ▸ hi)) := by simp
      rw [h1, h2]
      simp [pickL_rel (pm := pm) h]
    · have h1 : l[i]? = none := List.getElem?_eq_none (by omega)
      have h2 : m[i]? = none := List.getElem?_eq_none (by omega)
      rw [h1, h2]
      exact pickL_rel (pm := pm) h
theorem nodupN_iff : ∀ {l : List Nat} {i j k : Nat}, nodupN l = true → l[i]? = some k → l[j]? = some k → i = j
  | [], _, _, _, _, e, _ => by simp at e
  | x :: l, 0, 0, _, _, _, _ => rfl
  | x :: l, 0, j + 1, k, h, e, e' => by
    unfold nodupN at h
    have nk := (Bool.and_eq_true_iff.mp h).1
    simp at e; subst e
    have : x ∈ l := List.mem_of_getElem? (by simpa using e')
    simp [this] at nk
  | x :: l, i + 1, 0, k, h, e, e' => by
    unfold nodupN at h
    have nk := (Bool.and_eq_true_iff.mp h).1
    simp at e'; subst e'
    have : x ∈ l := List.mem_of_getElem? (by simpa using e)
    simp [this] at nk
  | x :: l, i + 1, j + 1, k, h, e, e' => by
    unfold nodupN at h
    rw [nodupN_iff (i := i) (j := j) (Bool.and_eq_true_iff.mp h).2 (by simpa using e) (by simpa using e')]
theorem RAs.pick {as bs : List A} {vs ws : List V} {pm : List Nat} (n : vs.length = as.length) (h : RAs K U H σ H0 (as ++ bs) (vs ++ ws)) (nd : nodupN pm = true) (hp : pm.all (fun i => decide (i < bs.length)) = true) : RAs K U H σ H0 (as ++ pickL pm bs) (vs ++ pickL pm ws) := by
  have hl := h.len
  simp only [List.length_append] at hl
  have hw : ws.length = bs.length := by omega
  have hp' : pm.all (fun i => decide (i < ws.length)) = true := by rw [hw]; exact hp
  obtain ⟨b1, b2⟩ := pickL_at hp
  obtain ⟨w1, w2⟩ := pickL_at hp'
  have src : ∀ (j : Nat) (a : A) (v : V), (as ++ pickL pm bs)[j]? = some a → (vs ++ pickL pm ws)[j]? = some v → ∃ i, (as ++ bs)[i]? = some a ∧ (vs ++ ws)[i]? = some v ∧ (i < as.length → i = j) ∧ (as.length ≤ i → as.length ≤ j ∧ pm[j - as.length]? = some (i - as.length)) := by
    intro j a v e q
    by_cases hj : j < as.length
    · rw [List.getElem?_append_left hj] at e
      rw [List.getElem?_append_left (by omega)] at q
      exact ⟨j, by rw [List.getElem?_append_left hj]; exact e, by rw [List.getElem?_append_left (by omega)]; exact q, fun _ => rfl, fun z => by omega⟩
    · rw [List.getElem?_append_right (by omega)] at e
      rw [List.getElem?_append_right (by omega)] at q
      obtain ⟨i, p1, p2⟩ := b2 _ _ e
      obtain ⟨i', p3, p4⟩ := w2 _ _ q
      rw [n, p1] at p3
      cases p3
      exact ⟨as.length + i, by rw [List.getElem?_append_right (by omega), Nat.add_sub_cancel_left]; exact p2, by rw [List.getElem?_append_right (by omega), n, Nat.add_sub_cancel_left]; exact p4, fun z => by omega, fun _ => ⟨by omega, by rw [Nat.add_sub_cancel_left]; exact p1⟩⟩
  refine RAs.of (by simp only [List.length_append, b1, w1, n]) (fun j a v e q => ?_) (fun i j d d' v e e' q q' => ?_)
  · obtain ⟨i, p1, p2, _⟩ := src j a v e q
    obtain ⟨v', p3, p4⟩ := h.get p1
    rw [p2] at p3; cases p3
    exact p4
  · obtain ⟨i1, p1, p2, p3, p3'⟩ := src i _ v e q
    obtain ⟨i2, p4, p5, p6, p6'⟩ := src j _ v e' q'
    have := h.frfr p1 p4 p2 p5
    subst this
    by_cases hi : i1 < as.length
    · rw [← p3 hi, ← p6 hi]
    · have x1 := p3' (by omega)
      have x2 := p6' (by omega)
      have := nodupN_iff nd x1.2 x2.2
      omega
def tCallN (sp : Sp) (E : St → XK) (pm : List Nat) (t tk : TA) : TE := fun σ H Q => t σ H fun vs H1 => tk σ H1 fun zs H2 => sp (vs ++ pickL pm zs) H2 Q (E σ)
theorem tM_callk {m mk : M (List A)} {Φ : String → Rho → COut} {f : String} {pm : List Nat} (h : tM EP K XC W (bnd m fun as => bnd mk fun bs => bnd (grd (nodupN pm && pm.all fun i => decide (i < bs.length))) fun _ => callM Φ f (as ++ pickL pm bs)) σ H Q) :
    tCallN (spF K XC Φ f) (L2.WE W) pm (tA EP K XC W m) (tA EP K XC W mk) σ H Q := by
  obtain ⟨ρ, U, r, o⟩ := h
  refine ⟨ρ, U, r, (OutOk.seq o (Adv.refl r)).mono fun as U1 H1 ρ1 _ z vs rv => ?_⟩
  obtain ⟨a1, o1⟩ := z
  refine ⟨ρ1, U1, a1.r, (OutOk.seq o1 a1).mono fun bs U2 H2 ρ2 _ z ws rw' => ?_⟩
  obtain ⟨a2, o2⟩ := z
  obtain ⟨e, o3⟩ := OutOk.grd o2
  have e := Bool.and_eq_true_iff.mp e
  exact callM_sp r (a1.trans a2) (RAs.pick rv.len (RAs.app r a1 a2 rv rw') e.1 e.2) o3
theorem tM_gix {m : M A} {l : List (Tx × D)} (h : tM EP K XC W (bnd m fun y => bnd (rd y) fun j => match j with | .str s => bnd (opt ((some l).bind fun l => l.lookup s)) fun d => ret (.val d) | _ => fail) σ H Q) :
    tM EP K XC W m σ H fun y H2 => ∃ (U : Addr → Prop) (s : Tx) (d : D), y = .str (sx s) ∧ l.lookup s = some d ∧ ∀ v, RD K U H2 d v → Q v H2 := by
  obtain ⟨ρ, U, r, o⟩ := h
  refine ⟨ρ, U, r, (OutOk.seq o (Adv.refl r)).mono fun x U1 H1 ρ1 _ z v rv => ?_⟩
  obtain ⟨a1, o1⟩ := z
  obtain ⟨d, c, o⟩ := OutOk.brd a1.r rv o1
  cases d with
  | str s =>
    obtain ⟨rfl, _⟩ := c.str
    obtain ⟨d, e, o⟩ := OutOk.bopt o
    exact ⟨U1, s, d, rfl, e, fun v rv => (OutOk.dlv a1 o).val rv⟩
  | _ => exact o.elim
/-- types -/
theorem rC_ty {d : D} {v : V} (h : RC K U H d v) : ∃ T, tyNames d = T :: (tyNames d).tail ∧ L2.TyX K H v (.type T) := by
  cases d with
  | non => cases h.non; exact ⟨_, rfl, .base .non⟩
  | bl b => cases h.bl; exact ⟨_, rfl, .base (.bl b)⟩
  | int i => cases h.int; exact ⟨_, rfl, .base (.int i)⟩
  | str s => obtain ⟨rfl, _⟩ := h.str; exact ⟨_, rfl, .base (.str _)⟩
  | tup l =>
    obtain ⟨a, vs, rfl, s, r⟩ := h.tup
    rcases s.sq with (z | ⟨o, z⟩) | ⟨o, its, n, e, c, _⟩
    · exact ⟨_, rfl, .base (.tup z)⟩
    · exact ⟨_, rfl, .fTuple z⟩
    · exact ⟨_, rfl, .kTuple e c⟩
  | lst l =>
    obtain ⟨a, vs, rfl, s, r⟩ := h.lst
    rcases s with (z | ⟨o, z⟩) | ⟨o, its, n, e, c, _⟩
    · exact ⟨_, rfl, .base (.lst z)⟩
    · exact ⟨_, rfl, .base (.frz z)⟩
    · exact ⟨_, rfl, .kList e c⟩
  | dct l =>
    obtain ⟨a, kvs, rfl, (z | ⟨o, z⟩), r⟩ := h.dct
    · exact ⟨_, rfl, .base (.dK z)⟩
    · exact ⟨_, rfl, .fDict z⟩
  | set l => exact h.set.elim
  | dtn l =>
    obtain ⟨a, kvs, rfl, z, r⟩ := h.dtn
    exact ⟨_, rfl, .base (.dT z)⟩
theorem kit_isi {d : D} {T t : String} (e : tyNames d = T :: (tyNames d).tail) (ht : isiTy t = true) : PySem.W.kitOne K (.type T) (.type t) = some (isiD d [t]) := by
  have hb : ∀ T ∈ (["NoneType", "bool", "int", "str", "tuple", "list", "dict", "set"] : List String), ∀ t ∈ (["int", "bool", "str", "tuple", "list", "dict"] : List String), L2.kitB T t = some ((if T = "bool" then ["bool", "int"] else [T]).contains t) := by decide +kernel
  have ht2 : t ∈ (["int", "bool", "str", "tuple", "list", "dict"] : List String) := by simpa [isiTy] using ht
  have key : T ∈ (["NoneType", "bool", "int", "str", "tuple", "list", "dict", "set"] : List String) ∧ tyNames d = (if T = "bool" then ["bool", "int"] else [T]) := by
    cases d <;> (simp only [tyNames, List.cons.injEq, List.tail_cons, and_true] at e; subst e; exact ⟨by decide, rfl⟩)
  refine L2.kit_ty ?_
  rw [hb T key.1 t ht2, ← key.2]
  simp [isiD]
theorem tM_isi {m : M A} {t : String} (ht : isiTy t = true) (h : tM EP K XC W (bnd m fun x => bnd (rd x) fun d => ret (.val (.bl (isiD d [t])))) σ H Q) : L2.tCB (L2.rIsi K) (L2.tCons (tM EP K XC W m) (L2.tCons (L2.tC (.ty t)) L2.tNil)) σ H Q := by
  obtain ⟨ρ, U, r, o⟩ := h
  refine ⟨ρ, U, r, (OutOk.seq o (Adv.refl r)).mono fun x U1 H1 ρ1 _ z v rv => ?_⟩
  obtain ⟨a1, o1⟩ := z
  obtain ⟨d, c, o⟩ := OutOk.brd a1.r rv o1
  obtain ⟨T, e, ty⟩ := rC_ty c
  exact ⟨v, .ty t, _, _, _, rfl, .ty t, ty, kit_isi e ht, (OutOk.dlv a1 o).bl⟩
end
end Iv

set_option linter.all false
set_option maxRecDepth 100000
set_option autoImplicit false
set_option Elab.async false
set_option maxHeartbeats 4000000
/-! Iv, part 13: expressions. -/
namespace Iv
open PySem (Str Addr Value Obj Heap World Program Expr Stmt Scope Pos Shared Tok NameKind Operator CmpOp PyData)
open L2 (V Hp HO St upd SqL SqT Rd RelV Vals VK TE TT TA TS Cx Inv PE PT PA PS PSs upd_same upd_ne WX Takes Sp XK OpR CallR IxR R2 Dp DpAll)
variable {EP : ExPin}

theorem nm_eq {x : Str} {s : String} (h : nmIs x s = true) : x = Str.ofString s := by
  unfold nmIs at h
  exact beq_iff_eq.mp h
theorem vis_of {sc : Scope} {x : Str} (h : visB sc x = true) : L2.Vis sc x := by
  unfold visB at h
  unfold L2.Vis
  split at h
  · rename_i e; exact .inl e
  · rename_i e; exact .inr (.inl e)
  · rename_i e; exact .inr (.inr e)
  · cases h
theorem glb_of {X : Cx} {sc : Scope} {x : Str} (hs : X.env.scope = sc) (h : glbB sc x = true) : L2.Gl X x ∧ (x == ("__debug__" : Str)) = false ∧ x ≠ ("__name__" : Str) := by
  unfold glbB at h
  simp only [Bool.and_eq_true, Bool.not_eq_true', Bool.not_eq_false'] at h
  obtain ⟨⟨h1, h2⟩, h3⟩ := h
  refine ⟨?_, by simpa using h2, fun e => by subst e; simp at h3⟩
  subst hs
  show X.env.scope.names.lookup x = _
  split at h1
  · rename_i e; exact e
  · cases h1

section
variable {X : Cx} {K : PySem.W.Frag}
theorem rT_bl {k : Bool} {H : Hp} {Q : Bool → Hp → Prop} (h : rT K (.bl k) H Q) : Q k H := by
  obtain ⟨U, d, k', c, e, q⟩ := h
  have : d = .bl k := by
    cases d with
    | bl b => cases c.bl; rfl
    | non => cases c.non
    | int i => cases c.int
    | str s => cases c.str.1
    | tup l => obtain ⟨_, _, z, _⟩ := c.tup; cases z
    | lst l => obtain ⟨_, _, z, _⟩ := c.lst; cases z
    | dct l => obtain ⟨_, _, z, _⟩ := c.dct; cases z
    | set l => exact c.set.elim
    | dtn l => obtain ⟨_, _, z, _⟩ := c.dtn; cases z
  subst this
  cases e
  exact q
/-- a comparison as a test -/
theorem tTest_op {f : D → D → Option Bool} {ta tb : TE} {σ : St} {H : Hp} {Q : Bool → Hp → Prop} (hm : ∀ {σ H} {R R' : VK}, (∀ v H, R v H → R' v H) → ta σ H R → ta σ H R') (hb : ∀ {σ H} {R R' : VK}, (∀ v H, R v H → R' v H) → tb σ H R → tb σ H R')
    (h : L2.tOp (rC K f) ta tb σ H fun x H' => rT K x H' Q) : L2.tTest (L2.tOp (rC K f) ta tb) σ H Q :=
  hm (fun x H1 h1 => hb (fun y H2 h2 => by
    obtain ⟨U, d, d', k, c, c', e, q⟩ := h2
    exact ⟨U, d, d', k, c, c', e, k, rfl, rT_bl q⟩) h1) h
theorem tTest_chain {f g : D → D → Option Bool} {ta tb tc : TE} {σ : St} {H : Hp} {Q : Bool → Hp → Prop} (hm : ∀ {σ H} {R R' : VK}, (∀ v H, R v H → R' v H) → ta σ H R → ta σ H R') (hb : ∀ {σ H} {R R' : VK}, (∀ v H, R v H → R' v H) → tb σ H R → tb σ H R')
    (hc : ∀ {σ H} {R R' : VK}, (∀ v H, R v H → R' v H) → tc σ H R → tc σ H R') (h : L2.tChain (rC K f) (rC K g) ta tb tc σ H fun x H' => rT K x H' Q) : L2.tTest (L2.tChain (rC K f) (rC K g) ta tb tc) σ H Q :=
  hm (fun x H1 h1 => hb (fun y H2 h2 => by
    obtain ⟨U, d, d', k, c, c', e, k2, e2, q⟩ := h2
    cases e2
    refine ⟨U, d, d', k, c, c', e, k, rfl, ?_⟩
    cases k with
    | false => exact ⟨false, rfl, rT_bl q⟩
    | true => exact hc (fun z H3 h3 => by
        obtain ⟨U, d, d', k, c, c', e, q⟩ := h3
        exact ⟨U, d, d', k, c, c', e, k, rfl, rT_bl q⟩) q) h1) h
theorem tM_mono {XC : String → Addr} {W : WX} {m : M A} {σ : St} {H : Hp} {R R' : VK} (h : ∀ v H, R v H → R' v H) (q : tM EP K XC W m σ H R) : tM EP K XC W m σ H R' := by
  obtain ⟨ρ, U, r, o⟩ := q
  exact ⟨ρ, U, r, o.mono fun a U' H' ρ' _ z v rv => h _ _ (z v rv)⟩
/-- a call with nothing -/
theorem pe_callS0 {k : Nat} {f : Addr} {fd : PySem.FuncData} {ps : List Str} {sp : Sp} {E : St → XK} {x : Str} {p pos : Pos} (F : L2.FnOk X.prog X.w X.K X.mg X.base (L2.CX X.prog X.w) k f fd ps sp) (hr : L2.Room k X.A) (hg : L2.Gl X x) (hm : X.mg x = some (.ref f)) (hk : PySem.W.keepIn X.K (.ref f) = true) (hb : L2.Binds X.K fd ps []) (hx : ∀ σ, L2.PassesAt (L2.CX X.prog X.w) X σ (E σ))
    (hdb : (x == ("__debug__" : Str)) = false) : PE X (.Call (.Name x p) [] [] pos) (fun σ H Q => sp [] H Q (E σ)) := by
  refine ⟨fun pins s σ H Q I h => ?_⟩
  refine PySem.wpAny_Call_Name_kw (L2.ld_glob I hg hm ?_ hdb)
  exact PySem.W.callWith_K0 I.kIn hk (L2.run_fnS (us := []) (vs := []) F hr hb (hx σ) I .nil h)
theorem kwNames {gi : GI} {N : List Str} {sc : Scope} {env : PySem.Env} {pos : Pos} : ∀ {ns : List String} {ks : List CE} {kws : List PySem.Keyword}, chkK gi N sc ns ks kws = true →
    (PySem.backToKw pos (PySem.keywordEach kws env)).all (·.1.isSome) = true ∧ (PySem.backToKw pos (PySem.keywordEach kws env)).filterMap (·.1) = ns.map Str.ofString ∧ (PySem.backToKw pos (PySem.keywordEach kws env)).any (·.1.isNone) = false ∧ ns.length = ks.length
  | [], [], [], _ => ⟨rfl, rfl, rfl, rfl⟩
  | s :: ns, c :: ks, ⟨some x, e, p⟩ :: kws, h => by
    simp only [chkK, Bool.and_eq_true] at h
    obtain ⟨⟨h1, h2⟩, h3⟩ := h
    obtain ⟨a, b, c, d⟩ := kwNames (env := env) (pos := pos) h3
    have e1 : PySem.backToKw pos (PySem.keywordEach (⟨some x, e, p⟩ :: kws) env) = (some x, (do let v ← PySem.eval e env; PySem.standAt pos; pure v)) :: PySem.backToKw pos (PySem.keywordEach kws env) := rfl
    refine ⟨?_, ?_, ?_, by simp [d]⟩
    · rw [e1, List.all_cons, a]; rfl
    · rw [e1, List.filterMap_cons, b, nm_eq h1]; rfl
    · rw [e1, List.any_cons, c]; rfl
  | [], [], _ :: _, h => by simp [chkK] at h
  | [], _ :: _, _, h => by simp [chkK] at h
  | _ :: _, [], _, h => by simp [chkK] at h
  | _ :: _, _ :: _, [], h => by simp [chkK] at h
  | _ :: _, _ :: _, ⟨none, _, _⟩ :: _, h => by simp [chkK] at h
/-- a call with keywords -/
theorem pe_callN {k : Nat} {f : Addr} {fd : PySem.FuncData} {ps ks : List Str} {pm : List Nat} {n : Nat} {sp : Sp} {E : St → XK} {x : Str} {p pos : Pos} {es : List Expr} {kws : List PySem.Keyword} {t tk : TA} (F : L2.FnOk X.prog X.w X.K X.mg X.base (L2.CX X.prog X.w) k f fd ps sp) (hr : L2.Room k X.A) (hg : L2.Gl X x) (hm : X.mg x = some (.ref f)) (hk : PySem.W.keepIn X.K (.ref f) = true)
    (hb : ∀ (s : Shared) (us ws : List Value), us.length = n → ws.length = ks.length → PySem.BindsTo s fd ⟨us, ks.zip ws⟩ (ps.zip (us ++ pickL pm ws))) (hx : ∀ σ, L2.PassesAt (L2.CX X.prog X.w) X σ (E σ))
    (ha : PA X es t) (hkw : L2.PK X kws tk) (hall : (PySem.backToKw pos (PySem.keywordEach kws X.env)).all (·.1.isSome) = true) (hks : (PySem.backToKw pos (PySem.keywordEach kws X.env)).filterMap (·.1) = ks) (hno : (PySem.backToKw pos (PySem.keywordEach kws X.env)).any (·.1.isNone) = false)
    (hdb : (x == ("__debug__" : Str)) = false) (he : ∀ e r, es = e :: r → PySem.starEach (e :: r) X.env = (false, PySem.eval e X.env) :: PySem.starEach r X.env) (hpl : (PySem.backTo pos (PySem.starEach es X.env)).any (·.1) = false) :
    PE X (.Call (.Name x p) es kws pos) (fun σ H Q => (if es = [] then fun σ H Q => Q [] H else t : TA) σ H fun vs H1 => tk σ H1 fun zs H2 => vs.length = n ∧ zs.length = ks.length ∧ sp (vs ++ pickL pm zs) H2 Q (E σ)) := by
  have fin : ∀ {pins : List (Addr × Obj)} {σ : St} {H : Hp} {s : Shared} {Q : VK} {us ws : List Value} {vs zs : List V}, Inv X pins σ H s → Vals vs us → Vals zs ws → vs.length = n → zs.length = ks.length → sp (vs ++ pickL pm zs) H Q (E σ) →
      PySem.wpAny (PySem.model X.prog X.w) X.A (PySem.call (.ref f) us (ks.zip ws)) (L2.EP X pins σ Q) X.xe s := by
    intro pins σ H s Q us ws vs zs I r rz n1 n2 h
    have pk : ∀ (pm : List Nat), Vals (pickL pm zs) (pickL pm ws) := by
      intro pm
      induction pm with
      | nil => exact .nil
      | cons i pm ih =>
        unfold pickL
        have hl := rz.length
        by_cases hi : i < zs.length
        · have h1 : zs[i]? = some (zs[i]'hi) := by simp [hi]
          have h2 : ws[i]? = some (ws[i]'(hl ▸ hi)) := by simp
          rw [h1, h2]
          obtain ⟨u, g1, g2⟩ := L2.Vals.get rz h1
          rw [h2] at g1; cases g1
          exact .cons g2 ih
        · have h1 : zs[i]? = none := List.getElem?_eq_none (by omega)
          have h2 : ws[i]? = none := List.getElem?_eq_none (by omega)
          rw [h1, h2]
          exact ih
    have r2 : Vals (vs ++ pickL pm zs) (us ++ pickL pm ws) := r.append (pk pm)
    have hl : (us ++ pickL pm ws).length = ps.length := by rw [← r2.length]; exact F.len _ _ _ _ h
    refine PySem.wpAny_call (PySem.codeAny_mono (F.run X.A X.stack s H ⟨us, ks.zip ws⟩ (us ++ pickL pm ws) (vs ++ pickL pm zs) Q (E σ) hr I.env0 (hb s us ws (by rw [← r.length]; exact n1) (by rw [← rz.length]; exact n2)) r2 h) fun r s' hq => ?_)
    cases r with
    | error e => exact hx σ pins H s e s' I hq
    | ok fl =>
      cases fl with
      | ret u => exact I.after hq
      | next => exact False.elim hq
      | brk => exact False.elim hq
      | cont => exact False.elim hq
  refine ⟨fun pins s σ H Q I h => ?_⟩
  refine PySem.wpAny_Call_Name_kw (L2.ld_glob I hg hm ?_ hdb)
  cases es with
  | nil =>
    rw [if_pos rfl] at h
    refine PySem.W.callWith_KW0 (h₀ := X.base) I.ok.mod.kin hk hall (L2.thn (hkw.run pos pins s σ H _ I h) fun ws s2 ⟨zs, H2, I2, rz, n1, n2, q2⟩ => ⟨I2.kIn, ?_⟩) (by rw [hpl, hno]; rfl)
    rw [hks]
    exact fin (us := []) (vs := []) I2 .nil rz n1 n2 q2
  | cons e r =>
    rw [if_neg (by simp)] at h
    refine PySem.W.callWith_KW (h₀ := X.base) I.ok.mod.kin hk hall (L2.thn (ha.run pos pins s σ H _ I h) fun us s1 ⟨vs, H1, I1, rv, q⟩ => ?_) (by rw [hpl, hno]; rfl) (he e r rfl)
    refine L2.thn (hkw.run pos pins s1 σ H1 _ I1 q) fun ws s2 ⟨zs, H2, I2, rz, n1, n2, q2⟩ => ⟨I2.kIn, ?_⟩
    rw [hks]
    exact fin I2 rv rz n1 n2 q2
end
end Iv

set_option linter.all false
set_option maxRecDepth 100000
set_option autoImplicit false
set_option Elab.async false
set_option maxHeartbeats 4000000
/-! Iv, part 14: method calls as expressions. -/
namespace Iv
open PySem (Str Addr Value Obj Heap World Program Expr Stmt Scope Pos Shared Tok NameKind Operator CmpOp PyData)
open L2 (V Hp HO St upd SqL SqT Rd RelV Vals VK TE TT TA TS Cx Inv PE PT PA PS PSs upd_same upd_ne WX Takes Sp XK OpR CallR IxR R2 Dp DpAll)
variable {EP : ExPin}

section
variable {K : PySem.W.Frag} {XC : String → Addr} {W : WX} {σ : St} {U U' U1 U2 : Addr → Prop} {H H' H1 H2 H0 : Hp} {ρ ρ' ρ1 ρ2 : Rho} {Q : VK}
theorem mkind_ty {m : String} {d : D} {v : V} (hm : mtTy m ≠ "dict") (h : mkind m d = true) (c : RC K U H d v) : L2.tyV K (mtTy m) v H := by
  unfold mkind at h
  split at h
  · obtain ⟨a, vs, rfl, s, r⟩ := c.lst
    exact .inl ⟨by simpa using h, vs, s⟩
  · exact absurd (by simpa using h) hm
  · obtain ⟨rfl, _⟩ := c.str
    show mtTy m = "str"
    simpa using h
  · cases h
/-- the end of a method's call -/
theorem mend {x : A} {v : V} {d : D} {r : Option D × A} (r0 : R EP K U H σ ρ) (a : Adv EP K σ U H ρ U2 H2 ρ2) (rv : RA K U2 H2 σ H x v) (e : rd x ρ2 = .ok d ρ2)
    (o : OutOk EP K XC W σ U H ρ (bnd (mput x r.1) (fun _ => ret r.2) ρ2) fun a U' H' _ => ∀ v, RA K U' H' σ H a v → Q v H') : MEnd K U2 H2 d v r Q := by
  unfold MEnd
  obtain ⟨od, res⟩ := r
  cases od with
  | none => exact OutOk.dlv a o
  | some d' =>
    cases x with
    | val _ => exact o.elim
    | fr _ => exact o.elim
    | rf i =>
      cases q : ρ2[i]? with
      | none => simp [mput, bnd, slot, q] at o; exact o.elim
      | some s =>
        simp only [mput, bnd, slot, q] at o
        cases s with
        | ow d0 =>
          have ed : d0 = d := by
            simp only [rd, bnd, slot, q, ret] at e
            cases e; rfl
          subst ed
          obtain ⟨p, hp, ro⟩ := a.r.ow i _ _ q (.inl rfl)
          have rv' : σ[i]? = some (some v) := rv
          rw [rv'] at hp; cases hp
          refine ⟨p, rfl, ro, fun ob w hw rn => ?_⟩
          have m := Adv.mut (o := ob) a.r q rv' hw
          exact o U2 _ (a.trans m) w (RA.back a rn.ra)
        | no => exact o.elim
        | sh _ => exact o.elim
        | lk _ => exact o.elim
        | ex _ _ => exact o.elim
theorem OutOk.brd' {β : Type} {x : A} {v : V} {H0 : Hp} {f : D → M β} {k : β → (Addr → Prop) → Hp → Rho → Prop} (r : R EP K U' H' σ ρ') (a : RA K U' H' σ H0 x v) (h : OutOk EP K XC W σ U H ρ (Iv.bnd (rd x) f ρ') k) :
    ∃ d, rd x ρ' = .ok d ρ' ∧ RC K U' H' d v ∧ OutOk EP K XC W σ U H ρ (f d ρ') k := by
  rcases rd_cases x ρ' with ⟨d, e⟩ | e
  · obtain ⟨_, c⟩ := rd_ok r a e
    unfold Iv.bnd at h
    rw [e] at h
    exact ⟨d, e, c, h⟩
  · unfold Iv.bnd at h
    rw [e] at h
    exact h.elim
theorem tM_mthS {m : String} {ma : M A} {ml : M (List D)} {f : D → List D → Option (Option D × A)} (hm : mtTy m ≠ "dict") (h : tM EP K XC W (bnd ma fun x => bnd (rd x) fun d0 => bnd (grd (mkind m d0)) fun _ =>
    bnd ml fun ds => bnd (rd x) fun d => bnd (opt (f d ds)) fun r => bnd (mput x r.1) fun _ => ret r.2) σ H Q) : L2.tBM K (mtTy m) (rM K true f) (tM EP K XC W ma) (tS EP K XC W ml) σ H Q := by
  obtain ⟨ρ, U, r, o⟩ := h
  refine ⟨ρ, U, r, (OutOk.seq o (Adv.refl r)).mono fun x U1 H1 ρ1 _ z v rv => ?_⟩
  obtain ⟨a1, o1⟩ := z
  obtain ⟨d0, c, o1⟩ := OutOk.brd a1.r rv o1
  obtain ⟨e0, o1⟩ := OutOk.grd o1
  refine ⟨mkind_ty hm e0 c, ρ1, U1, a1.r, (OutOk.seq o1 a1).mono fun ds U2 H2 ρ2 _ z vs rvs => ?_⟩
  obtain ⟨a2, o2⟩ := z
  have rv2 := RA.mono a1.r a2 (fun b z => r.ownS (a1.sub b z)) rv
  obtain ⟨d, e, c2, o2⟩ := OutOk.brd' a2.r rv2 o2
  obtain ⟨k, e2, o2⟩ := OutOk.bopt o2
  exact ⟨U2, d, ds, k, a2.r.trk, c2, rvs, e2, mend r (a1.trans a2) rv2 e o2⟩
theorem tM_mthA {m : String} {ma : M A} {ml : M (List A)} {f : D → List D → Option (Option D × A)} (hm : mtTy m ≠ "dict") (h : tM EP K XC W (bnd ma fun x => bnd (rd x) fun d0 => bnd (grd (mkind m d0)) fun _ =>
    bnd ml fun as => bnd (rdL as) fun ds => bnd (rd x) fun d => bnd (opt (f d ds)) fun r => bnd (mput x r.1) fun _ => ret r.2) σ H Q) : L2.tBM K (mtTy m) (rM K false f) (tM EP K XC W ma) (tA EP K XC W ml) σ H Q := by
  obtain ⟨ρ, U, r, o⟩ := h
  refine ⟨ρ, U, r, (OutOk.seq o (Adv.refl r)).mono fun x U1 H1 ρ1 _ z v rv => ?_⟩
  obtain ⟨a1, o1⟩ := z
  obtain ⟨d0, c, o1⟩ := OutOk.brd a1.r rv o1
  obtain ⟨e0, o1⟩ := OutOk.grd o1
  refine ⟨mkind_ty hm e0 c, ρ1, U1, a1.r, (OutOk.seq o1 a1).mono fun as U2 H2 ρ2 _ z vs rvs => ?_⟩
  obtain ⟨a2, o2⟩ := z
  have rv2 := RA.mono a1.r a2 (fun b z => r.ownS (a1.sub b z)) rv
  obtain ⟨ds, cs, o2⟩ := OutOk.brdL a2.r rvs o2
  obtain ⟨d, e, c2, o2⟩ := OutOk.brd' a2.r rv2 o2
  obtain ⟨k, e2, o2⟩ := OutOk.bopt o2
  exact ⟨U2, d, ds, k, a2.r.trk, c2, cs, e2, mend r (a1.trans a2) rv2 e o2⟩
end
section
variable {X : Cx}
def tBMA (es : List Expr) (K : PySem.W.Frag) (T : String) (r : V → List V → Hp → VK → Prop) (to : TE) (t : TA) : TE := fun σ H Q => to σ H fun x H1 => L2.tyV K T x H1 ∧ (if es = [] then (fun σ H Q => Q [] H) else t : TA) σ H1 fun xs H2 => r x xs H2 Q
theorem pe_bmA {gi : GI} {N : List Str} {sc : Scope} {l : List CE} {o : Expr} {es : List Expr} {to : TE} {t : TA} {name : Str} {apos cpos : Pos} {T id : String} {r : V → List V → Hp → VK → Prop}
    (pa : PySem.PlainAttrs T) (slot : PySem.Slot T name id) (hty : PySem.typeOf (.builtin id) = pure (.type "method_descriptor")) (hm : L2.MtR X id r) (ho : PE X o to) (ha : PA X es t)
    (hbase : PySem.attributeBase o name X.env (PySem.eval o X.env) = PySem.eval o X.env) (hl : chkL gi N sc l es = true) (hfew : es.length < 30) (hline : (apos.endLine == cpos.line) = true) :
    PE X (.Call (.Attribute o name apos) es [] cpos) (tBMA es X.K T r to t) := by
  cases es with
  | nil =>
    have z := L2.pe_bm0 (apos := apos) (cpos := cpos) pa slot hty hm ho hbase hline
    refine pe_of fun σ H Q h => ⟨_, z, ?_⟩
    unfold tBMA at h
    rw [if_pos rfl] at h
    exact h
  | cons e es =>
    have hl' := hl
    cases l with
    | nil => simp [chkL] at hl
    | cons c l =>
      simp only [chkL, Bool.and_eq_true] at hl
      have hs := star_ok (es := es) (env := X.env) (chk_star hl.1)
      have z := L2.pe_bm (apos := apos) (cpos := cpos) pa slot hty hm ho ha hbase (by
        have e1 := star_none (pos := cpos) (env := X.env) hl'
        have e2 : (PySem.backTo cpos (PySem.starEach (e :: es) X.env)).all (fun x => !x.1) = true := by
          rw [List.all_eq_not_any_not]
          simpa using e1
        rw [e2]
        simp only [Bool.true_and]
        have e3 : (PySem.backToKw cpos (PySem.keywordEach [] X.env)).all (fun x => x.1.isSome) = true := rfl
        rw [e3]
        simpa using hfew) hline hs (star_none hl.2)
      refine pe_of fun σ H Q h => ⟨_, z, ?_⟩
      unfold tBMA at h
      rw [if_neg (by simp)] at h
      exact h
end
end Iv

set_option linter.all false
set_option maxRecDepth 100000
set_option autoImplicit false
set_option Elab.async false
set_option maxHeartbeats 4000000
/-! Iv, part 15: ahead of the main theorem. -/
namespace Iv
open PySem (Str Addr Value Obj Heap World Program Expr Stmt Scope Pos Shared Tok NameKind Operator CmpOp PyData)
open L2 (V Hp HO St upd SqL SqT Rd RelV Vals VK TE TT TA TS Cx Inv PE PT PA PS PSs upd_same upd_ne WX Takes Sp XK OpR CallR IxR R2 Dp DpAll)
variable {EP : ExPin}

section
variable {gi : GI} {V : Env} {Φ : String → Rho → COut} {XC : String → Addr}
/-- from a value's reading: the test's -/
theorem both {X : Cx} {W : WX} {m : M A} {e : Expr} (he : ∀ whole, PySem.isTrue e X.env whole = (do let v ← whole; PySem.standAt e.pos; PySem.holding [v] (PySem.truthy v))) (h : PE X e (tM EP X.K XC W m)) : PE X e (tM EP X.K XC W m) ∧ PT X e (tB EP X.K XC W (tst m)) :=
  ⟨h, pt_of fun σ H Q q => ⟨_, pt_rt h he, tB_tst q⟩⟩
theorem Gd.calm' {hot : Bool} {k : Nat} {N : List Str} {sc : Scope} {W : WX} {X : Cx} (G : Gd EP XC hot k N sc W X) {f : String} (h : (!(hot && coldBi f)) = true) : coldBi f = true → X.calm = true := fun e => G.calm (by rw [e] at h; simpa using h)
theorem tM_grd {K : PySem.W.Frag} {W : WX} {b : Bool} {m : M A} {σ : St} {H : Hp} {Q : VK} (h : tM EP K XC W (bnd (grd b) fun _ => m) σ H Q) : b = true ∧ tM EP K XC W m σ H Q := by
  obtain ⟨ρ, U, r, o⟩ := h
  obtain ⟨e, o⟩ := OutOk.grd o
  exact ⟨e, ρ, U, r, o⟩
theorem bi_id {x : Str} {f : String} (hx : x = Str.ofString f) (h : biFn f = true) : PySem.bootBuiltins x = some (.builtin f) := by
  have : f ∈ (["len", "abs", "max", "min", "any", "all", "sum"] : List String) := by simpa [biFn] using h
  have key : ∀ f ∈ (["len", "abs", "max", "min", "any", "all", "sum"] : List String), PySem.bootBuiltins (Str.ofString f) = some (.builtin f) := by decide +kernel
  rw [hx]; exact key f this
theorem bt_id {x : Str} {f : String} (hx : x = Str.ofString f) (h : biTy f = true) : PySem.bootBuiltins x = some (.type f) := by
  have : f ∈ (["int", "str", "list", "tuple"] : List String) := by simpa [biTy] using h
  have key : ∀ f ∈ (["int", "str", "list", "tuple"] : List String), PySem.bootBuiltins (Str.ofString f) = some (.type f) := by decide +kernel
  rw [hx]; exact key f this
theorem it_id {x : Str} {f : String} (hx : x = Str.ofString f) (h : isiTy f = true) : PySem.bootBuiltins x = some (.type f) := by
  have : f ∈ (["int", "bool", "str", "tuple", "list", "dict"] : List String) := by simpa [isiTy] using h
  have key : ∀ f ∈ (["int", "bool", "str", "tuple", "list", "dict"] : List String), PySem.bootBuiltins (Str.ofString f) = some (.type f) := by decide +kernel
  rw [hx]; exact key f this

theorem chk_noset {N : List Str} {sc : Scope} {c : CE} {e : Expr} (h : chk gi N sc c e = true) : isSet e = false := by
  cases e <;> first | rfl | (exfalso; revert h; cases c <;> simp [chk, isStar, isSlice, isSet])
theorem noSet {op : CmpOp} {e : Expr} (h : isSet e = false) : PySem.behindInMarks op e = false := by
  cases e <;> first | rfl | (exact absurd h (by simp [isSet]))
theorem evA_len {hot : Bool} : ∀ (l : List CE) {ρ ρ' : Rho} {as : List A}, evA V Φ hot l ρ = .ok as ρ' → as.length = l.length
  | [], ρ, ρ', as, e => by cases e; rfl
  | c :: l, ρ, ρ', as, e => by
    have e : bnd (ev V Φ hot c) (fun x => bnd (evA V Φ hot l) fun xs => ret (x :: xs)) ρ = .ok as ρ' := e
    unfold bnd at e
    cases e1 : ev V Φ hot c ρ with
    | stuck => rw [e1] at e; cases e
    | exc _ _ _ => rw [e1] at e; cases e
    | ok x ρ1 =>
      rw [e1] at e
      simp only [bnd] at e
      cases e2 : evA V Φ hot l ρ1 with
      | stuck => rw [e2] at e; cases e
      | exc _ _ _ => rw [e2] at e; cases e
      | ok xs ρ2 =>
        rw [e2] at e
        cases e
        simp [evA_len l e2]
theorem tA_len {K : PySem.W.Frag} {W : WX} {m : M (List A)} {n : Nat} (hm : ∀ (ρ : Rho) (as : List A) (ρ' : Rho), m ρ = .ok as ρ' → as.length = n) {σ : St} {H : Hp} {k : List L2.V → Hp → Prop} (h : tA EP K XC W m σ H k) : tA EP K XC W m σ H fun vs H1 => vs.length = n ∧ k vs H1 := by
  obtain ⟨ρ, U, r, o⟩ := h
  refine ⟨ρ, U, r, ?_⟩
  cases e : m ρ with
  | stuck => rw [e] at o; exact o
  | exc _ _ _ => rw [e] at o; exact o
  | ok as ρ' =>
    rw [e] at o
    exact fun U' H' a vs rv => ⟨by rw [rv.len]; exact hm ρ as ρ' e, o U' H' a vs rv⟩
/-- isinstance of the held exception -/
def rIsX (X : Cx) : List L2.V → Hp → VK → Prop := fun xs H Q => ∃ (a D D' : Addr) (oe : Obj) (b : Bool), xs = [.ref a, .ref D'] ∧ (a, oe) ∈ X.pn ∧ (∃ vs, oe.data = .fields vs) ∧ L2.Zc (.ref D) none oe ∧ L2.ExcC X.K D ∧ PySem.W.kitOne X.K (.ref D) (.ref D') = some b ∧ Q (.bl b) H
theorem call_isx {X : Cx} : CallR X (.builtin "isinstance") (rIsX X) := by
  intro pins s σ H xs us Q I r h
  obtain ⟨a, D, D', oe, b, rfl, hp, hf, hz, C, e, q⟩ := h
  cases r with
  | cons rx rr =>
    cases rr with
    | cons rt rr =>
      cases rr
      cases rx
      cases rt
      obtain ⟨hget, _⟩ := I.pin (a, oe) (List.mem_append.mpr (.inl hp))
      obtain ⟨vs, hv⟩ := hf
      have J : PySem.W.InstAt s.heap a oe D none := by
        obtain ⟨oc, od, oda, osl⟩ := oe
        obtain ⟨h1, h2⟩ := hz
        dsimp only at h1 h2 hv
        subst h1 h2 hv
        exact ⟨hget, rfl, rfl, trivial⟩
      exact PySem.W.kia_one (PySem.W.handS_kitx_exc C.hg C.hk C.hs C.hd C.ha C.hn C.ht C.hm) I.kIn J e (fun z => nomatch z) fun tk => ⟨.bl b, H, I.kept (t' := tk) fun _ _ z => z, rfl, q⟩
theorem bnd_slot {α : Type} {ρ : Rho} {i : Nat} {s : Sl} (e : ρ[i]? = some s) (f : Sl → M α) : bnd (slot i) f ρ = f s ρ := by unfold bnd slot; rw [e]
theorem bnd_slot0 {α : Type} {ρ : Rho} {i : Nat} (e : ρ[i]? = none) (f : Sl → M α) : bnd (slot i) f ρ = .stuck := by unfold bnd slot; rw [e]
theorem tM_isx {hot : Bool} {k : Nat} {N : List Str} {sc : Scope} {W : WX} {X : Cx} (G : Gd EP XC hot k N sc W X) (C : Ctx gi V Φ XC k X.prog X.w X.K X.mg X.base) {i : Nat} {c : String} {σ : St} {H : Hp} {Q : VK}
    (h : tM EP X.K XC W (bnd (slot i) fun s => match s with | .ex c' [] => bnd (opt (V.sub c' c)) fun b => ret (.val (.bl b)) | _ => fail) σ H Q) : L2.tCB (rIsX X) (L2.tCons (L2.tVar i) (L2.tCons (L2.tC (.ref (XC c))) L2.tNil)) σ H Q := by
  obtain ⟨ρ, U, r, o⟩ := h
  cases e : ρ[i]? with
  | none =>
    rw [bnd_slot0 e] at o; exact o.elim
  | some s =>
    rw [bnd_slot e] at o
    cases s with
    | ex c' fs =>
      cases fs with
      | nil =>
        obtain ⟨b, e2, o⟩ := OutOk.bopt o
        obtain ⟨a, ha, hat⟩ := r.ex i c' [] e
        obtain ⟨oe, hp, hf, hz⟩ := G.pe i a c' [] hat
        obtain ⟨_, x2, x3⟩ := C.sb c' c b e2
        exact ⟨.ref a, ha, a, XC c', XC c, oe, b, rfl, hp, hf, hz rfl, x3, x2, (OutOk.dlv (Adv.refl r) o).bl⟩
      | cons _ _ => exact o.elim
    | _ => exact o.elim
theorem tA_mono {K : PySem.W.Frag} {W : WX} {m : M (List A)} {σ : St} {H : Hp} {R R' : List L2.V → Hp → Prop} (h : ∀ v H, R v H → R' v H) (q : tA EP K XC W m σ H R) : tA EP K XC W m σ H R' := by
  obtain ⟨ρ, U, r, o⟩ := q
  exact ⟨ρ, U, r, o.mono fun a U' H' ρ' _ z v rv => h _ _ (z v rv)⟩
end
end Iv

set_option linter.all false
set_option maxRecDepth 100000
set_option autoImplicit false
set_option Elab.async false
set_option maxHeartbeats 4000000
/-! Iv, part 16: statements: steps that change the slots. -/
namespace Iv
open PySem (Str Addr Value Obj Heap World Program Expr Stmt Scope Pos Shared Tok NameKind Operator CmpOp PyData)
open L2 (V Hp HO St upd SqL SqT Rd RelV Vals VK TE TT TA TS Cx Inv PE PT PA PS PSs upd_same upd_ne WX Takes Sp XK OpR CallR IxR R2 Dp DpAll Ends)
variable {EP : ExPin}


structure AdvS (EP : ExPin) (K : PySem.W.Frag) (pn : List Bool) (σ : St) (U : Addr → Prop) (H : Hp) (ρ : Rho) (σ' : St) (U' : Addr → Prop) (H' : Hp) (ρ' : Rho) : Prop where
  st : Step (own σ ρ) U U' H H'
  r : R EP K U' H' σ' ρ'
  sub : ∀ (i : Nat) (b : Addr), owAt ρ' i = true → σ'[i]? = some (some (V.ref b)) → (owAt ρ i = true ∧ σ[i]? = some (some (V.ref b))) ∨ H b = none
  pin : ∀ i, pn.getD i false = true → σ'[i]? = σ[i]?
  fx : ∀ (i : Nat) (s : Sl), ρ[i]? = some s → fixS s = true → ρ'[i]? = some s ∧ σ'[i]? = σ[i]?
  pso : ∀ i, pn.getD i false = true → owAt ρ' i = true → owAt ρ i = true
  len : σ'.length = σ.length
/-- a set of states -/
abbrev BT := St → (Addr → Prop) → Hp → Rho → Prop
structure Clo (EP : ExPin) (K : PySem.W.Frag) (pn : List Bool) (B : BT) : Prop where
  step : ∀ {σ : St} {U : Addr → Prop} {H : Hp} {ρ : Rho} {σ' : St} {U' : Addr → Prop} {H' : Hp} {ρ' : Rho}, B σ U H ρ → AdvS EP K pn σ U H ρ σ' U' H' ρ' → B σ' U' H' ρ'
  r : ∀ {σ : St} {U : Addr → Prop} {H : Hp} {ρ : Rho}, B σ U H ρ → R EP K U H σ ρ
def SOk (K : PySem.W.Frag) (XC : String → Addr) (W : WX) (B : BT) {α : Type} (o : Out α) (k : α → St → (Addr → Prop) → Hp → Rho → Prop) : Prop := match o with
  | .ok a ρ' => ∀ σ' U' H', B σ' U' H' ρ' → k a σ' U' H' ρ'
  | .exc c fs ρ' => ∀ σ' U' H' cls d, B σ' U' H' ρ' → RX K XC U' H' c fs cls d → W cls d σ' H'
  | .stuck => False

section
variable {K : PySem.W.Frag} {XC : String → Addr} {W : WX} {pn : List Bool} {B : BT} {σ σ' σ1 σ2 σ0 : St} {U U' U1 U2 U0 : Addr → Prop} {H H' H1 H2 H0 : Hp} {ρ ρ' ρ1 ρ2 ρ0 : Rho} {α β : Type}
theorem own_at {b : Addr} (h : own σ ρ b) : ∃ i, owAt ρ i = true ∧ σ[i]? = some (some (V.ref b)) := by
  obtain ⟨i, s, d, e, hd, q⟩ := h
  exact ⟨i, held_owAt e hd, q⟩
theorem at_own {i : Nat} {b : Addr} (h : owAt ρ i = true) (q : σ[i]? = some (some (V.ref b))) : own σ ρ b := by
  obtain ⟨s, d, e, hd⟩ := owAt_held h
  exact ⟨i, s, d, e, hd, q⟩
theorem AdvS.refl (r : R EP K U H σ ρ) : AdvS EP K pn σ U H ρ σ U H ρ := ⟨.refl, r, fun i b h q => .inl ⟨h, q⟩, fun _ _ => rfl, fun _ _ e _ => ⟨e, rfl⟩, fun _ _ h => h, rfl⟩
theorem Adv.s (a : Adv EP K σ U H ρ U' H' ρ') : AdvS EP K pn σ U H ρ σ U' H' ρ' := ⟨a.st, a.r, fun i b h q => .inl ⟨a.so i h, q⟩, fun _ _ => rfl, fun i s e h => ⟨a.fx i s e h, rfl⟩, fun i _ h => a.so i h, rfl⟩
theorem AdvS.osub (a : AdvS EP K pn σ U H ρ σ' U' H' ρ') {b : Addr} (h : own σ' ρ' b) : own σ ρ b ∨ H b = none := by
  obtain ⟨i, h1, h2⟩ := own_at h
  exact (a.sub i b h1 h2).imp (fun z => at_own z.1 z.2) id
theorem AdvS.trans (a : AdvS EP K pn σ U H ρ σ1 U1 H1 ρ1) (b : AdvS EP K pn σ1 U1 H1 ρ1 σ2 U2 H2 ρ2) : AdvS EP K pn σ U H ρ σ2 U2 H2 ρ2 where
  st := a.st.trans b.st fun c z => a.osub z
  r := b.r
  sub := fun i c h q => by
    rcases b.sub i c h q with ⟨h1, q1⟩ | n
    · exact a.sub i c h1 q1
    · exact .inr (a.st.none_back n)
  pin := fun i z => (b.pin i z).trans (a.pin i z)
  fx := fun i s e h => by
    obtain ⟨e1, q1⟩ := a.fx i s e h
    obtain ⟨e2, q2⟩ := b.fx i s e1 h
    exact ⟨e2, q2.trans q1⟩
  pso := fun i z h => a.pso i z (b.pso i z h)
  len := b.len.trans a.len
theorem AdvS.kp (r : R EP K U H σ ρ) (f : AdvS EP K pn σ U H ρ σ' U' H' ρ') : Kp U U' H H' := f.st.kp fun b h => r.ownR h
theorem SOk.mono {o : Out α} {k k' : α → St → (Addr → Prop) → Hp → Rho → Prop} (h : SOk K XC W B o k) (hk : ∀ a σ' U' H' ρ', B σ' U' H' ρ' → k a σ' U' H' ρ' → k' a σ' U' H' ρ') : SOk K XC W B o k' := by
  cases o with
  | ok a ρ' => exact fun σ' U' H' f => hk a σ' U' H' ρ' f (h σ' U' H' f)
  | exc c fs ρ' => exact h
  | stuck => exact h
/-- fewer states -/
theorem SOk.sub {B' : BT} {o : Out α} {k : α → St → (Addr → Prop) → Hp → Rho → Prop} (h : SOk K XC W B o k) (hb : ∀ σ U H ρ, B' σ U H ρ → B σ U H ρ) : SOk K XC W B' o k := by
  cases o with
  | ok a ρ' => exact fun σ' U' H' f => h σ' U' H' (hb _ _ _ _ f)
  | exc c fs ρ' => exact fun σ' U' H' cls d f => h σ' U' H' cls d (hb _ _ _ _ f)
  | stuck => exact h
theorem SOk.seq {m : M α} {f : α → M β} {k : β → St → (Addr → Prop) → Hp → Rho → Prop} (h : SOk K XC W B (bnd m f ρ) k) :
    SOk K XC W B (m ρ) fun x _ _ _ ρ2 => SOk K XC W B (f x ρ2) k := by
  unfold Iv.bnd at h
  cases e : m ρ with
  | stuck => rw [e] at h; exact h.elim
  | exc c fs ρ' => rw [e] at h; exact h
  | ok x ρ2 => rw [e] at h; exact fun σ' U' H' f2 => h
/-- an expression ahead: its own step -/
theorem SOk.exp {m : M α} {f : α → M β} {k : β → St → (Addr → Prop) → Hp → Rho → Prop} (C : Clo EP K pn B) (b : B σ U H ρ) (h : SOk K XC W B (bnd m f ρ) k) :
    OutOk EP K XC W σ U H ρ (m ρ) fun x U2 H2 ρ2 => Adv EP K σ U H ρ U2 H2 ρ2 ∧ B σ U2 H2 ρ2 ∧ SOk K XC W B (f x ρ2) k := by
  unfold Iv.bnd at h
  cases e : m ρ with
  | stuck => rw [e] at h; exact h.elim
  | exc c fs ρ' => rw [e] at h; exact fun U' H' cls d f2 => h σ U' H' cls d (C.step b f2.s)
  | ok x ρ2 => rw [e] at h; exact fun U1 H1 f1 => ⟨f1, C.step b f1.s, h⟩
theorem SOk.grd {b : Bool} {f : Unit → M β} {k : β → St → (Addr → Prop) → Hp → Rho → Prop} (h : SOk K XC W B (Iv.bnd (Iv.grd b) f ρ') k) : b = true ∧ SOk K XC W B (f () ρ') k := by
  unfold Iv.bnd Iv.grd at h
  by_cases e : b = true
  · rw [if_pos e] at h; exact ⟨e, h⟩
  · rw [if_neg e] at h; exact h.elim
theorem SOk.bopt {o : Option α} {f : α → M β} {k : β → St → (Addr → Prop) → Hp → Rho → Prop} (h : SOk K XC W B (Iv.bnd (Iv.opt o) f ρ') k) : ∃ a, o = some a ∧ SOk K XC W B (f a ρ') k := by
  cases o with
  | none => exact h.elim
  | some a => exact ⟨a, rfl, h⟩
theorem SOk.brd {x : A} {v : V} {Hs : Hp} {f : D → M β} {k : β → St → (Addr → Prop) → Hp → Rho → Prop} (r : R EP K U1 H1 σ1 ρ1) (a : RA K U1 H1 σ1 Hs x v) (h : SOk K XC W B (Iv.bnd (rd x) f ρ1) k) :
    ∃ d, rd x ρ1 = .ok d ρ1 ∧ RC K U1 H1 d v ∧ SOk K XC W B (f d ρ1) k := by
  rcases rd_cases x ρ1 with ⟨d, e⟩ | e
  · obtain ⟨_, c⟩ := rd_ok r a e
    unfold Iv.bnd at h
    rw [e] at h
    exact ⟨d, e, c, h⟩
  · unfold Iv.bnd at h
    rw [e] at h
    exact h.elim

/-- an outcome that a slot may take: a new list is owned by none, and was not there at a state of B -/
def RG (EP : ExPin) (K : PySem.W.Frag) (pn : List Bool) (B : BT) (σ : St) (U : Addr → Prop) (H : Hp) (ρ : Rho) : A → V → Prop
  | .val d, v => RD K U H d v
  | .fr d, v => ∃ p, v = V.ref p ∧ RO K U H d p ∧ ¬ own σ ρ p ∧ ∃ σ1 U1 H1 ρ1, B σ1 U1 H1 ρ1 ∧ AdvS EP K pn σ1 U1 H1 ρ1 σ U H ρ ∧ H1 p = none
  | .rf i, v => σ[i]? = some (some v)
theorem RA.rg {a : A} {v : V} (r : R EP K U H σ ρ) (b : B σ U H ρ) (s : Adv EP K σ U H ρ U1 H1 ρ1) (h : RA K U1 H1 σ H a v) : RG EP K pn B σ U1 H1 ρ1 a v := by
  cases a with
  | val d => exact h
  | rf i => exact h
  | fr d =>
    obtain ⟨p, e, o, n⟩ := h
    exact ⟨p, e, o, (fun z => by obtain ⟨o', q⟩ := r.ownS (s.sub p z); rw [n] at q; cases q), σ, U, H, ρ, b, s.s, n⟩
theorem RG.ra {a : A} {v : V} (h : RG EP K pn B σ U H ρ a v) : RA K U H σ (fun _ => none) a v := by
  cases a with
  | val d => exact h
  | rf i => exact h
  | fr d => obtain ⟨p, e, o, _⟩ := h; exact ⟨p, e, o, rfl⟩

/-- slot i set to a shared value -/
theorem R.putSh {i : Nat} {d : D} {v : V} (r : R EP K U H σ ρ) (h : RD K U H d v) : R EP K U H (σ.set i (some v)) (ρ.set i (.sh d)) where
  len := by rw [List.length_set, List.length_set]; exact r.len
  trk := r.trk
  sh := fun j d' e => by
    by_cases hj : i = j
    · subst hj
      by_cases hi : i < ρ.length
      · rw [List.getElem?_set_self hi] at e
        cases e
        exact ⟨v, List.getElem?_set_self (by rw [← r.len]; exact hi), h⟩
      · rw [List.getElem?_eq_none (by rw [List.length_set]; omega)] at e; cases e
    · rw [List.getElem?_set_ne hj] at e ⊢
      exact r.sh j d' e
  ow := fun j s d' e hd => by
    have ne := (owAt_set sh_nh (held_owAt e hd)).1
    rw [List.getElem?_set_ne ne] at e ⊢
    exact r.ow j s d' e hd
  dis := fun a b s s' d1 d2 p ea ha eb hb qa qb => by
    have n1 := (owAt_set sh_nh (held_owAt ea ha)).1
    have n2 := (owAt_set sh_nh (held_owAt eb hb)).1
    rw [List.getElem?_set_ne n1] at ea qa
    rw [List.getElem?_set_ne n2] at eb qb
    exact r.dis a b s s' d1 d2 p ea ha eb hb qa qb
  ex := fun j c fs e => by
    obtain ⟨n, e⟩ := ex_set (fun _ _ z => by cases z) e
    rw [List.getElem?_set_ne n]
    exact r.ex j c fs e
/-- slot i set to a new list -/
theorem R.putOw {i : Nat} {d : D} {p : Addr} (r : R EP K U H σ ρ) (h : RO K U H d p) (n : ¬ own σ ρ p) : R EP K U H (σ.set i (some (.ref p))) (ρ.set i (.ow d)) where
  len := by rw [List.length_set, List.length_set]; exact r.len
  trk := r.trk
  sh := fun j d' e => by
    by_cases hj : i = j
    · subst hj
      rw [List.getElem?_set, if_pos rfl] at e
      split at e
      · cases e
      · cases e
    · rw [List.getElem?_set_ne hj] at e ⊢
      exact r.sh j d' e
  ow := fun j s d' e hd => by
    by_cases hj : i = j
    · subst hj
      by_cases hi : i < ρ.length
      · rw [List.getElem?_set_self hi] at e
        cases e
        rcases hd with z | z
        · cases z
          exact ⟨p, List.getElem?_set_self (by rw [← r.len]; exact hi), h⟩
        · cases z
      · rw [List.getElem?_eq_none (by rw [List.length_set]; omega)] at e; cases e
    · rw [List.getElem?_set_ne hj] at e ⊢
      exact r.ow j s d' e hd
  dis := fun a b s s' d1 d2 q ea ha eb hb qa qb => by
    by_cases hja : i = a
    · subst hja
      by_cases hjb : i = b
      · exact hjb
      · rw [List.getElem?_set_ne hjb] at eb qb
        have hi : i < σ.length := by
          have := (List.getElem?_eq_some_iff.mp qa).1
          simpa using this
        rw [List.getElem?_set_self hi] at qa
        cases qa
        exact absurd ⟨b, s', d2, eb, hb, qb⟩ n
    · rw [List.getElem?_set_ne hja] at ea qa
      by_cases hjb : i = b
      · subst hjb
        have hi : i < σ.length := by
          have := (List.getElem?_eq_some_iff.mp qb).1
          simpa using this
        rw [List.getElem?_set_self hi] at qb
        cases qb
        exact absurd ⟨a, s, d1, ea, ha, qa⟩ n
      · rw [List.getElem?_set_ne hjb] at eb qb
        exact r.dis a b s s' d1 d2 q ea ha eb hb qa qb
  ex := fun j c fs e => by
    obtain ⟨n, e⟩ := ex_set (fun _ _ z => by cases z) e
    rw [List.getElem?_set_ne n]
    exact r.ex j c fs e
theorem AdvS.putSh {i : Nat} {d : D} {v : V} {s0 : Sl} (a : AdvS EP K pn σ0 U0 H0 ρ0 σ U H ρ) (hp : pn.getD i false = false) (hs : ρ[i]? = some s0) (hf : fixS s0 = false) (h : RD K U H d v) : AdvS EP K pn σ0 U0 H0 ρ0 (σ.set i (some v)) U H (ρ.set i (.sh d)) where
  st := a.st
  r := a.r.putSh h
  sub := fun j b z q => by
    obtain ⟨n, z⟩ := owAt_set sh_nh z
    rw [List.getElem?_set_ne n] at q
    exact a.sub j b z q
  pin := fun j z => by
    have n : i ≠ j := fun e => by subst e; rw [hp] at z; cases z
    rw [List.getElem?_set_ne n]
    exact a.pin j z
  fx := fun j s e h => by
    obtain ⟨e1, q1⟩ := a.fx j s e h
    have n : i ≠ j := fun z => by subst z; rw [hs] at e1; cases e1; rw [hf] at h; cases h
    rw [List.getElem?_set_ne n, List.getElem?_set_ne n]
    exact ⟨e1, q1⟩
  pso := fun j z h => by
    have n : i ≠ j := fun e => by subst e; rw [hp] at z; cases z
    refine a.pso j z ?_
    unfold owAt at h ⊢
    rw [List.getElem?_set_ne n] at h
    exact h
  len := by rw [List.length_set]; exact a.len
theorem AdvS.putOw {i : Nat} {d : D} {p : Addr} {s0 : Sl} (a : AdvS EP K pn σ0 U0 H0 ρ0 σ U H ρ) (hp : pn.getD i false = false) (hs : ρ[i]? = some s0) (hf : fixS s0 = false) (h : RO K U H d p) (n : ¬ own σ ρ p) (n0 : H0 p = none) : AdvS EP K pn σ0 U0 H0 ρ0 (σ.set i (some (.ref p))) U H (ρ.set i (.ow d)) where
  st := a.st
  r := a.r.putOw h n
  sub := fun j b z q => by
    by_cases hj : i = j
    · subst hj
      have hi : i < σ.length := by
        have := (List.getElem?_eq_some_iff.mp q).1
        simpa using this
      rw [List.getElem?_set_self hi] at q
      cases q
      exact .inr n0
    · have z2 : owAt ρ j = true := by
        unfold owAt at z ⊢
        rw [List.getElem?_set_ne hj] at z
        exact z
      rw [List.getElem?_set_ne hj] at q
      exact a.sub j b z2 q
  pin := fun j z => by
    have n : i ≠ j := fun e => by subst e; rw [hp] at z; cases z
    rw [List.getElem?_set_ne n]
    exact a.pin j z
  fx := fun j s e h => by
    obtain ⟨e1, q1⟩ := a.fx j s e h
    have n : i ≠ j := fun z => by subst z; rw [hs] at e1; cases e1; rw [hf] at h; cases h
    rw [List.getElem?_set_ne n, List.getElem?_set_ne n]
    exact ⟨e1, q1⟩
  pso := fun j z h => by
    have n : i ≠ j := fun e => by subst e; rw [hp] at z; cases z
    refine a.pso j z ?_
    unfold owAt at h ⊢
    rw [List.getElem?_set_ne n] at h
    exact h
  len := by rw [List.length_set]; exact a.len
theorem stv_cases (a : A) (ρ : Rho) : (∃ d ρ', stv a ρ = .ok d ρ') ∨ stv a ρ = .stuck := by
  cases a with
  | val d => exact .inl ⟨d, ρ, rfl⟩
  | fr d => exact .inl ⟨d, ρ, rfl⟩
  | rf i =>
    cases q : ρ[i]? with
    | none => exact .inr (by simp [stv, bnd, slot, q])
    | some s =>
      cases s with
      | no => exact .inr (by simp [stv, bnd, slot, q, fail])
      | sh d => exact .inl ⟨d, ρ, by simp [stv, bnd, slot, q, ret]⟩
      | ow d => exact .inl ⟨d, ρ.set i (.sh d), by simp [stv, bnd, slot, q, ret, putSl]⟩
      | lk d => exact .inr (by simp [stv, bnd, slot, q, fail])
      | ex _ _ => exact .inr (by simp [stv, bnd, slot, q, fail])
/-- kept: from here on -/
theorem stv_g {a : A} {v : V} {d : D} (C : Clo EP K pn B) (b : B σ U H ρ) (h : RG EP K pn B σ U H ρ a v) (e : stv a ρ = .ok d ρ2) :
    ∃ U2, B σ U2 H ρ2 ∧ RD K U2 H d v ∧ Kp U U2 H H ∧ ρ2.length = ρ.length := by
  cases a with
  | val d' => cases e; exact ⟨U, b, h, Kp.refl, rfl⟩
  | rf i =>
    obtain ⟨U2, x1, x2, x3, _⟩ := stv_ok (H := H) (H1 := H) (a := .rf i) (C.r b) (Adv.refl (C.r b)) h e
    exact ⟨U2, C.step b x1.s, x2, x3, by rw [x1.r.len, (C.r b).len]⟩
  | fr d' =>
    cases e
    obtain ⟨p, rfl, o, n, σ1, U1, H1, ρ1, b1, a1, n0⟩ := h
    refine ⟨addU U p, C.step b1 ⟨⟨a1.st.keep, a1.st.trk, fun c z => .inl (a1.st.up c z), fun c z => z.elim (a1.st.new c) fun e => by subst e; exact .inr (.inl n0)⟩, a1.r.add o.there n, a1.sub, a1.pin, a1.fx, a1.pso, a1.len⟩, o.rd, Kp.add, rfl⟩
theorem SOk.bstv {a : A} {v : V} {f : D → M β} {k : β → St → (Addr → Prop) → Hp → Rho → Prop} (C : Clo EP K pn B) (b : B σ U H ρ) (h : RG EP K pn B σ U H ρ a v) (o : SOk K XC W B (Iv.bnd (stv a) f ρ) k) :
    ∃ d U2 ρ2, B σ U2 H ρ2 ∧ RD K U2 H d v ∧ Kp U U2 H H ∧ SOk K XC W B (f d ρ2) k := by
  unfold Iv.bnd at o
  rcases stv_cases a ρ with ⟨d, ρ2, e⟩ | e
  · rw [e] at o
    obtain ⟨U2, x1, x2, x3, _⟩ := stv_g C b h e
    exact ⟨d, U2, ρ2, x1, x2, x3, o⟩
  · rw [e] at o; exact o.elim
theorem SOk.putF {i : Nat} {s : Sl} {k : Unit → St → (Addr → Prop) → Hp → Rho → Prop} (o : SOk K XC W B (putF i s ρ) k) : ∃ s0, ρ[i]? = some s0 ∧ fixS s0 = false ∧ SOk K XC W B (.ok () (ρ.set i s)) k := by
  unfold Iv.putF bnd slot at o
  cases e : ρ[i]? with
  | none => rw [e] at o; exact o.elim
  | some s0 =>
    rw [e] at o
    obtain ⟨hf, o⟩ := SOk.grd o
    exact ⟨s0, rfl, by simpa using hf, o⟩
/-- assignment to a slot -/
theorem asgV_s {i : Nat} {a : A} {v : V} {k : Unit → St → (Addr → Prop) → Hp → Rho → Prop} (C : Clo EP K pn B) (b : B σ U H ρ) (h : RG EP K pn B σ U H ρ a v) (o : SOk K XC W B (asgV pn i a ρ) k) :
    ∃ U2 ρ2, B (σ.set i (some v)) U2 H ρ2 ∧ k () (σ.set i (some v)) U2 H ρ2 := by
  unfold asgV at o
  obtain ⟨hp, o1⟩ := SOk.grd o
  have hp : pn.getD i false = false := by simpa using hp
  cases a with
  | val d =>
    obtain ⟨s0, e, hf, o2⟩ := SOk.putF o1
    have s := C.step b ((AdvS.refl (C.r b)).putSh (i := i) (v := v) hp e hf h)
    exact ⟨U, _, s, o2 _ _ _ s⟩
  | fr d =>
    obtain ⟨p, rfl, ro, n, σ1, U1, H1, ρ1, b1, a1, n0⟩ := h
    obtain ⟨s0, e, hf, o2⟩ := SOk.putF o1
    have s := C.step b1 (a1.putOw (i := i) hp e hf ro n n0)
    exact ⟨U, _, s, o2 _ _ _ s⟩
  | rf j =>
    obtain ⟨d, U2, ρ2, b2, rd2, kp, o2⟩ := SOk.bstv C b h o1
    obtain ⟨s0, e, hf, o2⟩ := SOk.putF o2
    have s := C.step b2 ((AdvS.refl (C.r b2)).putSh (i := i) (v := v) hp e hf rd2)
    exact ⟨U2, _, s, o2 _ _ _ s⟩
end
end Iv

set_option linter.all false
set_option maxRecDepth 100000
set_option autoImplicit false
set_option Elab.async false
set_option maxHeartbeats 4000000
/-! Iv, part 17: readings of statements and targets. -/
namespace Iv
open PySem (Str Addr Value Obj Heap World Program Expr Stmt Scope Pos Shared Tok NameKind Operator CmpOp PyData)
open L2 (V Hp HO St upd SqL SqT Rd RelV Vals VK TE TT TA TS Cx Inv PE PT PA PS PSs upd_same upd_ne WX Takes Sp XK OpR CallR IxR R2 Dp DpAll Ends TG TGs PG PGs)
variable {EP : ExPin}

/-- the parameters that came owned are pinned -/
def hpn (pn : List Bool) (ρ0 : Rho) : Prop := ∀ i, owAt ρ0 i = true → pn.getD i false = true
/-- what a def hands out -/
def RF (K : PySem.W.Frag) (U : Addr → Prop) (H H0 : Hp) : A → V → Prop
  | .val d, v => RD K U H d v
  | .fr d, v => ∃ p, v = V.ref p ∧ RO K U H d p ∧ H0 p = none
  | .rf _, _ => False
def kF (K : PySem.W.Frag) (H0 : Hp) (D : Ends) : Fl → St → (Addr → Prop) → Hp → Rho → Prop
  | .nx, σ, _, H, _ => D.nx σ H
  | .bk, σ, _, H, _ => D.bk σ H
  | .ct, σ, _, H, _ => D.ct σ H
  | .rt a, σ, U, H, _ => ∀ v, RF K U H H0 a v → D.rt v H
/-- the set of states of a place in a def's body: base0 is the def's begin -/
structure Pl (EP : ExPin) (K : PySem.W.Frag) (pn : List Bool) (H0 : Hp) (B : BT) : Prop where
  clo : Clo EP K pn B
  bas : ∃ σ0 U0 ρ0, hpn pn ρ0 ∧ ∀ σ U H ρ, B σ U H ρ → AdvS EP K pn σ0 U0 H0 ρ0 σ U H ρ
section
variable (EP : ExPin) (K : PySem.W.Frag) (XC : String → Addr) (W : WX) (pn : List Bool)
def tF (m : M Fl) : TS := fun D σ H => ∃ (H0 : Hp) (B : BT) (ρ : Rho) (U : Addr → Prop), Pl EP K pn H0 B ∧ B σ U H ρ ∧ SOk K XC W B (m ρ) (kF K H0 D)
def tG (m : A → M Unit) : TG := fun v σ H Q => ∃ (B : BT) (ρ : Rho) (U : Addr → Prop) (a : A), Clo EP K pn B ∧ B σ U H ρ ∧ RG EP K pn B σ U H ρ a v ∧ SOk K XC W B (m a ρ) (fun _ σ' U' H' ρ' => Q σ' H')
def tGs (m : List D → M Unit) : TGs := fun vs σ H Q => ∃ (B : BT) (ρ : Rho) (U : Addr → Prop) (l : List D), Clo EP K pn B ∧ B σ U H ρ ∧ RL K U H l vs ∧ SOk K XC W B (m l ρ) (fun _ σ' U' H' ρ' => Q σ' H')
end
theorem ps_of {X : Cx} {st : Stmt} {t' : TS} (h : ∀ D σ H, t' D σ H → ∃ t : TS, PS X st t ∧ t D σ H) : PS X st t' :=
  ⟨fun pins s σ H D I q => let ⟨t, p, z⟩ := h D σ H q; p.run pins s σ H D I z⟩
theorem pg_of {X : Cx} {e : Expr} {t' : TG} (h : ∀ v σ H Q, t' v σ H Q → ∃ t : TG, PG X e t ∧ t v σ H Q) : PG X e t' :=
  ⟨fun pins s σ H v u Q I r q => let ⟨t, p, z⟩ := h v σ H Q q; p.run pins s σ H v u Q I r z⟩
theorem pgs_of {X : Cx} {es : List Expr} {t' : TGs} (h : ∀ vs σ H Q, t' vs σ H Q → ∃ t : TGs, PGs X es t ∧ t vs σ H Q) : PGs X es t' :=
  ⟨fun pins s σ H vs us Q I r q => let ⟨t, p, z⟩ := h vs σ H Q q; p.run pins s σ H vs us Q I r z⟩
theorem pss_of {X : Cx} {st : List Stmt} {t' : TS} (h : ∀ D σ H, t' D σ H → ∃ t : TS, PSs X st t ∧ t D σ H) : PSs X st t' :=
  ⟨fun pins s σ H D I q => let ⟨t, p, z⟩ := h D σ H q; p.run pins s σ H D I z⟩

section
variable {K : PySem.W.Frag} {XC : String → Addr} {W : WX} {pn : List Bool} {B : BT} {σ σ' : St} {U U' : Addr → Prop} {H H' H0 : Hp} {ρ ρ' : Rho} {D : Ends}
/-- an expression ahead -/
theorem tF_exp {m : M A} {f : A → M Fl} (h : tF EP K XC W pn (bnd m f) D σ H) : tM EP K XC W m σ H fun v H1 => ∃ (H0 : Hp) (B : BT) (ρ1 : Rho) (U1 : Addr → Prop) (a : A),
    Pl EP K pn H0 B ∧ B σ U1 H1 ρ1 ∧ RG EP K pn B σ U1 H1 ρ1 a v ∧ SOk K XC W B (f a ρ1) (kF K H0 D) := by
  obtain ⟨H0, B, ρ, U, P, b, o⟩ := h
  have r := P.clo.r b
  refine ⟨ρ, U, r, (SOk.exp P.clo b o).mono fun a U1 H1 ρ1 _ z v rv => ?_⟩
  obtain ⟨a1, b1, o1⟩ := z
  exact ⟨H0, B, ρ1, U1, a, P, b1, RA.rg r b a1 rv, o1⟩
theorem tF_expr {m : M A} (h : tF EP K XC W pn (bnd m fun _ => ret .nx) D σ H) : L2.tDrop (tM EP K XC W m) D σ H :=
  tM_mono (fun v H1 z => by
    obtain ⟨H0, B, ρ1, U1, a, P, b1, _, o⟩ := z
    exact o _ _ _ b1) (tF_exp h)
theorem tF_asg {m : M A} {f : A → M Unit} (h : tF EP K XC W pn (bnd m fun a => bnd (f a) fun _ => ret .nx) D σ H) : L2.tAsg (tM EP K XC W m) (tG EP K XC W pn f) D σ H :=
  tM_mono (fun v H1 z => by
    obtain ⟨H0, B, ρ1, U1, a, P, b1, rg, o⟩ := z
    refine ⟨B, ρ1, U1, a, P.clo, b1, rg, (SOk.seq o).mono fun _ σ2 U2 H2 ρ2 b2 z => ?_⟩
    exact z _ _ _ b2) (tF_exp h)
theorem retA_ok {a : A} {v : V} (P : Pl EP K pn H0 B) (b : B σ U H ρ) (h : RG EP K pn B σ U H ρ a v) (o : SOk K XC W B (bnd (retA pn a) (fun a => ret (.rt a)) ρ) (kF K H0 D)) : D.rt v H := by
  cases a with
  | val d => exact o _ _ _ b v h
  | fr d =>
    obtain ⟨p, rfl, ro, n, σ1, U1, H1, ρ1, b1, a1, n0⟩ := h
    obtain ⟨σ0, U0, ρ0, _, hb⟩ := P.bas
    exact o _ _ _ b _ ⟨p, rfl, ro, (hb _ _ _ _ b1).st.none_back n0⟩
  | rf i =>
    unfold retA at o
    by_cases hp : pn.getD i false = true
    · simp only [hp, if_true] at o
      rw [bnd_assoc] at o
      obtain ⟨d, U2, ρ2, b2, rd2, kp, o2⟩ := SOk.bstv P.clo b h o
      exact o2 _ _ _ b2 v rd2
    · have h' : σ[i]? = some (some v) := h
      simp only [hp, if_false, Bool.false_eq_true] at o
      rw [bnd_assoc] at o
      have r := P.clo.r b
      cases e : ρ[i]? with
      | none => rw [bnd_slot0 e] at o; exact o.elim
      | some s =>
        rw [bnd_slot e] at o
        cases s with
        | no => exact o.elim
        | ex _ _ => exact o.elim
        | lk _ => exact o.elim
        | sh d =>
          obtain ⟨w, hw, rr⟩ := r.sh i d e
          rw [h'] at hw; cases hw
          exact o _ _ _ b v rr
        | ow d =>
          obtain ⟨p, hp2, ro⟩ := r.ow i _ d e (.inl rfl)
          rw [h'] at hp2; cases hp2
          obtain ⟨σ0, U0, ρ0, hn, hb⟩ := P.bas
          have n0 : H0 p = none := by
            rcases (hb _ _ _ _ b).sub i p (held_owAt e (.inl rfl)) h' with ⟨z, _⟩ | z
            · exact absurd (hn i z) hp
            · exact z
          have a2 : AdvS EP K pn σ U H ρ σ U H (ρ.set i .no) := by
            refine ⟨.refl, r.clear i, fun j c z q => .inl ⟨(owAt_set no_nh z).2, q⟩, fun _ _ => rfl, fun j s e2 hf => ⟨?_, rfl⟩, fun j _ z => (owAt_set no_nh z).2, rfl⟩
            by_cases hj : i = j
            · subst hj; rw [e] at e2; cases e2; cases hf
            · rw [List.getElem?_set_ne hj]; exact e2
          have o2 : SOk K XC W B (.ok (Fl.rt (.fr d)) (ρ.set i .no)) (kF K H0 D) := o
          exact o2 _ _ _ (P.clo.step b a2) _ ⟨p, rfl, ro, n0⟩
theorem tF_ret {m : M A} (h : tF EP K XC W pn (bnd m fun a => bnd (retA pn a) fun a => ret (.rt a)) D σ H) : L2.tRet (tM EP K XC W m) D σ H :=
  tM_mono (fun v H1 z => by
    obtain ⟨H0, B, ρ1, U1, a, P, b1, rg, o⟩ := z
    exact retA_ok P b1 rg o) (tF_exp h)
theorem tF_nx (h : tF EP K XC W pn (ret .nx) D σ H) : L2.tNext D σ H := by
  obtain ⟨H0, B, ρ, U, P, b, o⟩ := h
  exact o _ _ _ b
theorem tF_bk (h : tF EP K XC W pn (ret .bk) D σ H) : L2.tBreak D σ H := by
  obtain ⟨H0, B, ρ, U, P, b, o⟩ := h
  exact o _ _ _ b
theorem tF_ct (h : tF EP K XC W pn (ret .ct) D σ H) : L2.tCont D σ H := by
  obtain ⟨H0, B, ρ, U, P, b, o⟩ := h
  exact o _ _ _ b
theorem tF_seq {m1 m2 : M Fl} (h : tF EP K XC W pn (bnd m1 fun f => match f with | .nx => m2 | f => ret f) D σ H) : L2.tSeq (tF EP K XC W pn m1) (tF EP K XC W pn m2) D σ H := by
  obtain ⟨H0, B, ρ, U, P, b, o⟩ := h
  refine ⟨H0, B, ρ, U, P, b, (SOk.seq o).mono fun f σ2 U2 H2 ρ2 b2 z => ?_⟩
  cases f with
  | nx => exact ⟨H0, B, ρ2, U2, P, b2, z⟩
  | bk => exact z _ _ _ b2
  | ct => exact z _ _ _ b2
  | rt a => exact z _ _ _ b2
theorem tF_if {m : M Bool} {m1 m2 : M Fl} (h : tF EP K XC W pn (bnd m fun k => if k = true then m1 else m2) D σ H) : L2.tIfS (tB EP K XC W m) (tF EP K XC W pn m1) (tF EP K XC W pn m2) D σ H := by
  obtain ⟨H0, B, ρ, U, P, b, o⟩ := h
  refine ⟨ρ, U, P.clo.r b, (SOk.exp P.clo b o).mono fun k U1 H1 ρ1 _ z => ?_⟩
  obtain ⟨a1, b1, o1⟩ := z
  cases k with
  | true => exact ⟨H0, B, ρ1, U1, P, b1, o1⟩
  | false => exact ⟨H0, B, ρ1, U1, P, b1, o1⟩
theorem tF_grd {c : Bool} {m : M Fl} (h : tF EP K XC W pn (bnd (grd c) fun _ => m) D σ H) : c = true ∧ tF EP K XC W pn m D σ H := by
  obtain ⟨H0, B, ρ, U, P, b, o⟩ := h
  obtain ⟨e, o⟩ := SOk.grd o
  exact ⟨e, H0, B, ρ, U, P, b, o⟩

/-! ### targets -/
theorem tG_var {i : Nat} {v : V} {Q : St → Hp → Prop} (h : tG EP K XC W pn (asgV pn i) v σ H Q) : L2.gName i v σ H Q := by
  obtain ⟨B, ρ, U, a, C, b, rg, o⟩ := h
  obtain ⟨U2, ρ2, b2, q⟩ := asgV_s C b rg o
  exact q
theorem tGs_nil {vs : List V} {Q : St → Hp → Prop} (h : ∃ (B : BT) (ρ : Rho) (U : Addr → Prop), Clo EP K pn B ∧ B σ U H ρ ∧ RL K U H [] vs ∧ SOk K XC W B (ret () ρ : Out Unit) (fun _ σ' U' H' ρ' => Q σ' H')) : L2.gNil vs σ H Q := by
  obtain ⟨B, ρ, U, C, b, rl, o⟩ := h
  unfold RL at rl
  exact ⟨rl, o _ _ _ b⟩
/-- the states that follow a given one -/
theorem Clo.after (C : Clo EP K pn B) : Clo EP K pn (fun σ' U' H' ρ' => B σ' U' H' ρ' ∧ AdvS EP K pn σ U H ρ σ' U' H' ρ') := ⟨fun b a => ⟨C.step b.1 a, b.2.trans a⟩, fun b => C.r b.1⟩
theorem tGs_cons {m : A → M Unit} {ms : List Iv.D → M Unit} {d : Iv.D} {l : List Iv.D} {vs : List V} {Q : St → Hp → Prop} (h : ∃ (B : BT) (ρ : Rho) (U : Addr → Prop), Clo EP K pn B ∧ B σ U H ρ ∧ RL K U H (d :: l) vs ∧ SOk K XC W B (bnd (m (.val d)) (fun _ => ms l) ρ) (fun _ σ' U' H' ρ' => Q σ' H')) :
    L2.gCons (tG EP K XC W pn m) (tGs EP K XC W pn ms) vs σ H Q := by
  obtain ⟨B, ρ, U, C, b, rl, o⟩ := h
  unfold RL at rl
  obtain ⟨v, vr, rfl, r1, r2⟩ := rl
  have r := C.r b
  refine ⟨v, vr, rfl, (fun σ' U' H' ρ' => B σ' U' H' ρ' ∧ AdvS EP K pn σ U H ρ σ' U' H' ρ'), ρ, U, .val d, C.after, ⟨b, AdvS.refl r⟩, r1, ((SOk.seq o).sub fun _ _ _ _ z => z.1).mono fun _ σ2 U2 H2 ρ2 b2 z => ?_⟩
  exact ⟨B, ρ2, U2, l, C, b2.1, RL.mono (b2.2.kp r) l vr r2, z⟩
theorem tG_tup {ts : List Tgt} {v : V} {Q : St → Hp → Prop} (h : tG EP K XC W pn (asgT pn (.tup ts)) v σ H Q) :
    L2.gTup K ts.length (tGs EP K XC W pn (asgTs pn ts)) v σ H Q ∨ L2.gLst K ts.length (tGs EP K XC W pn (asgTs pn ts)) v σ H Q := by
  obtain ⟨B, ρ, U, a, C, b, rg, o⟩ := h
  obtain ⟨d, _, c, o1⟩ := SOk.brd (C.r b) rg.ra o
  clear o
  obtain ⟨l, e, o2⟩ := SOk.bopt o1
  clear o1
  obtain ⟨hl, o3⟩ := SOk.grd o2
  clear o2
  have hl : l.length = ts.length := by simpa using hl
  cases d with
  | tup l' =>
    cases e
    obtain ⟨p, vs, rfl, s, rl⟩ := c.tup
    exact .inl ⟨p, vs, rfl, s.sq, by rw [rl.len, hl], B, ρ, U, l, C, b, rl, o3⟩
  | lst l' =>
    cases e
    obtain ⟨p, vs, rfl, s, rl⟩ := c.lst
    exact .inr ⟨p, vs, rfl, s, by rw [rl.len, hl], B, ρ, U, l, C, b, rl, o3⟩
  | _ => cases e
end
end Iv

set_option linter.all false
set_option maxRecDepth 100000
set_option autoImplicit false
set_option Elab.async false
set_option maxHeartbeats 4000000
/-! Iv, part 18: which statement of the text a compiled statement stands for; targets. -/
namespace Iv
open PySem (Str Addr Value Obj Heap World Program Expr Stmt Scope Pos Shared Tok NameKind Operator CmpOp PyData)
open L2 (V Hp HO St upd SqL SqT Rd RelV Vals VK TE TT TA TS Cx Inv PE PT PA PS PSs upd_same upd_ne WX Takes Sp XK OpR CallR IxR R2 Dp DpAll Ends TG TGs PG PGs)

def locS (sc : Scope) (x : Str) : Bool := match sc.names.lookup x with
  | some .local => true
  | _ => false
/-- a comprehension's list and the name exchanged -/
def swN (sc s : Scope) (p : Pos) (tg : Expr) : Bool := match tg with
  | .Name t pos => (if sc.kind.isAnnotationScope then PySem.ScopeKind.function else sc.kind) == .function && sc.names.lookup t == some .local && pos.line == p.line && !(s.names.any fun (n, k) => n == t && (k == .local || k == .cell))
  | _ => false
def swB (sc : Scope) (x tg : Expr) : Bool := match x with
  | .ListComp _ _ s p => swN sc s p tg
  | .SetComp _ _ s p => swN sc s p tg
  | .DictComp _ _ _ s p => swN sc s p tg
  | _ => false
section
variable (gi : GI) (N : List Str) (sc : Scope)
def noAs (hs : List (String × Option Nat × List CS)) : Bool := hs.all fun h => h.2.1.isNone
/-- what a for walks -/
def chkI (k : String) (s : List CE) (it : Expr) (tg : Expr) : Bool := (match iterArgs gi sc k it with | some es => chkL gi N sc s es | none => false) && kindOk k s.length tg
mutual
def chkS : CS → Stmt → Bool
  | .bad, _ => true
  | .asg t e, .Assign [tg] x _ => chkT N sc t tg && chk gi N sc e x && !(isTup tg && isTup x)
  | .six a i e, .Assign [.Subscript o ix _] x _ => chk gi N sc a o && chk gi N sc i ix && chk gi N sc e x && !(isComp x)
  | .sixT a ks e, .Assign [.Subscript o (.Tuple es _ _) _] x _ => chk gi N sc a o && chkL gi N sc ks es && chk gi N sc e x && !(isComp x)
  | .aug i o e, .AugAssign (.Name x _) o' y _ => o == o' && (match N[i]? with | some z => z == x | none => false) && locV sc x && chk gi N sc e y
  | .ret e, .Return (some x) _ => chk gi N sc e x
  | .ret (.cst .non), .Return none _ => true
  | .expr e, .Expr x _ => chk gi N sc e x && !(isComp x)
  | .ite c a b, .If x y z _ => chk gi N sc c x && chkSs a y && chkSs b z
  | .for_ t k s b, .For tg it body [] _ => chkT N sc t tg && chkI gi N sc k s it tg && !(isSet it) && chkSs b body
  | .pass, .Pass _ => true
  | .pass, .Expr (.Constant (.str _) _ _) _ => true
  | .brk, .Break _ => true
  | .cnt, .Continue _ => true
  | .raise c none, .Raise (some (.Call (.Name x _) [.Constant (.str m) _ _] [] _)) none _ => nmIs x c && glbB sc x && gi.cls.contains c
  | .try_ b hs, .Try body hds [] [] _ => chkSs b body && !hs.isEmpty && chkHs hs hds
  | _, _ => false
def chkSs : List CS → List Stmt → Bool
  | [], [] => true
  | s :: r, st :: sr => chkS s st && chkSs r sr
  | _, _ => false
def chkHs : List (String × Option Nat × List CS) → List PySem.ExceptHandler → Bool
  | [], [] => true
  | (c, none, su) :: r, .ExceptHandler (some (.Name x _)) none body _ :: hr => nmIs x c && glbB sc x && gi.cls.contains c && chkSs su body && !su.isEmpty && chkHs r hr
  | (c, some i, su) :: r, .ExceptHandler (some (.Name x _)) (some n) body _ :: hr => nmIs x c && glbB sc x && gi.cls.contains c && (match N[i]? with | some z => z == n | none => false) && locS sc n && chkSs su body && !su.isEmpty && chkHs r hr
  | _, _ => false
end
end

variable {EP : ExPin}
structure Gs (EP : ExPin) (XC : String → Addr) (hot : Bool) (k : Nat) (N : List Str) (sc : Scope) (W : WX) (X : Cx) : Prop where
  G : Gd EP XC hot k N sc W X
  hp : hot = false → PySem.PassesOwn (PySem.model X.prog X.w) X.A X.env X.xe
  stk : X.stack = X.env :: X.outer
  frm : X.env.frame = some X.env.locals
  fnc : ∀ x, X.fn x = true

section
variable {gi : GI} {N : List Str} {sc : Scope} {K : PySem.W.Frag} {XC : String → Addr} {W : WX} {X : Cx} {pn : List Bool}
theorem locS_of {x : Str} (h : locS sc x = true) : sc.names.lookup x = some .local := by
  unfold locS at h
  split at h
  · assumption
  · cases h
theorem locV_of {x : Str} (h : locV sc x = true) : L2.Loc sc x := by
  unfold locV at h
  split at h
  · rename_i e; exact .inl e
  · rename_i e; exact .inr e
  · cases h
theorem nAt {i : Nat} {x : Str} (h : (match N[i]? with | some y => y == x | none => false) = true) : N[i]? = some x := by
  cases z : N[i]? with
  | none => rw [z] at h; cases h
  | some y => rw [z] at h; rw [beq_iff_eq.mp h]
theorem notComp_sw {e : Expr} {tgt : Option Expr} {line : Nat} {env : PySem.Env} (h : isComp e = false) : PySem.swapsWith e tgt line env = pure false := by
  cases e <;> first | rfl | (exact absurd h (by simp [isComp]))
theorem sw_is {e tg : Expr} {line : Nat} {env : PySem.Env} (hs : env.scope = sc) : PySem.swapsWith e (some tg) line env = pure (swB sc e tg) := by
  subst hs
  cases e <;> first
    | rfl
    | (cases tg <;> rfl)
theorem noSwap {tg e : Expr} {env : PySem.Env} {t : Tgt} (ht : chkT N sc t tg = true) (h : (isTup tg && isTup e) = false) : PySem.swappedStores [tg] e env = pure none := by
  cases tg <;> first
    | rfl
    | (cases t <;> simp [chkT] at ht; done)
    | (cases e <;> first | rfl | (exact absurd h (by simp [isTup])))
theorem tgEach {tg : Expr} {es : List Expr} {env : PySem.Env} {t : Tgt} (ht : chkT N sc t tg = true) : (PySem.assignEach (tg :: es) env).map (·.2) = PySem.assign tg env :: (PySem.assignEach es env).map (·.2) ∧ (PySem.assignEach (tg :: es) env).length = (PySem.assignEach es env).length + 1 ∧ ((PySem.assignEach es env).findIdx? (·.1) = none → (PySem.assignEach (tg :: es) env).findIdx? (·.1) = none) := by
  cases tg <;> first
    | (cases t <;> simp [chkT] at ht; done)
    | (refine ⟨rfl, rfl, fun h => ?_⟩; unfold PySem.assignEach; rw [List.findIdx?_cons]; simp [h])
theorem tgsEach {env : PySem.Env} : ∀ {ts : List Tgt} {es : List Expr}, chkTs N sc ts es = true → (PySem.assignEach es env).length = ts.length ∧ (PySem.assignEach es env).findIdx? (·.1) = none
  | [], [], _ => ⟨rfl, rfl⟩
  | t :: ts, e :: es, h => by
    simp only [chkTs, Bool.and_eq_true] at h
    obtain ⟨h1, h2⟩ := tgsEach (env := env) h.2
    obtain ⟨_, g2, g3⟩ := tgEach (env := env) (es := es) h.1
    exact ⟨by rw [g2, h1]; rfl, g3 h2⟩
  | [], _ :: _, h => by simp [chkTs] at h
  | _ :: _, [], h => by simp [chkTs] at h
mutual
theorem sT : ∀ (t : Tgt) (tg : Expr), X.N = N → (∀ x, locV sc x = true → L2.Loc X.env.scope x ∧ (X.fn x = true ∨ X.env.scope.names.lookup x = some .local)) → N.Nodup → (isVarT t = true ∨ X.calm = true) → chkT N sc t tg = true → PG X tg (tG EP X.K XC W pn (asgT pn t))
  | .var i, tg, hN, hf, nd, hc, h => by
    cases tg with
    | Name x p =>
      simp only [chkT, Bool.and_eq_true] at h
      obtain ⟨hl, hl2⟩ := hf x h.2
      exact pg_of fun v σ H Q q => ⟨_, L2.pg_name (by rw [hN]; exact nd) (by rw [hN]; exact nAt h.1) hl hl2, tG_var q⟩
    | _ => simp [chkT] at h
  | .tup ts, tg, hN, hf, nd, hc, h => by
    cases tg with
    | Tuple es k p =>
      simp only [chkT] at h
      have calm : X.calm = true := hc.elim (fun z => by cases z) id
      have hts := sTs ts es hN hf nd calm h
      obtain ⟨h1, h2⟩ := tgsEach (env := X.env) h
      exact pg_of fun v σ H Q q => by
        rcases tG_tup q with q | q
        · exact ⟨_, L2.pg_tup calm hts h1 h2, q⟩
        · exact ⟨_, L2.pg_lst calm hts h1 h2, q⟩
    | _ => simp [chkT] at h
theorem sTs : ∀ (ts : List Tgt) (es : List Expr), X.N = N → (∀ x, locV sc x = true → L2.Loc X.env.scope x ∧ (X.fn x = true ∨ X.env.scope.names.lookup x = some .local)) → N.Nodup → X.calm = true → chkTs N sc ts es = true → PGs X es (tGs EP X.K XC W pn (asgTs pn ts))
  | [], es, hN, hf, nd, hc, h => by
    cases es with
    | nil => exact pgs_of fun vs σ H Q q => ⟨_, L2.pgs_nil, by
        obtain ⟨B, ρ, U, l, C, b, rl, o⟩ := q
        cases l with
        | nil => exact tGs_nil ⟨B, ρ, U, C, b, rl, o⟩
        | cons d l => exact o.elim⟩
    | cons _ _ => simp [chkTs] at h
  | t :: ts, es, hN, hf, nd, hc, h => by
    cases es with
    | nil => simp [chkTs] at h
    | cons e es =>
      simp only [chkTs, Bool.and_eq_true] at h
      have h1 := sT t e hN hf nd (.inr hc) h.1
      have h2 := sTs ts es hN hf nd hc h.2
      exact pgs_of fun vs σ H Q q => ⟨_, L2.pgs_cons h1 h2 (tgEach h.1).1, by
        obtain ⟨B, ρ, U, l, C, b, rl, o⟩ := q
        cases l with
        | nil => exact o.elim
        | cons d l => exact tGs_cons ⟨B, ρ, U, C, b, rl, o⟩⟩
end
end
end Iv

set_option linter.all false
set_option maxRecDepth 100000
set_option autoImplicit false
set_option Elab.async false
set_option maxHeartbeats 4000000
/-! Iv, part 18b: enumerate of a tuple. -/
namespace IvEn
open PySem PySem.Spec PyProof.Rows L2
open AutoSeq1 (wpAny_loadPart')

theorem newT (t : Addr) (its : Array Value) (m : Nat) (dd : Option Addr) (sls : Array (Option Value)) :
    Meets (Builtin.«enumerate.__new__» ⟨[.type "enumerate", .ref t], []⟩) (fun _ R s => s.heap.get? t = some { cls := .type "tuple", dict := dd, data := .seq its m, slots := sls } ∧
      R (.ok (.ret (.ref (s.heap.push { cls := .type "tuple_iterator", data := .fields #[.ref t, .int 0 0] }).objs.size)))
        { s with heap := (s.heap.push { cls := .type "tuple_iterator", data := .fields #[.ref t, .int 0 0] }).push { cls := .type "enumerate", data := .fields #[.none, .bool false, .ref s.heap.objs.size, rawInt 0, .none, .none] } }) :=
  .of_wp fun prog w A R s h => by
    obtain ⟨hp, g, d, tk, os⟩ := s; obtain ⟨ht, h⟩ := h
    have hsub := sub_enumerate
    have hTu : Heap.IsTuple (Shared.heap ⟨hp, g, d, tk, os⟩) t its := ⟨_, ht, rfl, m, rfl⟩
    wp_walk using wpAny_loadPart' ht
    refine wpAny_stack_any fun st => wpAny_pure ?_
    split
    · rename_i c _ _ _ _ _
      cases (c == Value.type "enumerate")
      · wp_walk using wpAny_loadPart' ht, wpAny_pyIter_tuple hTu
        exact ⟨_, rfl, h⟩
      · wp_walk using wpAny_loadPart' ht, wpAny_pyIter_tuple hTu
        exact ⟨_, rfl, h⟩
    · wp_walk using wpAny_loadPart' ht, wpAny_pyIter_tuple hTu
      exact ⟨_, rfl, h⟩
section
variable {prog : Program} {w : World} {A : Around} {E : Value → Shared → Prop} {s : Shared}
theorem call_enT {t : Addr} {its : Array Value} {Q : Value → Shared → Prop} (hT : s.heap.IsTuple t its)
    (h : ∀ h', IsEnum h' (s.heap.objs.size + 1) s.heap.objs.size 0 .none → h'.IsTupleIter s.heap.objs.size t 0 → (∀ b o, s.heap.get? b = some o → h'.get? b = some o) → Q (.ref (s.heap.objs.size + 1)) { s with heap := h' }) :
    wpAny (model prog w) A (call (.type "enumerate") [.ref t]) Q E s := by
  obtain ⟨⟨c, dct, dt, sl⟩, hl, hc, n, hd⟩ := hT
  obtain rfl : c = .type "tuple" := hc
  obtain rfl : dt = .seq its n := hd
  refine callType_new F.called_enumerate (by decide) (F.typeCall_enumerate_1 _) (F.newCall_enumerate_1 _) (fun obj => F.args_object_init_2 obj _) F.entry_enumerate_new (newT t its n dct sl) ⟨hl, ?_⟩
  have size1 : (s.heap.push { cls := .type "tuple_iterator", data := .fields #[.ref t, .int 0 0] }).objs.size = s.heap.objs.size + 1 := Heap.size_push ..
  show _ ∧ _
  rw [size1]
  have isE : IsEnum ((s.heap.push { cls := .type "tuple_iterator", data := .fields #[.ref t, .int 0 0] }).push
      { cls := .type "enumerate", data := .fields #[.none, .bool false, .ref s.heap.objs.size, rawInt 0, .none, .none] }) (s.heap.objs.size + 1) s.heap.objs.size 0 .none := by
    have z := Heap.get?_push_size (s.heap.push { cls := .type "tuple_iterator", data := .fields #[.ref t, .int 0 0] })
      (o := { cls := .type "enumerate", data := .fields #[.none, .bool false, .ref s.heap.objs.size, rawInt 0, .none, .none] }) rfl
    rw [size1] at z; exact z
  exact ⟨⟨_, isE, rfl⟩, h _ isE ⟨_, Heap.get?_push_of_some _ (Heap.get?_push_size _ rfl), rfl, rfl⟩ fun b o x => Heap.get?_push_of_some _ (Heap.get?_push_of_some _ x)⟩
end
theorem drawsT {prog : Program} {w : World} {A : Around} (hh : A.handled = none) (it t : Addr) (hne : t ≠ it) (its : Array Value) :
    Draws prog w A it [it, t] its.size (fun i v => its[i]? = some v) (fun i h => h.IsTupleIter it t i ∧ h.IsTuple t its) where
  live := fun _ _ st => let ⟨o, ho, _⟩ := st.1; ⟨o, ho⟩
  frame := fun _ _ _ st hk => ⟨let ⟨o, ho, r⟩ := st.1; ⟨o, hk it (by simp) o ho, r⟩, let ⟨o, ho, r⟩ := st.2; ⟨o, hk t (by simp) o ho, r⟩⟩
  item := fun i s Q E hi st hQ => by
    refine wpAny_nextOf_tuple_item st.1 st.2 (x := its[i]) (by simp [hi]) fun h' hit' hs' => ?_
    exact hQ _ h' s.toks (by simp [hi]) ⟨hit', let ⟨o, ho, r⟩ := st.2; ⟨o, hs'.extBut t o hne ho, r⟩⟩ hs'
  done := fun s Q E st hE => wpAny_nextOf_tuple_end hh st.1 st.2 (by simp) hE
theorem enT_end {prog : Program} {w : World} {A : Around} {E : Value → Shared → Prop} {s : Shared} {e it t : Addr} {its : Array Value} {i : Nat} {j : Int} {old : Value} {Q : Option Value → Shared → Prop} (hh : A.handled = none)
    (he : IsEnum s.heap e it j old) (hit : s.heap.IsTupleIter it t i) (ht : s.heap.IsTuple t its) (hx : its[i]? = none) (hQ : ∀ h', Heap.ExtBut it s.heap h' → Q none { s with heap := h' }) : wpAny (model prog w) A (pyNext (.ref e)) Q E s := by
  have isT : s.TypeIs (.ref e) "enumerate" := ⟨_, he, rfl⟩
  unfold pyNext
  refine wpAny_bind (wpAny_attempt (wpAny_callSpecial?_slot (name := Str.ofString "__next__") isT F.slot_enumerate_next
    (wpAny_call_entry F.slot_enumerate_next isT F.entry_enumerate_next ?_ (F.args_enumerate_next_1 _))))
  show wpAny _ _ (field (.ref e) 2 >>= _) _ _ _
  refine wpAny_bind (wpAny_field he rfl (x := .ref it) rfl ?_)
  refine wpAny_bind (wpAny_nextOf_tuple_end (show A.in1.handled = none from hh) hit ht hx fun h' x ext isStop => ?_)
  obtain ⟨o, ho, hc⟩ := isStop
  refine wpAny_bind (wpAny_isInstance (T := "StopIteration") (b := true) ⟨o, ho, hc⟩ isSubtype_stop ?_)
  exact wpAny_pure (hQ _ ext)
/-- the tuple at a, each item in a new pair -/
def IteT (K : PySem.W.Frag) (a : Addr) : It :=
  ⟨fun i H => ∃ (xs : List V) (x : V), SqT K H a xs ∧ xs[i]? = some x, fun i H v H' => ∃ T x, v = .ref T ∧ H T = none ∧ H' = upd H T (.tup [.int (i : Nat), x]) ∧ ∀ xs, SqT K H a xs → xs[i]? = some x, fun i H => ∃ xs : List V, SqT K H a xs ∧ xs.length ≤ i⟩
theorem turn_enT {P : Program} {w : World} {K : PySem.W.Frag} {elts : List Expr} {kk : Nat} {tpos : Pos} (a e it : Addr) (hta : a ≠ it) (hea : e ≠ a) :
    Turn P w K (.Tuple elts kk tpos) (IteT K a) [e, it] e (fun i h => (∃ old, IsEnum h e it ((i : Nat) : Int) old) ∧ h.IsTupleIter it a i ∧ e ≠ it) where
  mem := by simp
  obj := fun i h st b hb => by
    obtain ⟨⟨old, he⟩, ⟨o, ho, hc, hd⟩, _⟩ := st
    rcases (show b = e ∨ b = it by simpa using hb) with z | z
    · rw [z]; exact ⟨_, he, fun v q => nomatch q⟩
    · rw [z]; exact ⟨o, ho, fun v q => by rw [hd] at q; cases q⟩
  keep := fun i h h' st k => let ⟨⟨old, he⟩, ⟨o, ho, r⟩, hne⟩ := st; ⟨⟨old, k e (by simp) _ he⟩, ⟨o, k it (by simp) o ho, r⟩, hne⟩
  item := by
    intro X hP hw hK hc i pins s σ H E I hf st hg
    subst hP hw hK
    obtain ⟨⟨old, he⟩, hit, hne⟩ := st
    obtain ⟨xs, x, hq, hx⟩ := hg
    obtain ⟨its, rv, p, hz⟩ := I.tuple hq
    obtain ⟨u, hu, ru⟩ := rv.get hx
    have inE : e < s.heap.objs.size := Heap.lt_size he
    have inI : it < s.heap.objs.size := by obtain ⟨_, q, _⟩ := hit; exact Heap.lt_size q
    have hsz : i < its.toArray.size := by
      have := (List.getElem?_eq_some_iff.mp hu).1
      simpa using this
    refine wpAny_pyNext_enum_itemD (n := its.toArray.size) (drawsT (A := X.A.in1) (show X.A.in1.handled = none from I.ok.hd hc) it a hta its.toArray) he ⟨hit, p⟩ hsz hne (fun z => by simp only [List.mem_cons, List.not_mem_nil, or_false] at z; exact z.elim hne hea) fun y h' tk hy ho hit' hT _ hk => ?_
    have ey : y = u := by
      have hy' : its.toArray[i]? = some y := hy
      have h1 : its[i]? = some y := by simpa using hy'
      rw [hu] at h1
      exact (Option.some.inj h1).symm
    subst ey
    refine ⟨_, rfl, wpAny_letOwnedTupleGo_enum (s := { s with heap := h', toks := tk + 1 }) ho fun h'' he' sb => ?_⟩
    have hT2 : h''.get? s.heap.objs.size = some { cls := .type "tuple", data := .seq #[.int i tk, y] } := (sb.2 _ (Nat.ne_of_gt inE)).trans hT
    have fresh : ObjOk X.prog X.w (upd H s.heap.objs.size (.tup [.int (i : Nat), x])) h'' s.heap.objs.size (.tup [.int (i : Nat), x]) :=
      ⟨(show 2 ≤ sizeLine by decide), [.int i tk, y], .cons ⟨_, rfl⟩ (.cons ru .nil), ⟨_, hT2, rfl, _, rfl⟩⟩
    have J : Inv X pins σ (upd H s.heap.objs.size (.tup [.int (i : Nat), x])) { s with heap := h'', toks := tk + 1 } :=
      I.turnedNew (ch := [e, it]) (fun b ob hb q => (sb.2 b (fun z => hb (by simp [z]))).trans (hk b ob (fun z => hb (by simp [z])) (fun z => hb (by simp [z])) q)) hf (Nat.le_refl _) fresh
    have uniq : ∀ ys, SqT X.K H a ys → ys[i]? = some x := fun ys hys => by
      rw [I.tuple_inj hys hq]; exact hx
    obtain ⟨oi, hoi, hri⟩ := hit'.1
    refine ⟨.ref s.heap.objs.size, _, J, rfl, ⟨_, x, rfl, I.hok.fresh (Nat.le_refl _), rfl, uniq⟩, ⟨⟨y, ?_⟩, ⟨oi, (sb.2 it (Ne.symm hne)).trans hoi, hri⟩, hne⟩, fun b hb => ?_⟩
    · have cast1 : ((i + 1 : Nat) : Int) = (i : Int) + 1 := by omega
      rw [cast1]; exact he'
    · have inB : b < s.heap.objs.size := by
        rcases (show b = e ∨ b = it by simpa using hb) with z | z
        · rw [z]; exact inE
        · rw [z]; exact inI
      rw [upd_ne (Nat.ne_of_lt inB)]
      exact (hf b hb).1
  done := by
    intro X hP hw hK hc i pins s σ H E I hf st hg
    subst hP hw hK
    obtain ⟨⟨old, he⟩, hit, hne⟩ := st
    obtain ⟨xs, hq, hx⟩ := hg
    obtain ⟨its, rv, p, hz⟩ := I.tuple hq
    obtain ⟨f0, f1, f2, f3, f4, f5⟩ := hf it (by simp)
    have len := rv.length
    refine enT_end (I.ok.hd hc) he hit p (by simp; omega) fun h' eb => ⟨rfl, I.turned (t' := s.toks) (fun b o hb q => eb b o hb q) f0 f1 f3 f4 f5⟩
  self := fun A i s Q E st h => let ⟨⟨_, he⟩, _⟩ := st; wpAny_pyIter_enum he h
def iEnA (K : PySem.W.Frag) (ta : TA) : TI := fun σ H R => ta σ H fun vs H1 => ∃ a xs, vs = [.ref a] ∧ ((SqL K H1 a xs ∧ R (Ite K a) H1) ∨ (SqT K H1 a xs ∧ R (IteT K a) H1))
theorem pi_enA {X : Cx} {e : Expr} {ta : TA} {p pos tpos : Pos} {elts : List Expr} {kk : Nat} (hg : Gl X "enumerate") (hm : X.mg "enumerate" = none) (ha : PA X [e] ta) (hs : starEach [e] X.env = [(false, eval e X.env)]) :
    PI X (.Tuple elts kk tpos) (.Call (.Name "enumerate" p) [e] [] pos) (iEnA X.K ta) := by
  refine ⟨fun pins s σ H R I0 h0 => ?_⟩
  refine Call_ (ld_blt I0 hg hm boot_enumerate (PyProof.Rows.callWith_type1 (thn (ha.run pos pins s σ H _ I0 h0) fun us s1 ⟨vs, H1, J1, r1, q1⟩ => ?_) hs rfl))
  obtain ⟨a, xs, ex, q1⟩ := q1
  subst ex
  cases r1 with
  | cons r rr =>
    cases rr
    cases r
    have newer : ∀ b, b ∈ [s1.heap.objs.size + 1, s1.heap.objs.size] → FpOk X pins H1 b := fun b hb => by
      have le_ : s1.heap.objs.size ≤ b := by
        rcases (show b = s1.heap.objs.size + 1 ∨ b = s1.heap.objs.size by simpa using hb) with z | z
        · rw [z]; exact Nat.le_add_right _ _
        · rw [z]; exact Nat.le_refl _
      exact J1.fpOk le_ (J1.hok.fresh le_)
    rcases q1 with ⟨hq, q⟩ | ⟨hq, q⟩
    · obtain ⟨its, rv, pl, _⟩ := J1.list hq
      refine call_enumerate_list pl.isList fun h' he hit _ hk => wpAny_pyIter_enum he ?_
      exact ⟨s1.heap.objs.size + 1, [s1.heap.objs.size + 1, s1.heap.objs.size], _, _, H1, rfl, J1.kept (t' := s1.toks) hk, turn_enum a (s1.heap.objs.size + 1) s1.heap.objs.size, ⟨⟨.none, he⟩, hit, Nat.succ_ne_self _⟩, newer, q⟩
    · obtain ⟨its, rv, pt, _⟩ := J1.tuple hq
      have inA : a < s1.heap.objs.size := by obtain ⟨_, z, _⟩ := id pt; exact Heap.lt_size z
      refine call_enT (show s1.heap.IsTuple a its.toArray from pt) fun h' he hit hk => wpAny_pyIter_enum he ?_
      exact ⟨s1.heap.objs.size + 1, [s1.heap.objs.size + 1, s1.heap.objs.size], _, _, H1, rfl, J1.kept (t' := s1.toks) hk, turn_enT a (s1.heap.objs.size + 1) s1.heap.objs.size (Nat.ne_of_lt inA) (fun z => absurd inA (by rw [← z]; exact Nat.not_lt.mpr (Nat.le_succ _))), ⟨⟨.none, he⟩, hit, Nat.succ_ne_self _⟩, newer, q⟩
end IvEn

set_option linter.all false
set_option maxRecDepth 100000
set_option autoImplicit false
set_option Elab.async false
set_option maxHeartbeats 4000000
/-! Iv, part 18c: zip of two, each a list or a tuple. -/
namespace IvZp
open PySem PySem.Spec PyProof.Rows L2
def Sq2 (t : Bool) (K : PySem.W.Frag) (H : Hp) (a : Addr) (xs : List V) : Prop := if t = true then SqT K H a xs else SqL K H a xs
def IsIt (t : Bool) (h : Heap) (it a : Addr) (i : Nat) : Prop := if t = true then h.IsTupleIter it a i else h.IsListIter it a i
def IsSq (t : Bool) (h : Heap) (a : Addr) (its : Array Value) : Prop := if t = true then h.IsTuple a its else h.IsList a its
theorem isIt_at {t : Bool} {h h' : Heap} {it a : Addr} {i : Nat} (st : IsIt t h it a i) (k : ∀ o, h.get? it = some o → h'.get? it = some o) : IsIt t h' it a i := by
  cases t
  · exact Heap.IsListIter.at (show h.IsListIter it a i from st) k
  · exact Heap.IsTupleIter.at (show h.IsTupleIter it a i from st) k
theorem isSq_at {t : Bool} {h h' : Heap} {a : Addr} {its : Array Value} (st : IsSq t h a its) (k : ∀ o, h.get? a = some o → h'.get? a = some o) : IsSq t h' a its := by
  cases t
  · exact Heap.IsList.at (show h.IsList a its from st) k
  · exact Heap.IsTuple.at (show h.IsTuple a its from st) k
theorem isSq_lt {t : Bool} {h : Heap} {a : Addr} {its : Array Value} (st : IsSq t h a its) : a < h.objs.size := by
  cases t
  · obtain ⟨_, z, _⟩ := (show h.IsList a its from st); exact Heap.lt_size z
  · obtain ⟨_, z, _⟩ := (show h.IsTuple a its from st); exact Heap.lt_size z
theorem isIt_obj {t : Bool} {h : Heap} {it a : Addr} {i : Nat} (st : IsIt t h it a i) : ∃ o, h.get? it = some o ∧ ∀ v, o.data ≠ .cell v := by
  cases t
  · obtain ⟨o, z, _, d⟩ := (show h.IsListIter it a i from st); exact ⟨o, z, fun v q => by rw [d] at q; cases q⟩
  · obtain ⟨o, z, _, d⟩ := (show h.IsTupleIter it a i from st); exact ⟨o, z, fun v q => by rw [d] at q; cases q⟩
theorem draws2 {prog : Program} {w : World} {A : Around} (t : Bool) (hh : A.handled = none) (it a : Addr) (hne : a ≠ it) (its : Array Value) :
    Draws prog w A it [it, a] its.size (fun i v => its[i]? = some v) (fun i h => IsIt t h it a i ∧ IsSq t h a its) := by
  cases t
  · exact Draws.list hh it a hne its
  · exact Draws.tuple hh it a hne its
/-- one that is at its end -/
theorem drawsEnd {prog : Program} {w : World} {A : Around} (t : Bool) (hh : A.handled = none) (it a : Addr) (i : Nat) (its : Array Value) (he : its[i]? = none) :
    Draws prog w A it [it, a] i (fun _ _ => True) (fun j h => j = i ∧ IsIt t h it a i ∧ IsSq t h a its) where
  live := fun _ _ st => let ⟨o, ho, _⟩ := isIt_obj st.2.1; ⟨o, ho⟩
  frame := fun _ _ _ st hk => ⟨st.1, isIt_at st.2.1 fun o e => hk it (by simp) o e, isSq_at st.2.2 fun o e => hk a (by simp) o e⟩
  item := fun j s Q E hj st _ => absurd st.1 (Nat.ne_of_lt hj)
  done := fun s Q E st hE => by
    obtain ⟨_, s1, s2⟩ := st
    cases t
    · exact wpAny_nextOf_list_end hh s1 s2 he hE
    · exact wpAny_nextOf_tuple_end hh s1 s2 he hE
/-- both as they stand at each turn, the items in new pairs -/
def ItzM (t1 t2 : Bool) (K : PySem.W.Frag) (a b : Addr) : It :=
  ⟨fun i H => ∃ (xs ys : List V) (x y : V), Sq2 t1 K H a xs ∧ Sq2 t2 K H b ys ∧ xs[i]? = some x ∧ ys[i]? = some y,
    fun i H v H' => ∃ T x y, v = .ref T ∧ H T = none ∧ H' = upd H T (.tup [x, y]) ∧ (∀ xs, Sq2 t1 K H a xs → xs[i]? = some x) ∧ ∀ ys, Sq2 t2 K H b ys → ys[i]? = some y,
    fun i H => ∃ xs ys : List V, Sq2 t1 K H a xs ∧ Sq2 t2 K H b ys ∧ (xs.length ≤ i ∨ ys.length ≤ i)⟩
section
variable {X : Cx} {pins : List (Addr × Obj)} {σ : L2.St} {H : Hp} {s : Shared}
theorem inv2 {t : Bool} {a : Addr} {xs : List V} (I : Inv X pins σ H s) (q : Sq2 t X.K H a xs) : ∃ its : List Value, Vals xs its ∧ IsSq t s.heap a its.toArray := by
  cases t
  · obtain ⟨its, rv, p, _⟩ := I.list (show SqL X.K H a xs from q); exact ⟨its, rv, p.isList⟩
  · obtain ⟨its, rv, p, _⟩ := I.tuple (show SqT X.K H a xs from q); exact ⟨its, rv, p⟩
theorem inj2 {t : Bool} {a : Addr} {xs ys : List V} (I : Inv X pins σ H s) (q : Sq2 t X.K H a xs) (q' : Sq2 t X.K H a ys) : xs = ys := by
  cases t
  · exact I.list_inj (show SqL X.K H a xs from q) (show SqL X.K H a ys from q')
  · exact I.tuple_inj (show SqT X.K H a xs from q) (show SqT X.K H a ys from q')
end
theorem turn_zipM {P : Program} {w : World} {K : PySem.W.Frag} {elts : List Expr} {kk : Nat} {tpos : Pos} {t1 t2 : Bool} {a b z TI TO i1 i2 : Addr} (S : ZipSep2 z TI TO i1 i2 [i1, a] [i2, b]) (ha : a ≠ i1) (hb : b ≠ i2) :
    Turn P w K (.Tuple elts kk tpos) (ItzM t1 t2 K a b) [z, TI, TO, i1, i2] z (fun i h => IsZip h z TI TO .none ∧ IsTupOf2 h TI (.ref i1) (.ref i2) ∧ (∃ x y, IsTupOf2 h TO x y) ∧ IsIt t1 h i1 a i ∧ IsIt t2 h i2 b i) where
  mem := by simp
  obj := fun i h st c hc => by
    obtain ⟨hz, hTI, ⟨x, y, hTO⟩, q1, q2⟩ := st
    rcases (show c = z ∨ c = TI ∨ c = TO ∨ c = i1 ∨ c = i2 by simpa using hc) with q | q | q | q | q
    · rw [q]; exact ⟨_, hz, fun v q => nomatch q⟩
    · rw [q]; exact ⟨_, hTI, fun v q => nomatch q⟩
    · rw [q]; exact ⟨_, hTO, fun v q => nomatch q⟩
    · rw [q]; exact isIt_obj q1
    · rw [q]; exact isIt_obj q2
  keep := fun i h h' st k => by
    obtain ⟨hz, hTI, ⟨x, y, hTO⟩, q1, q2⟩ := st
    exact ⟨k z (by simp) _ hz, k TI (by simp) _ hTI, ⟨x, y, k TO (by simp) _ hTO⟩, isIt_at q1 fun o q => k i1 (by simp) o q, isIt_at q2 fun o q => k i2 (by simp) o q⟩
  item := by
    intro X hP hw hK hc i pins s σ H E I hf st hg
    subst hP hw hK
    obtain ⟨hz, hTI, ⟨x0, y0, hTO⟩, q1, q2⟩ := st
    obtain ⟨xs, ys, x, y, hqx, hqy, hx, hy⟩ := hg
    obtain ⟨its, rv, p⟩ := inv2 I hqx
    obtain ⟨its2, rv2, p2⟩ := inv2 I hqy
    obtain ⟨u, hu, ru⟩ := rv.get hx
    obtain ⟨u2, hu2, ru2⟩ := rv2.get hy
    have inZ : z < s.heap.objs.size := Heap.lt_size hz
    have n1 : i < its.toArray.size := by have := (List.getElem?_eq_some_iff.mp hu).1; simpa using this
    have n2 : i < its2.toArray.size := by have := (List.getElem?_eq_some_iff.mp hu2).1; simpa using this
    have hh : X.A.in1.handled = none := I.ok.hd hc
    refine wpAny_pyNext_zipD2_item S (draws2 t1 hh i1 a ha its.toArray) (draws2 t2 hh i2 b hb its2.toArray) hz hTI hTO ⟨q1, p⟩ ⟨q2, p2⟩ n1 n2 fun v1 v2 h' tk w1 w2 z' TO' st1 st2 hT hsz hk => ?_
    have e1 : v1 = u := by
      have w1 : its.toArray[i]? = some v1 := w1
      have w1 : its[i]? = some v1 := by simpa using w1
      rw [hu] at w1; exact (Option.some.inj w1).symm
    have e2 : v2 = u2 := by
      have w2 : its2.toArray[i]? = some v2 := w2
      have w2 : its2[i]? = some v2 := by simpa using w2
      rw [hu2] at w2; exact (Option.some.inj w2).symm
    subst e1 e2
    refine ⟨_, rfl, wpAny_letOwnedTupleGo_zip (s := { s with heap := h', toks := tk }) z' fun h'' z'' sb => ?_⟩
    have hT2 : h''.get? s.heap.objs.size = some { cls := .type "tuple", data := .seq #[v1, v2] } := (sb.2 _ (Nat.ne_of_gt inZ)).trans hT
    have fresh : ObjOk X.prog X.w (upd H s.heap.objs.size (.tup [x, y])) h'' s.heap.objs.size (.tup [x, y]) :=
      ⟨(show 2 ≤ sizeLine by decide), [v1, v2], .cons ru (.cons ru2 .nil), ⟨_, hT2, rfl, _, rfl⟩⟩
    have J : Inv X pins σ (upd H s.heap.objs.size (.tup [x, y])) { s with heap := h'', toks := tk } :=
      I.turnedNew (ch := [z, TI, TO, i1, i2]) (fun c o hb q => (sb.2 c (fun g => hb (by simp [g]))).trans (hk c o (fun g => hb (by simp [g])) (fun g => hb (by simp [g])) (fun g => hb (by simp [g])) (fun g => hb (by simp [g])) q)) hf (Nat.le_refl _) fresh
    have zi1 : i1 ≠ z := fun e => S.zf1 (by simp [e])
    have zi2 : i2 ≠ z := fun e => S.zf2 (by simp [e])
    refine ⟨.ref s.heap.objs.size, _, J, rfl, ⟨_, x, y, rfl, I.hok.fresh (Nat.le_refl _), rfl, fun l hl => by rw [inj2 I hl hqx]; exact hx, fun l hl => by rw [inj2 I hl hqy]; exact hy⟩, ⟨z'', ?_, ⟨_, _, (sb.2 _ S.TOz).trans TO'⟩, ?_, ?_⟩, fun c hcm => ?_⟩
    · exact (sb.2 _ S.TIz).trans (hk _ _ S.TIz S.TITO S.TIi1 S.TIi2 hTI)
    · exact isIt_at st1.1 fun o q => (sb.2 _ zi1).trans q
    · exact isIt_at st2.1 fun o q => (sb.2 _ zi2).trans q
    · have below : c < s.heap.objs.size := by
        rcases (show c = z ∨ c = TI ∨ c = TO ∨ c = i1 ∨ c = i2 by simpa using hcm) with q | q | q | q | q
        · rw [q]; exact inZ
        · rw [q]; exact Heap.lt_size hTI
        · rw [q]; exact Heap.lt_size hTO
        · rw [q]; obtain ⟨_, g, _⟩ := isIt_obj q1; exact Heap.lt_size g
        · rw [q]; obtain ⟨_, g, _⟩ := isIt_obj q2; exact Heap.lt_size g
      rw [upd_ne (Nat.ne_of_lt below)]
      exact (hf c hcm).1
  done := by
    intro X hP hw hK hc i pins s σ H E I hf st hg
    subst hP hw hK
    obtain ⟨hz, hTI, ⟨x0, y0, hTO⟩, q1, q2⟩ := st
    obtain ⟨xs, ys, hqx, hqy, hend⟩ := hg
    obtain ⟨its, rv, p⟩ := inv2 I hqx
    obtain ⟨its2, rv2, p2⟩ := inv2 I hqy
    have l1 := rv.length
    have l2 := rv2.length
    have hh : X.A.in1.handled = none := I.ok.hd hc
    have fin : ∀ h' tk, (∀ c o, c ≠ z → c ≠ TO → c ≠ i1 → c ≠ i2 → s.heap.get? c = some o → h'.get? c = some o) → (none : Option Value) = none ∧ Inv X pins σ H { s with heap := h', toks := tk } := fun h' tk hk =>
      ⟨rfl, I.turnedL (t' := tk) (ch := [z, TI, TO, i1, i2]) (fun c o hb q => hk c o (fun g => hb (by simp [g])) (fun g => hb (by simp [g])) (fun g => hb (by simp [g])) (fun g => hb (by simp [g])) q) hf⟩
    by_cases c1 : xs.length ≤ i
    · have D1 := drawsEnd (prog := X.prog) (w := X.w) t1 hh i1 a i its.toArray (by simp; omega)
      by_cases c2 : ys.length ≤ i
      · have D2 := drawsEnd (prog := X.prog) (w := X.w) t2 hh i2 b i its2.toArray (by simp; omega)
        exact wpAny_pyNext_zipD2_end S D1 D2 hz hTI hTO ⟨rfl, q1, p⟩ ⟨rfl, q2, p2⟩ (Nat.le_refl _) (Nat.le_refl _) (.inl rfl) fin
      · exact wpAny_pyNext_zipD2_end S D1 (draws2 t2 hh i2 b hb its2.toArray) hz hTI hTO ⟨rfl, q1, p⟩ ⟨q2, p2⟩ (Nat.le_refl _) (by simp; omega) (.inl rfl) fin
    · have c2 : ys.length ≤ i := by rcases hend with q | q <;> omega
      have D2 := drawsEnd (prog := X.prog) (w := X.w) t2 hh i2 b i its2.toArray (by simp; omega)
      exact wpAny_pyNext_zipD2_end S (draws2 t1 hh i1 a ha its.toArray) D2 hz hTI hTO ⟨q1, p⟩ ⟨rfl, q2, p2⟩ (by simp; omega) (Nat.le_refl _) (.inr rfl) fin
  self := fun A i s Q E st h => wpAny_pyIter_zip st.1 h
def iterObj (t : Bool) (a : Addr) : Obj := { cls := .type (if t = true then "tuple_iterator" else "list_iterator"), data := .fields #[.ref a, .int 0 0] }
theorem begins2 (t : Bool) (a : Addr) (its : Array Value) : Begins (.ref a) (iterObj t a) fun h => IsSq t h a its := by
  cases t
  · exact begins_list a its
  · exact begins_tuple a its
theorem iterObj_is {t : Bool} {h : Heap} {it a : Addr} (e : h.get? it = some (iterObj t a)) : IsIt t h it a 0 := by
  cases t
  · exact (⟨_, e, rfl, rfl⟩ : h.IsListIter it a 0)
  · exact (⟨_, e, rfl, rfl⟩ : h.IsTupleIter it a 0)
def iZipM (K : PySem.W.Frag) (ta : TA) : TI := fun σ H R => ta σ H fun vs H1 => ∃ t1 t2 a b xs ys, vs = [.ref a, .ref b] ∧ Sq2 t1 K H1 a xs ∧ Sq2 t2 K H1 b ys ∧ R (ItzM t1 t2 K a b) H1
theorem pi_zipM {X : Cx} {e e2 : Expr} {ta : TA} {p pos tpos : Pos} {elts : List Expr} {kk : Nat} (hg : Gl X "zip") (hm : X.mg "zip" = none) (ha : PA X [e, e2] ta)
    (hs : starEach [e, e2] X.env = (false, eval e X.env) :: starEach [e2] X.env) (hpl : (backTo pos (starEach [e2] X.env)).any (·.1) = false) :
    PI X (.Tuple elts kk tpos) (.Call (.Name "zip" p) [e, e2] [] pos) (iZipM X.K ta) := by
  refine ⟨fun pins s σ H R I0 h0 => ?_⟩
  refine Call_ (ld_blt I0 hg hm PyProof.Rows.boot_zip (PyProof.Rows.callWith_type1 (thn (ha.run pos pins s σ H _ I0 h0) fun us s1 ⟨vs, H1, J1, r1, q1⟩ => ?_) hs hpl))
  obtain ⟨t1, t2, a, b, xs, ys, ex, hqx, hqy, q⟩ := q1
  subst ex
  cases r1 with
  | cons r rr =>
    cases rr with
    | cons r' rr =>
      cases rr
      cases r
      cases r'
      obtain ⟨its, rv, p1⟩ := inv2 J1 hqx
      obtain ⟨its2, rv2, p2⟩ := inv2 J1 hqy
      have newer : ∀ c, c ∈ [s1.heap.objs.size + 4, s1.heap.objs.size + 2, s1.heap.objs.size + 3, s1.heap.objs.size, s1.heap.objs.size + 1] → FpOk X pins H1 c := fun c hc => by
        have le_ : s1.heap.objs.size ≤ c := by
          rcases (show c = s1.heap.objs.size + 4 ∨ c = s1.heap.objs.size + 2 ∨ c = s1.heap.objs.size + 3 ∨ c = s1.heap.objs.size ∨ c = s1.heap.objs.size + 1 by simpa using hc) with z | z | z | z | z
          · rw [z]; exact Nat.le_add_right _ _
          · rw [z]; exact Nat.le_add_right _ _
          · rw [z]; exact Nat.le_add_right _ _
          · rw [z]; exact Nat.le_refl _
          · rw [z]; exact Nat.le_add_right _ _
        exact J1.fpOk le_ (J1.hok.fresh le_)
      have la : a < s1.heap.objs.size := isSq_lt p1
      have lb : b < s1.heap.objs.size := isSq_lt p2
      refine zip_begins2 (begins2 t1 a its.toArray) (begins2 t2 b its2.toArray) p1 p2 fun h' hz hTI hTO g1 g2 hsz hk => wpAny_pyIter_zip hz ?_
      have J2 : Inv X pins σ H1 { s1 with heap := h' } := J1.kept (t' := s1.toks) hk
      have S := zip_sep2 (N := s1.heap.objs.size) (fp1 := [a]) (fp2 := [b]) (fun c hc => by cases List.mem_singleton.mp hc; exact la) (fun c hc => by cases List.mem_singleton.mp hc; exact lb)
      exact ⟨s1.heap.objs.size + 4, [s1.heap.objs.size + 4, s1.heap.objs.size + 2, s1.heap.objs.size + 3, s1.heap.objs.size, s1.heap.objs.size + 1], _, _, H1, rfl, J2, turn_zipM S (Nat.ne_of_lt la) (Nat.ne_of_lt (Nat.lt_succ_of_lt lb)), ⟨hz, hTI, ⟨_, _, hTO⟩, iterObj_is g1, iterObj_is g2⟩, newer, q⟩
end IvZp

set_option linter.all false
set_option maxRecDepth 100000
set_option autoImplicit false
set_option Elab.async false
set_option maxHeartbeats 4000000
/-! Iv, part 19: what a for walks. -/
namespace Iv
open PySem (Str Addr Value Obj Heap World Program Expr Stmt Scope Pos Shared Tok NameKind Operator CmpOp PyData)
open L2 (V Hp HO St upd SqL SqT Rd RelV Vals VK TE TT TA TS Cx Inv PE PT PA PS PSs upd_same upd_ne WX Takes Sp XK OpR CallR IxR R2 Dp DpAll Ends TG TGs PG PGs It TI PI)

/-- a walk gives these items as long as its source stands -/
structure JOk (K : PySem.W.Frag) (J : It) (items : List D) (ds : List D) (vs : List V) : Prop where
  go : ∀ (i : Nat) (U : Addr → Prop) (H : Hp) (d : D), RCs K U H ds vs → items[i]? = some d → J.go i H
  stop : ∀ (i : Nat) (U : Addr → Prop) (H : Hp), RCs K U H ds vs → items.length ≤ i → J.stop i H
  yld : ∀ (i : Nat) (U : Addr → Prop) (H : Hp) (d : D) (x : V) (H' : Hp), RCs K U H ds vs → items[i]? = some d → J.yld i H x H' → (H' = H ∨ ∃ p o, H p = none ∧ H' = upd H p o) ∧ RD K U H' d x
section
variable {K : PySem.W.Frag}
theorem jok_list {l : List D} {a : Addr} : JOk K (L2.Itl K a) l [.lst l] [.ref a] := by
  refine ⟨fun i U H d s e => ?_, fun i U H s e => ?_, fun i U H d x H' s e y => ?_⟩
  · obtain ⟨v, ev, c⟩ := s.one
    cases ev
    obtain ⟨b, vs, eb, sq, rl⟩ := c.lst
    cases eb
    obtain ⟨w, hw, _⟩ := rl.get e
    exact ⟨vs, w, sq, hw⟩
  · obtain ⟨v, ev, c⟩ := s.one
    cases ev
    obtain ⟨b, vs, eb, sq, rl⟩ := c.lst
    cases eb
    exact ⟨vs, sq, by rw [rl.len]; exact e⟩
  · obtain ⟨v, ev, c⟩ := s.one
    cases ev
    obtain ⟨b, vs, eb, sq, rl⟩ := c.lst
    cases eb
    obtain ⟨rfl, y⟩ := y
    obtain ⟨w, hw, r⟩ := rl.get e
    rw [y vs sq] at hw; cases hw
    exact ⟨.inl rfl, r⟩
theorem jok_tup {l : List D} {a : Addr} : JOk K (L2.Itt K a) l [.tup l] [.ref a] := by
  refine ⟨fun i U H d s e => ?_, fun i U H s e => ?_, fun i U H d x H' s e y => ?_⟩
  · obtain ⟨v, ev, c⟩ := s.one
    cases ev
    obtain ⟨b, vs, eb, sq, rl⟩ := c.tup
    cases eb
    obtain ⟨w, hw, _⟩ := rl.get e
    exact ⟨vs, w, sq.sq, hw⟩
  · obtain ⟨v, ev, c⟩ := s.one
    cases ev
    obtain ⟨b, vs, eb, sq, rl⟩ := c.tup
    cases eb
    exact ⟨vs, sq.sq, by rw [rl.len]; exact e⟩
  · obtain ⟨v, ev, c⟩ := s.one
    cases ev
    obtain ⟨b, vs, eb, sq, rl⟩ := c.tup
    cases eb
    obtain ⟨rfl, y⟩ := y
    obtain ⟨w, hw, r⟩ := rl.get e
    rw [y vs sq.sq] at hw; cases hw
    exact ⟨.inl rfl, r⟩
theorem jok_str {s : Tx} {v : V} : JOk K (L2.Its (sx s)) (s.map fun c => .str [c]) [.str s] [v] := by
  have sz : (sx s).cps.size = s.length := by simp [sx]
  have at_ : ∀ i : Nat, (sx s).cps[i]? = (s : List Nat)[i]? := fun i => by simp [sx]
  refine ⟨fun i U H d _ e => ?_, fun i U H _ e => ?_, fun i U H d x H' q e y => ?_⟩
  · rw [List.getElem?_map] at e
    cases z : s[i]? with
    | none => rw [z] at e; cases e
    | some c => show i < (sx s).cps.size; rw [sz]; exact (List.getElem?_eq_some_iff.mp z).1
  · show (sx s).cps.size ≤ i
    rw [sz]; simpa using e
  · obtain ⟨rfl, c, hc, rfl⟩ := y
    obtain ⟨w, _, cc⟩ := q.one
    obtain ⟨_, ok⟩ := cc.str
    rw [at_] at hc
    rw [List.getElem?_map, hc] at e
    cases e
    refine ⟨.inl rfl, ?_⟩
    show RD K U H' (.str [c]) _
    unfold RD
    exact ⟨rfl, fun z hz => by cases List.mem_singleton.mp hz; exact ok c (List.mem_of_getElem? hc)⟩
theorem rngL_at : ∀ (n : Nat) (lo : Int) (i : Nat), (rngL lo n)[i]? = if i < n then some (.int (lo + i)) else none
  | 0, lo, i => by simp [rngL]
  | n + 1, lo, 0 => by simp [rngL]
  | n + 1, lo, i + 1 => by
    unfold rngL
    rw [List.getElem?_cons_succ, rngL_at n (lo + 1) i]
    by_cases h : i < n
    · rw [if_pos h, if_pos (by omega)]
      congr 2
      push_cast
      omega
    · rw [if_neg h, if_neg (by omega)]
theorem rngL_len : ∀ (n : Nat) (lo : Int), (rngL lo n).length = n
  | 0, _ => rfl
  | n + 1, lo => by simp [rngL, rngL_len n]
theorem jok_rng {lo : Int} {n : Nat} {ds : List D} {vs : List V} : JOk K (L2.Itr lo n) (rngL lo n) ds vs := by
  refine ⟨fun i U H d _ e => ?_, fun i U H _ e => ?_, fun i U H d x H' q e y => ?_⟩
  · rw [rngL_at] at e
    by_cases h : i < n
    · exact h
    · rw [if_neg h] at e; cases e
  · rw [rngL_len] at e; exact e
  · obtain ⟨rfl, rfl⟩ := y
    rw [rngL_at] at e
    split at e
    · cases e
      exact ⟨.inl rfl, by show RD K U H' (.int _) _; unfold RD; rfl⟩
    · cases e
theorem enumL_at : ∀ (l : List D) (n i : Nat), (enumL n l)[i]? = l[i]?.map fun d => .tup [.int ((n + i : Nat) : Int), d]
  | [], n, i => by simp [enumL]
  | d :: l, n, 0 => by simp [enumL]
  | d :: l, n, i + 1 => by
    unfold enumL
    rw [List.getElem?_cons_succ, enumL_at l (n + 1) i, List.getElem?_cons_succ]
    have : n + 1 + i = n + (i + 1) := by omega
    rw [this]
theorem enumL_len : ∀ (l : List D) (n : Nat), (enumL n l).length = l.length
  | [], _ => rfl
  | d :: l, n => by simp [enumL, enumL_len l]
theorem RD.int {U : Addr → Prop} {H : Hp} {i : Int} : RD K U H (.int i) (.int i) := by unfold RD; rfl
theorem RD.pair {U : Addr → Prop} {H : Hp} {d d' : D} {x y : V} {p : Addr} (hp : H p = none) (a : RD K U H d x) (b : RD K U H d' y) : RD K U (upd H p (.tup [x, y])) (.tup [d, d']) (.ref p) := by
  unfold RD
  refine ⟨p, [x, y], rfl, .inl (.inl upd_same), ?_⟩
  exact RL.mono (Kp.alloc hp) _ _ (RL.cons a (RL.one b))
theorem jok_enum {l : List D} {a : Addr} : JOk K (L2.Ite K a) (enumL 0 l) [.lst l] [.ref a] := by
  refine ⟨fun i U H d s e => ?_, fun i U H s e => ?_, fun i U H d x H' s e y => ?_⟩
  · obtain ⟨v, ev, c⟩ := s.one
    cases ev
    obtain ⟨b, vs, eb, sq, rl⟩ := c.lst
    cases eb
    rw [enumL_at] at e
    obtain ⟨d0, e0, _⟩ := Option.map_eq_some_iff.mp e
    obtain ⟨w, hw, _⟩ := rl.get e0
    exact ⟨vs, w, sq, hw⟩
  · obtain ⟨v, ev, c⟩ := s.one
    cases ev
    obtain ⟨b, vs, eb, sq, rl⟩ := c.lst
    cases eb
    exact ⟨vs, sq, by rw [rl.len]; rw [enumL_len] at e; exact e⟩
  · obtain ⟨v, ev, c⟩ := s.one
    cases ev
    obtain ⟨b, vs, eb, sq, rl⟩ := c.lst
    cases eb
    obtain ⟨T, x0, rfl, hT, rfl, hx⟩ := y
    rw [enumL_at] at e
    obtain ⟨d0, e0, rfl⟩ := Option.map_eq_some_iff.mp e
    obtain ⟨w, hw, r⟩ := rl.get e0
    rw [hx vs sq] at hw; cases hw
    refine ⟨.inr ⟨T, _, hT, rfl⟩, ?_⟩
    have : ((0 + i : Nat) : Int) = (i : Int) := by omega
    rw [this]
    exact RD.pair hT RD.int r
theorem jok_enumT {l : List D} {a : Addr} : JOk K (IvEn.IteT K a) (enumL 0 l) [.tup l] [.ref a] := by
  refine ⟨fun i U H d s e => ?_, fun i U H s e => ?_, fun i U H d x H' s e y => ?_⟩
  · obtain ⟨v, ev, c⟩ := s.one
    cases ev
    obtain ⟨b, vs, eb, sq, rl⟩ := c.tup
    cases eb
    rw [enumL_at] at e
    obtain ⟨d0, e0, _⟩ := Option.map_eq_some_iff.mp e
    obtain ⟨w, hw, _⟩ := rl.get e0
    exact ⟨vs, w, sq.sq, hw⟩
  · obtain ⟨v, ev, c⟩ := s.one
    cases ev
    obtain ⟨b, vs, eb, sq, rl⟩ := c.tup
    cases eb
    exact ⟨vs, sq.sq, by rw [rl.len]; rw [enumL_len] at e; exact e⟩
  · obtain ⟨v, ev, c⟩ := s.one
    cases ev
    obtain ⟨b, vs, eb, sq, rl⟩ := c.tup
    cases eb
    obtain ⟨T, x0, rfl, hT, rfl, hx⟩ := y
    rw [enumL_at] at e
    obtain ⟨d0, e0, rfl⟩ := Option.map_eq_some_iff.mp e
    obtain ⟨w, hw, r⟩ := rl.get e0
    rw [hx vs sq.sq] at hw; cases hw
    refine ⟨.inr ⟨T, _, hT, rfl⟩, ?_⟩
    have : ((0 + i : Nat) : Int) = (i : Int) := by omega
    rw [this]
    exact RD.pair hT RD.int r
theorem zipL_at : ∀ (l m : List D) (i : Nat), (zipL l m)[i]? = (l[i]?).bind fun d => (m[i]?).map fun d' => .tup [d, d']
  | [], m, i => by simp [zipL]
  | d :: l, [], i => by cases i <;> simp [zipL]
  | d :: l, d' :: m, 0 => by simp [zipL]
  | d :: l, d' :: m, i + 1 => by
    unfold zipL
    rw [List.getElem?_cons_succ, zipL_at l m i, List.getElem?_cons_succ, List.getElem?_cons_succ]
theorem zipL_len : ∀ (l m : List D), (zipL l m).length = min l.length m.length
  | [], m => by simp [zipL]
  | d :: l, [] => by simp [zipL]
  | d :: l, d' :: m => by simp [zipL, zipL_len l m]
def seqD (t : Bool) (l : List D) : D := if t = true then .tup l else .lst l
theorem jok_zipM {t1 t2 : Bool} {l m : List D} {a b : Addr} : JOk K (IvZp.ItzM t1 t2 K a b) (zipL l m) [seqD t1 l, seqD t2 m] [.ref a, .ref b] := by
  have src : ∀ {U : Addr → Prop} {H : Hp}, RCs K U H [seqD t1 l, seqD t2 m] [.ref a, .ref b] → ∃ xs ys, IvZp.Sq2 t1 K H a xs ∧ IvZp.Sq2 t2 K H b ys ∧ RL K U H l xs ∧ RL K U H m ys := fun {U H} s => by
    obtain ⟨v, v', ev, c, c'⟩ := s.two
    cases ev
    have p1 : ∃ xs, IvZp.Sq2 t1 K H a xs ∧ RL K U H l xs := by
      cases t1
      · obtain ⟨_, xs, e1, s1, r1⟩ := RC.lst (show RC K U H (.lst l) (.ref a) from c)
        cases e1
        exact ⟨xs, s1, r1⟩
      · obtain ⟨_, xs, e1, s1, r1⟩ := RC.tup (show RC K U H (.tup l) (.ref a) from c)
        cases e1
        exact ⟨xs, s1.sq, r1⟩
    have p2 : ∃ ys, IvZp.Sq2 t2 K H b ys ∧ RL K U H m ys := by
      cases t2
      · obtain ⟨_, xs, e1, s1, r1⟩ := RC.lst (show RC K U H (.lst m) (.ref b) from c')
        cases e1
        exact ⟨xs, s1, r1⟩
      · obtain ⟨_, xs, e1, s1, r1⟩ := RC.tup (show RC K U H (.tup m) (.ref b) from c')
        cases e1
        exact ⟨xs, s1.sq, r1⟩
    obtain ⟨xs, s1, r1⟩ := p1
    obtain ⟨ys, s2, r2⟩ := p2
    exact ⟨xs, ys, s1, s2, r1, r2⟩
  refine ⟨fun i U H d s e => ?_, fun i U H s e => ?_, fun i U H d x H' s e y => ?_⟩
  · obtain ⟨xs, ys, s1, s2, r1, r2⟩ := src s
    rw [zipL_at] at e
    obtain ⟨d1, h1, e⟩ := Option.bind_eq_some_iff.mp e
    obtain ⟨d2, h2, _⟩ := Option.map_eq_some_iff.mp e
    obtain ⟨w1, g1, _⟩ := r1.get h1
    obtain ⟨w2, g2, _⟩ := r2.get h2
    exact ⟨xs, ys, w1, w2, s1, s2, g1, g2⟩
  · obtain ⟨xs, ys, s1, s2, r1, r2⟩ := src s
    rw [zipL_len] at e
    refine ⟨xs, ys, s1, s2, ?_⟩
    rw [r1.len, r2.len]
    omega
  · obtain ⟨xs, ys, s1, s2, r1, r2⟩ := src s
    obtain ⟨T, x1, x2, rfl, hT, rfl, hx, hy⟩ := y
    rw [zipL_at] at e
    obtain ⟨d1, h1, e⟩ := Option.bind_eq_some_iff.mp e
    obtain ⟨d2, h2, rfl⟩ := Option.map_eq_some_iff.mp e
    obtain ⟨w1, g1, q1⟩ := r1.get h1
    obtain ⟨w2, g2, q2⟩ := r2.get h2
    rw [hx xs s1] at g1; cases g1
    rw [hy ys s2] at g2; cases g2
    exact ⟨.inr ⟨T, _, hT, rfl⟩, RD.pair hT q1 q2⟩
end
section
variable {X : Cx} {tg : Expr}
/-- a list, a tuple or a text, walked -/
def iAny (K : PySem.W.Frag) (tl : TE) : TI := fun σ H R => tl σ H fun x H1 => (∃ a, x = .ref a ∧ (∃ xs, SqL K H1 a xs) ∧ R (L2.Itl K a) H1) ∨ (∃ a, x = .ref a ∧ (∃ xs, SqT K H1 a xs) ∧ R (L2.Itt K a) H1) ∨ (∃ z, x = .str z ∧ R (L2.Its z) H1)
open PySem PySem.Spec PyProof.Rows L2 in
theorem pi_any {l : Expr} {tl : TE} (hl : PE X l tl) : PI X tg l (iAny X.K tl) := by
  refine ⟨fun pins s σ H R I h => ?_⟩
  refine thn (hl.run pins s σ H _ I h) fun v s1 ⟨x, H1, I1, r1, q1⟩ => ?_
  rcases q1 with ⟨a, e, ⟨xs, hq⟩, q⟩ | ⟨a, e, ⟨xs, hq⟩, q⟩ | ⟨z, e, q⟩
  · subst e
    cases r1
    obtain ⟨its, rv, p, hz⟩ := I1.list hq
    refine wpAny_pyIter_list p.isList ?_
    refine ⟨s1.heap.objs.size, [s1.heap.objs.size], _, _, H1, rfl, I1.kept (t' := s1.toks) fun b o e => Heap.get?_push_of_some _ e, turn_list a _, ⟨_, Heap.get?_push_size _ rfl, rfl, rfl⟩, fun b hb => ?_, q⟩
    have e : b = s1.heap.objs.size := by simpa using hb
    subst e
    exact I1.fpOk (Nat.le_refl _) (I1.hok.fresh (Nat.le_refl _))
  · subst e
    cases r1
    obtain ⟨its, rv, p, hz⟩ := I1.tuple hq
    refine wpAny_pyIter_tuple (show s1.heap.IsTuple a its.toArray from p) ?_
    refine ⟨s1.heap.objs.size, [s1.heap.objs.size], _, _, H1, rfl, I1.kept (t' := s1.toks) fun b o e => Heap.get?_push_of_some _ e, turn_tuple a _, ⟨_, Heap.get?_push_size _ rfl, rfl, rfl⟩, fun b hb => ?_, q⟩
    have e : b = s1.heap.objs.size := by simpa using hb
    subst e
    exact I1.fpOk (Nat.le_refl _) (I1.hok.fresh (Nat.le_refl _))
  · subst e
    obtain ⟨t, rfl⟩ := r1
    cases ha : z.cps.all (· < 128)
    · exact wpAny_pyIter_wide ha (pi_one (tk := s1.toks) I1 _ (turn_str _ z t "str_iterator" (.inr rfl)) ⟨_, Heap.get?_push_size _ rfl, rfl, rfl⟩ q)
    · exact wpAny_pyIter_ascii ha (pi_one (tk := s1.toks) I1 _ (turn_str _ z t "str_ascii_iterator" (.inl rfl)) ⟨_, Heap.get?_push_size _ rfl, rfl, rfl⟩ q)
theorem pi_of {e : Expr} {t' : TI} (h : ∀ σ H R, t' σ H R → ∃ t : TI, PI X tg e t ∧ t σ H R) : PI X tg e t' :=
  ⟨fun pins s σ H R I q => let ⟨t, p, z⟩ := h σ H R q; p.run pins s σ H R I z⟩
/-- what comes of the walked values -/
def iEnd (K : PySem.W.Frag) (k : String) (vs : List V) (H : Hp) (R : It → Hp → Prop) : Prop := ∃ (U : Addr → Prop) (ds items : List D), RCs K U H ds vs ∧ itemsOf k ds = some items ∧ ∀ J, JOk K J items ds vs → R J H
end
end Iv

set_option linter.all false
set_option maxRecDepth 100000
set_option autoImplicit false
set_option Elab.async false
set_option maxHeartbeats 4000000
/-! Iv, part 20: loops. -/
namespace Iv
open PySem (Str Addr Value Obj Heap World Program Expr Stmt Scope Pos Shared Tok NameKind Operator CmpOp PyData)
open L2 (V Hp HO St upd SqL SqT Rd RelV Vals VK TE TT TA TS Cx Inv PE PT PA PS PSs upd_same upd_ne WX Takes Sp XK OpR CallR IxR R2 Dp DpAll Ends TG TGs PG PGs It TI PI)
variable {EP : ExPin}

theorem mapAt_at {f : Sl → Sl} (hf : ∀ s, f (f s) = f s) : ∀ (is : List Nat) (ρ : Rho) (i : Nat), (mapAt f is ρ)[i]? = if i ∈ is then (ρ[i]?).map f else ρ[i]?
  | [], ρ, i => by simp [mapAt]
  | k :: is, ρ, i => by
    have e : mapAt f (k :: is) ρ = mapAt f is (match ρ[k]? with | some s => ρ.set k (f s) | none => ρ) := rfl
    rw [e, mapAt_at hf is]
    have at_ : (match ρ[k]? with | some s => ρ.set k (f s) | none => ρ)[i]? = if i = k then (ρ[i]?).map f else ρ[i]? := by
      cases q : ρ[k]? with
      | none =>
        by_cases h : i = k
        · subst h; simp [q]
        · simp [h]
      | some s =>
        by_cases h : i = k
        · subst h
          have hi : i < ρ.length := (List.getElem?_eq_some_iff.mp q).1
          simp only [if_true, q, Option.map_some]
          rw [List.getElem?_set_self hi]
        · simp only [h, if_false]
          rw [List.getElem?_set_ne (Ne.symm h)]
    rw [at_]
    by_cases h1 : i = k
    · subst h1
      by_cases h2 : i ∈ is
      · simp only [h2, if_true, List.mem_cons, true_or, Option.map_map]
        cases ρ[i]? with
        | none => rfl
        | some s => simp [hf]
      · simp [h2]
    · by_cases h2 : i ∈ is <;> simp [h1, h2]
theorem mapAt_len {f : Sl → Sl} : ∀ (is : List Nat) (ρ : Rho), (mapAt f is ρ).length = ρ.length
  | [], ρ => rfl
  | k :: is, ρ => by
    have e : mapAt f (k :: is) ρ = mapAt f is (match ρ[k]? with | some s => ρ.set k (f s) | none => ρ) := rfl
    rw [e, mapAt_len is]
    cases ρ[k]? <;> simp
theorem lockS_i : ∀ s, lockS (lockS s) = lockS s := fun s => by cases s <;> rfl
theorem unlockS_i : ∀ s, unlockS (unlockS s) = unlockS s := fun s => by cases s <;> rfl
theorem toLock_ow {as : List A} {ρ : Rho} {i : Nat} (h : i ∈ toLock as ρ) : ∃ d, ρ[i]? = some (.ow d) := by
  unfold toLock at h
  obtain ⟨_, h2⟩ := List.mem_filter.mp h
  cases e : ρ[i]? with
  | none => rw [e] at h2; cases h2
  | some s =>
    rw [e] at h2
    cases s with
    | ow d => exact ⟨d, rfl⟩
    | _ => cases h2
theorem ow_toLock {as : List A} {ρ : Rho} {i : Nat} {d : D} (h : i ∈ refs as) (e : ρ[i]? = some (.ow d)) : i ∈ toLock as ρ := by
  unfold toLock
  refine List.mem_filter.mpr ⟨h, ?_⟩
  rw [e]
def lockR (as : List A) (ρ : Rho) : Rho := mapAt lockS (toLock as ρ) ρ
def unR (as : List A) (ρ ρ' : Rho) : Rho := mapAt unlockS (toLock as ρ) ρ'
section
variable {K : PySem.W.Frag} {XC : String → Addr} {W : WX} {pn : List Bool} {B : BT} {σ σ' : St} {U U' U1 : Addr → Prop} {H H' H0 H1 : Hp} {ρ ρ' ρ1 : Rho} {D : Ends} {as : List A}
theorem lockR_at {i : Nat} {s : Sl} (h : (lockR as ρ)[i]? = some s) : (ρ[i]? = some s ∧ i ∉ toLock as ρ) ∨ (∃ d, ρ[i]? = some (.ow d) ∧ s = .lk d ∧ i ∈ toLock as ρ) := by
  unfold lockR at h
  rw [mapAt_at lockS_i] at h
  by_cases m : i ∈ toLock as ρ
  · rw [if_pos m] at h
    obtain ⟨d, e⟩ := toLock_ow m
    rw [e] at h
    cases h
    exact .inr ⟨d, e, rfl, m⟩
  · rw [if_neg m] at h; exact .inl ⟨h, m⟩
theorem at_lockR {i : Nat} {d : Iv.D} (m : i ∈ toLock as ρ) (e : ρ[i]? = some (.ow d)) : (lockR as ρ)[i]? = some (.lk d) := by
  unfold lockR
  rw [mapAt_at lockS_i, if_pos m, e]; rfl
theorem lockR_ow {i : Nat} : owAt (lockR as ρ) i = owAt ρ i := by
  cases h : owAt (lockR as ρ) i with
  | true =>
    obtain ⟨s, d, e, hd⟩ := owAt_held h
    rcases lockR_at e with ⟨e1, _⟩ | ⟨d', e1, _, _⟩
    · exact (held_owAt e1 hd).symm
    · exact (held_owAt e1 (.inl rfl)).symm
  | false =>
    cases h2 : owAt ρ i with
    | false => rfl
    | true =>
      obtain ⟨s, d, e, hd⟩ := owAt_held h2
      by_cases m : i ∈ toLock as ρ
      · obtain ⟨d', e'⟩ := toLock_ow m
        have := held_owAt (at_lockR m e') (.inr rfl)
        rw [h] at this; cases this
      · have e2 : (lockR as ρ)[i]? = some s := by unfold lockR; rw [mapAt_at lockS_i, if_neg m]; exact e
        have := held_owAt e2 hd
        rw [h] at this; cases this
theorem lock_adv (r : R EP K U H σ ρ) : Adv EP K σ U H ρ U H (lockR as ρ) where
  st := .refl
  r := {
    len := by unfold lockR; rw [mapAt_len]; exact r.len
    trk := r.trk
    sh := fun i d e => by
      rcases lockR_at e with ⟨e1, _⟩ | ⟨_, _, z, _⟩
      · exact r.sh i d e1
      · cases z
    ow := fun i s d e hd => by
      rcases lockR_at e with ⟨e1, _⟩ | ⟨d', e1, z, _⟩
      · exact r.ow i s d e1 hd
      · subst z
        rcases hd with w | w
        · cases w
        · cases w; exact r.ow i _ d e1 (.inl rfl)
    dis := fun i j s s' d d' p ea ha eb hb qa qb => by
      obtain ⟨s1, d1, e1, h1⟩ := owAt_held (lockR_ow ▸ held_owAt ea ha)
      obtain ⟨s2, d2, e2, h2⟩ := owAt_held (lockR_ow ▸ held_owAt eb hb)
      exact r.dis i j s1 s2 d1 d2 p e1 h1 e2 h2 qa qb
    ex := fun i c fs e => by
      rcases lockR_at e with ⟨e1, _⟩ | ⟨_, _, z, _⟩
      · exact r.ex i c fs e1
      · cases z }
  so := fun i h => by rw [lockR_ow] at h; exact h
  fx := fun i s e h => by
    by_cases m : i ∈ toLock as ρ
    · obtain ⟨d, e2⟩ := toLock_ow m
      rw [e2] at e; cases e; cases h
    · unfold lockR; rw [mapAt_at lockS_i, if_neg m]; exact e
theorem unR_at {i : Nat} {s : Sl} (h : (unR as ρ ρ')[i]? = some s) : ρ'[i]? = some s ∨ (∃ d, ρ'[i]? = some (.lk d) ∧ s = .ow d) := by
  unfold unR at h
  rw [mapAt_at unlockS_i] at h
  by_cases m : i ∈ toLock as ρ
  · rw [if_pos m] at h
    obtain ⟨s', e, rfl⟩ := Option.map_eq_some_iff.mp h
    cases s' with
    | lk d => exact .inr ⟨d, e, rfl⟩
    | _ => exact .inl e
  · rw [if_neg m] at h; exact .inl h
theorem unR_held {i : Nat} {s : Sl} {d : Iv.D} (h : (unR as ρ ρ')[i]? = some s) (hd : held s d) : ∃ s', ρ'[i]? = some s' ∧ held s' d := by
  rcases unR_at h with e | ⟨d', e, rfl⟩
  · exact ⟨s, e, hd⟩
  · rcases hd with z | z
    · cases z; exact ⟨_, e, .inr rfl⟩
    · cases z
theorem unlock_adv (a : AdvS EP K pn σ U H (lockR as ρ) σ' U' H' ρ') : AdvS EP K pn σ U H ρ σ' U' H' (unR as ρ ρ') where
  st := ⟨fun b o e n => a.st.keep b o e fun z => n (by
      obtain ⟨i, h1, h2⟩ := own_at z
      rw [lockR_ow] at h1
      exact at_own h1 h2), a.st.trk, a.st.up, fun b z => (a.st.new b z).imp id fun w => w.imp id fun z => by
      obtain ⟨i, h1, h2⟩ := own_at z
      rw [lockR_ow] at h1
      exact at_own h1 h2⟩
  r := {
    len := by unfold unR; rw [mapAt_len]; exact a.r.len
    trk := a.r.trk
    sh := fun i d e => by
      rcases unR_at e with e1 | ⟨_, _, z⟩
      · exact a.r.sh i d e1
      · cases z
    ow := fun i s d e hd => by
      obtain ⟨s', e', hd'⟩ := unR_held e hd
      exact a.r.ow i s' d e' hd'
    dis := fun i j s s' d d' p ea ha eb hb qa qb => by
      obtain ⟨s1, e1, h1⟩ := unR_held ea ha
      obtain ⟨s2, e2, h2⟩ := unR_held eb hb
      exact a.r.dis i j s1 s2 d d' p e1 h1 e2 h2 qa qb
    ex := fun i c fs e => by
      rcases unR_at e with e1 | ⟨_, _, z⟩
      · exact a.r.ex i c fs e1
      · cases z }
  sub := fun i b h q => by
    obtain ⟨s, d, e, hd⟩ := owAt_held h
    obtain ⟨s', e', hd'⟩ := unR_held e hd
    rcases a.sub i b (held_owAt e' hd') q with ⟨h1, h2⟩ | n
    · rw [lockR_ow] at h1; exact .inl ⟨h1, h2⟩
    · exact .inr n
  pin := a.pin
  fx := fun i s e h => by
    have m : i ∉ toLock as ρ := fun m => by
      obtain ⟨d, e2⟩ := toLock_ow m
      rw [e2] at e; cases e; cases h
    have e1 : (lockR as ρ)[i]? = some s := by unfold lockR; rw [mapAt_at lockS_i, if_neg m]; exact e
    obtain ⟨e2, q2⟩ := a.fx i s e1 h
    exact ⟨by unfold unR; rw [mapAt_at unlockS_i, if_neg m]; exact e2, q2⟩
  pso := fun i z h => by
    obtain ⟨s, d, e, hd⟩ := owAt_held h
    obtain ⟨s', e', hd'⟩ := unR_held e hd
    have := a.pso i z (held_owAt e' hd')
    rwa [lockR_ow] at this
  len := a.len
theorem rdL_cases : ∀ (as : List A) (ρ : Rho), (∃ ds, rdL as ρ = .ok ds ρ) ∨ rdL as ρ = .stuck
  | [], ρ => .inl ⟨[], rfl⟩
  | a :: l, ρ => by
    rcases rd_cases a ρ with ⟨d, e⟩ | e
    · rcases rdL_cases l ρ with ⟨ds, e2⟩ | e2
      · exact .inl ⟨d :: ds, by unfold rdL bnd; rw [e]; simp only [bnd]; rw [e2]; rfl⟩
      · exact .inr (by unfold rdL bnd; rw [e]; simp only [bnd]; rw [e2])
    · exact .inr (by unfold rdL bnd; rw [e])
theorem rdL_cons {a : A} {l : List A} {ds : List Iv.D} (h : rdL (a :: l) ρ = .ok ds ρ) : ∃ d dr, ds = d :: dr ∧ rd a ρ = .ok d ρ ∧ rdL l ρ = .ok dr ρ := by
  rcases rd_cases a ρ with ⟨d, e⟩ | e
  · rcases rdL_cases l ρ with ⟨dr, e2⟩ | e2
    · unfold rdL bnd at h; rw [e] at h; simp only [bnd] at h; rw [e2] at h
      cases h
      exact ⟨d, dr, rfl, e, e2⟩
    · unfold rdL bnd at h; rw [e] at h; simp only [bnd] at h; rw [e2] at h; cases h
  · unfold rdL bnd at h; rw [e] at h; cases h
/-- what is walked stands as long as the slots are locked -/
theorem src_keep (r : R EP K U H σ ρ) (a1 : Adv EP K σ U H ρ U1 H1 ρ1) {asA : List A} : ∀ {as : List A} {vs : List V} {ds : List Iv.D}, RAs K U1 H1 σ H as vs → rdL as ρ1 = .ok ds ρ1 → (∀ i ∈ refs as, i ∈ refs asA) → AdvS EP K pn σ U1 H1 (lockR asA ρ1) σ' U' H' ρ' → RCs K U' H' ds vs
  | [], vs, ds, h, e, _, _ => by cases (show vs = [] from h); cases e; rfl
  | a :: l, vs, ds, h, e, m, s => by
    obtain ⟨v, vr, rfl, ra, rs, _⟩ := h
    obtain ⟨d, dr, rfl, e1, e2⟩ := rdL_cons e
    have r1 := a1.r
    have kp := s.kp (lock_adv (as := asA) r1).r
    refine ⟨v, vr, rfl, ?_, src_keep r a1 rs e2 (fun i hi => m i (by cases a <;> simp [refs, hi])) s⟩
    cases a with
    | val d' => cases e1; exact .inl (RD.mono kp d v ra)
    | fr d' =>
      cases e1
      obtain ⟨p, rfl, o, n⟩ := ra
      refine .inr ⟨p, rfl, o.mono s.st kp fun z => ?_⟩
      obtain ⟨i, h1, h2⟩ := own_at z
      rw [lockR_ow] at h1
      obtain ⟨o', q⟩ := r.ownS (a1.sub p (at_own h1 h2)); rw [n] at q; cases q
    | rf i =>
      have ra : σ[i]? = some (some v) := ra
      have mi : i ∈ refs asA := m i (by simp [refs])
      have lk : ∀ d', ρ1[i]? = some (.ow d') ∨ ρ1[i]? = some (.lk d') → RC K U' H' d' v := fun d' q => by
        have e3 : (lockR asA ρ1)[i]? = some (.lk d') := by
          rcases q with q | q
          · exact at_lockR (ow_toLock mi q) q
          · exact (lock_adv (as := asA) r1).fx i _ q rfl
        obtain ⟨e4, q4⟩ := s.fx i _ e3 rfl
        obtain ⟨p, hp, o⟩ := s.r.ow i _ d' e4 (.inr rfl)
        rw [q4, ra] at hp; cases hp
        exact .inr ⟨p, rfl, o⟩
      cases q : ρ1[i]? with
      | none => simp [rd, bnd, slot, q] at e1
      | some s0 =>
        simp only [rd, bnd, slot, q] at e1
        cases s0 with
        | no => cases e1
        | ex _ _ => cases e1
        | sh d' =>
          cases e1
          obtain ⟨w, hw, rr⟩ := r1.sh i _ q
          rw [ra] at hw; cases hw
          exact .inl (RD.mono kp d v rr)
        | ow d' => cases e1; exact lk _ (.inl q)
        | lk d' => cases e1; exact lk _ (.inr q)

theorem tF_for {ma : M (List A)} {k : String} {t : Tgt} {body : M Fl} (h : tF EP K XC W pn (bnd ma fun as => bnd (rdL as) fun ds => bnd (opt (itemsOf k ds)) fun items => locked as (forL (fun d => asgT pn t (.val d)) body items)) D σ H) :
    L2.tFor (fun σ H R => tA EP K XC W ma σ H fun vs H1 => iEnd K k vs H1 R) (tG EP K XC W pn (asgT pn t)) (tF EP K XC W pn body) D σ H := by
  obtain ⟨H0, B, ρ, U, P, b, o⟩ := h
  have r := P.clo.r b
  refine ⟨ρ, U, r, (SOk.exp P.clo b o).mono fun as U1 H1 ρ1 _ z vs rvs => ?_⟩
  obtain ⟨a1, b1, o1⟩ := z
  clear o
  rcases rdL_cases as ρ1 with ⟨ds, e1⟩ | e1
  · unfold bnd at o1
    rw [e1] at o1
    obtain ⟨items, e2, o3⟩ := SOk.bopt (f := fun items => locked as (forL (fun d => asgT pn t (.val d)) body items)) o1
    clear o1
    have src : ∀ {σ' U' H' ρ'}, AdvS EP K pn σ U1 H1 (lockR as ρ1) σ' U' H' ρ' → RCs K U' H' ds vs := fun s => src_keep r a1 rvs e1 (fun _ h => h) s
    have rL := (lock_adv (as := as) a1.r)
    refine ⟨U1, ds, items, src (AdvS.refl rL.r), e2, fun J jok => ?_⟩
    let B' : BT := fun σ' U' H' ρ' => AdvS EP K pn σ U1 H1 (lockR as ρ1) σ' U' H' ρ'
    have C' : Clo EP K pn B' := ⟨fun b a => AdvS.trans b a, fun b => b.r⟩
    have P' : Pl EP K pn H0 B' := ⟨C', by
      obtain ⟨σ0, U0, ρ0, hn, hb⟩ := P.bas
      exact ⟨σ0, U0, ρ0, hn, fun σ' U' H' ρ' b' => ((hb _ _ _ _ b1).trans rL.s).trans b'⟩⟩
    have oL : SOk K XC W B' (forL (fun d => asgT pn t (.val d)) body items (lockR as ρ1)) (fun f σ' U' H' ρ' => kF K H0 D f σ' U' H' (unR as ρ1 ρ')) := by
      have o3 : SOk K XC W B ((forL (fun d => asgT pn t (.val d)) body items (lockR as ρ1)).mapR (unR as ρ1)) (kF K H0 D) := o3
      cases e : forL (fun d => asgT pn t (.val d)) body items (lockR as ρ1) with
      | stuck => rw [e] at o3; exact o3
      | exc c fs ρ' => rw [e] at o3; exact fun σ' U' H' cls d b' => o3 σ' U' H' cls d (P.clo.step b1 (unlock_adv b'))
      | ok f ρ' => rw [e] at o3; exact fun σ' U' H' b' => o3 σ' U' H' (P.clo.step b1 (unlock_adv b'))
    refine ⟨fun i m σ' H' => m = items.length - i ∧ ∃ (ρ' : Rho) (U' : Addr → Prop), B' σ' U' H' ρ' ∧ SOk K XC W B' (forL (fun d => asgT pn t (.val d)) body (items.drop i) ρ') (fun f σ' U' H' ρ' => kF K H0 D f σ' U' H' (unR as ρ1 ρ')), ⟨items.length, rfl, _, U1, AdvS.refl rL.r, oL⟩, ?_⟩
    rintro i m σ2 H2 ⟨rfl, ρ2, U2, b2, o2⟩
    cases q : items[i]? with
    | none =>
      have hi : items.length ≤ i := by simpa using q
      rw [List.drop_of_length_le hi] at o2
      exact .inl ⟨jok.stop i U2 H2 (src b2) hi, o2 _ _ _ b2⟩
    | some d =>
      obtain ⟨hi, hd⟩ := List.getElem?_eq_some_iff.mp q
      rw [List.drop_eq_getElem_cons hi, hd] at o2
      refine .inr ⟨jok.go i U2 H2 d (src b2) q, fun σ3 H3 => ∃ (ρ3 : Rho) (U3 : Addr → Prop), B' σ3 U3 H3 ρ3 ∧ SOk K XC W B' (forL (fun d => asgT pn t (.val d)) body (items.drop (i + 1)) ρ3) (fun f σ' U' H' ρ' => kF K H0 D f σ' U' H' (unR as ρ1 ρ')),
        fun σ3 H3 ⟨ρ3, U3, b3, o3⟩ => ⟨items.length - (i + 1), by omega, rfl, ρ3, U3, b3, o3⟩, fun x H3 y => ?_⟩
      obtain ⟨hh, rx⟩ := jok.yld i U2 H2 d x H3 (src b2) q y
      have b3 : B' σ2 U2 H3 ρ2 := by
        rcases hh with rfl | ⟨p, ob, hp, rfl⟩
        · exact b2
        · exact C'.step b2 (Adv.alloc b2.r hp).s
      refine ⟨B', ρ2, U2, .val d, C', b3, rx, (SOk.seq o2).mono fun _ σ4 U4 H4 ρ4 b4 z => ?_⟩
      refine ⟨H0, B', ρ4, U4, P', b4, (SOk.seq z).mono fun f σ5 U5 H5 ρ5 b5 w => ?_⟩
      cases f with
      | nx => exact ⟨ρ5, U5, b5, w⟩
      | ct => exact ⟨ρ5, U5, b5, w⟩
      | bk => exact w _ _ _ b5
      | rt a => exact w _ _ _ b5
  · unfold bnd at o1
    rw [e1] at o1
    exact o1.elim
end
end Iv

set_option linter.all false
set_option maxRecDepth 100000
set_option autoImplicit false
set_option Elab.async false
set_option maxHeartbeats 4000000
/-! Iv, part 20b: what a for walks, from its arguments. -/
namespace Iv
open PySem (Str Addr Value Obj Heap World Program Expr Stmt Scope Pos Shared Tok NameKind Operator CmpOp PyData)
open L2 (V Hp HO St upd SqL SqT Rd RelV Vals VK TE TT TA TS Cx Inv PE PT PA PS PSs upd_same upd_ne WX Takes Sp XK OpR CallR IxR R2 Dp DpAll Ends TG TGs PG PGs It TI PI)

section
variable {gi : GI} {V : Env} {Φ : String → Rho → COut} {XC : String → Addr}
theorem len_two {α : Type} {l : List α} (h : l.length = 2) : ∃ a b, l = [a, b] := by
  match l, h with
  | [a, b], _ => exact ⟨a, b, rfl⟩
theorem io_range1 {d : Iv.D} {items : List Iv.D} (e : itemsOf "range" [d] = some items) : ∃ j, d = .int j ∧ rngOk j = true ∧ items = rngL 0 j.toNat := by
  cases d with
  | int j => obtain ⟨e1, rfl⟩ := guardO_some (show guardO (rngOk j) (rngL 0 j.toNat) = some items from e); exact ⟨j, rfl, e1, rfl⟩
  | _ => exact nomatch (show none = some items from e)
theorem io_range2 {d d' : Iv.D} {items : List Iv.D} (e : itemsOf "range" [d, d'] = some items) : ∃ i j, d = .int i ∧ d' = .int j ∧ rngOk i = true ∧ rngOk j = true ∧ items = rngL i (j - i).toNat := by
  cases d with
  | int i =>
    cases d' with
    | int j =>
      obtain ⟨e1, rfl⟩ := guardO_some (show guardO (rngOk i && rngOk j) (rngL i (j - i).toNat) = some items from e)
      have e2 := Bool.and_eq_true_iff.mp e1
      exact ⟨i, j, rfl, rfl, e2.1, e2.2, rfl⟩
    | _ => exact nomatch (show none = some items from e)
  | _ => cases d' <;> exact nomatch (show none = some items from e)
theorem io_enum {d : Iv.D} {items : List Iv.D} (e : itemsOf "enumerate" [d] = some items) : ∃ l, (d = .lst l ∨ d = .tup l) ∧ items = enumL 0 l := by
  cases d with
  | lst l => cases (show some (enumL 0 l) = some items from e); exact ⟨l, .inl rfl, rfl⟩
  | tup l => cases (show some (enumL 0 l) = some items from e); exact ⟨l, .inr rfl, rfl⟩
  | _ => exact nomatch (show none = some items from e)
theorem io_zip {d d' : Iv.D} {items : List Iv.D} (e : itemsOf "zip" [d, d'] = some items) : ∃ t1 t2 l m, d = seqD t1 l ∧ d' = seqD t2 m ∧ items = zipL l m := by
  cases d with
  | lst l =>
    cases d' with
    | lst m => cases (show some (zipL l m) = some items from e); exact ⟨false, false, l, m, rfl, rfl, rfl⟩
    | tup m => cases (show some (zipL l m) = some items from e); exact ⟨false, true, l, m, rfl, rfl, rfl⟩
    | _ => exact nomatch (show none = some items from e)
  | tup l =>
    cases d' with
    | tup m => cases (show some (zipL l m) = some items from e); exact ⟨true, true, l, m, rfl, rfl, rfl⟩
    | lst m => cases (show some (zipL l m) = some items from e); exact ⟨true, false, l, m, rfl, rfl, rfl⟩
    | _ => exact nomatch (show none = some items from e)
  | _ => cases d' <;> exact nomatch (show none = some items from e)
theorem seq_of {K : PySem.W.Frag} {U : Addr → Prop} {H : Hp} {t : Bool} {l : List Iv.D} {v : L2.V} (c : RC K U H (seqD t l) v) : ∃ a xs, v = .ref a ∧ IvZp.Sq2 t K H a xs := by
  cases t
  · obtain ⟨a, xs, e1, s1, _⟩ := RC.lst (show RC K U H (.lst l) v from c)
    exact ⟨a, xs, e1, s1⟩
  · obtain ⟨a, xs, e1, s1, _⟩ := RC.tup (show RC K U H (.tup l) v from c)
    exact ⟨a, xs, e1, s1.sq⟩
theorem RCs.lens {K : PySem.W.Frag} {U : Addr → Prop} {H : Hp} : ∀ {ds : List Iv.D} {vs : List L2.V}, RCs K U H ds vs → ds.length = vs.length
  | [], _, h => by cases (show _ = [] from h); rfl
  | d :: l, _, h => by
    obtain ⟨v, vr, rfl, _, rs⟩ := h
    simp [RCs.lens rs]
theorem RCs.len1 {K : PySem.W.Frag} {U : Addr → Prop} {H : Hp} {ds : List Iv.D} {vs : List L2.V} (h : RCs K U H ds vs) (n : vs.length = 1) : ∃ d v, ds = [d] ∧ vs = [v] ∧ RC K U H d v := by
  obtain ⟨d, rfl⟩ := List.length_eq_one_iff.mp (h.lens.trans n)
  obtain ⟨v, rfl, c⟩ := h.one
  exact ⟨d, v, rfl, rfl, c⟩
theorem RCs.len2 {K : PySem.W.Frag} {U : Addr → Prop} {H : Hp} {ds : List Iv.D} {vs : List L2.V} (h : RCs K U H ds vs) (n : vs.length = 2) : ∃ d d' v v', ds = [d, d'] ∧ vs = [v, v'] ∧ RC K U H d v ∧ RC K U H d' v' := by
  obtain ⟨d, d', rfl⟩ := len_two (h.lens.trans n)
  obtain ⟨v, v', rfl, c, c'⟩ := h.two
  exact ⟨d, d', v, v', rfl, rfl, c, c'⟩
theorem chkL_one {N : List Str} {sc : Scope} {c : CE} {es : List Expr} (h : chkL gi N sc [c] es = true) : ∃ e, es = [e] ∧ chk gi N sc c e = true := by
  cases es with
  | nil => simp [chkL] at h
  | cons e r =>
    cases r with
    | nil => simp only [chkL, Bool.and_eq_true] at h; exact ⟨e, rfl, h.1⟩
    | cons _ _ => simp [chkL] at h
theorem chkL_two {N : List Str} {sc : Scope} {c c' : CE} {es : List Expr} (h : chkL gi N sc [c, c'] es = true) : ∃ e e', es = [e, e'] ∧ chk gi N sc c e = true ∧ chk gi N sc c' e' = true := by
  cases es with
  | nil => simp [chkL] at h
  | cons e r =>
    simp only [chkL, Bool.and_eq_true] at h
    obtain ⟨e', rfl, h2⟩ := chkL_one (show chkL gi N sc [c'] r = true from h.2)
    exact ⟨e, e', rfl, h.1, h2⟩
theorem iEnd_len {EP : ExPin} {K : PySem.W.Frag} {W : WX} {hot : Bool} {s : List CE} {kd : String} {σ : St} {H : Hp} {R : It → Hp → Prop} (q : tA EP K XC W (evA V Φ hot s) σ H fun vs H1 => iEnd K kd vs H1 R) : tA EP K XC W (evA V Φ hot s) σ H fun vs H1 => vs.length = s.length ∧ iEnd K kd vs H1 R :=
  tA_len (fun ρ as ρ' e => evA_len s e) q
/-- what a for walks -/
theorem iter_ok {EP : ExPin} {hot : Bool} {k : Nat} {N : List Str} {sc : Scope} {W : WX} {X : Cx} (G : Gd EP XC hot k N sc W X) (C : Ctx gi V Φ XC k X.prog X.w X.K X.mg X.base) {kind : String} {s : List CE} {it tg : Expr} {es : List Expr}
    (hi : iterArgs gi sc kind it = some es) (hk : kindOk kind s.length tg = true) (hc : chkL gi N sc s es = true) (he : ∀ c e, s = [c] → es = [e] → PE X e (tM EP X.K XC W (ev V Φ hot c))) (ha : PA X es (tA EP X.K XC W (evA V Φ hot s))) :
    PI X tg it (fun σ H R => tA EP X.K XC W (evA V Φ hot s) σ H fun vs H1 => iEnd X.K kind vs H1 R) := by
  unfold iterArgs at hi
  by_cases h0 : kind = ""
  · subst h0
    rw [if_pos rfl] at hi
    cases hi
    have hl : s.length = 1 := by simpa [kindOk] using hk
    obtain ⟨c, rfl⟩ := List.length_eq_one_iff.mp hl
    have he := he c it rfl rfl
    refine pi_of fun σ H R q => ⟨_, pi_any he, ?_⟩
    have q := tA_cons q
    refine tM_mono (fun v H1 z => ?_) q
    obtain ⟨U, ds, items, rc, e, j⟩ := tA_nil z
    obtain ⟨d, v', rfl, ev, c1⟩ := RCs.len1 rc rfl
    cases ev
    cases d with
    | tup l =>
      cases (show some l = some items from e)
      obtain ⟨a, vs, rfl, s1, r1⟩ := c1.tup
      exact .inr (.inl ⟨a, rfl, ⟨vs, s1.sq⟩, j _ jok_tup⟩)
    | lst l =>
      cases (show some l = some items from e)
      obtain ⟨a, vs, rfl, s1, r1⟩ := c1.lst
      exact .inl ⟨a, rfl, ⟨vs, s1⟩, j _ jok_list⟩
    | str l =>
      cases (show some (l.map fun c => Iv.D.str [c]) = some items from e)
      obtain ⟨rfl, _⟩ := c1.str
      exact .inr (.inr ⟨_, rfl, j _ jok_str⟩)
    | _ => exact nomatch (show none = some items from e)
  · rw [if_neg h0] at hi
    cases it with
    | Call fn es' kws pos =>
      cases fn with
      | Name x px =>
        cases kws with
        | cons _ _ => cases hi
        | nil =>
          simp only at hi
          split at hi
          · rename_i h
            cases hi
            simp only [Bool.and_eq_true] at h
            obtain ⟨⟨h1, h2⟩, h3⟩ := h
            obtain ⟨g1, g2, g3⟩ := glb_of G.sc h2
            have hx := nm_eq h1
            subst hx
            have hm : X.mg (Str.ofString kind) = none := C.fr _ h3
            unfold kindOk at hk
            split at hk
            · exact absurd rfl h0
            · rcases (Bool.or_eq_true _ _).mp hk with hl | hl
              · obtain ⟨c, rfl⟩ := List.length_eq_one_iff.mp (by simpa using hl)
                obtain ⟨e, rfl, hc1⟩ := chkL_one hc
                refine pi_of fun σ H R q => ⟨_, L2.pi_range1 g1 hm ha (star_ok (chk_star hc1)), ?_⟩
                refine tA_mono (fun vs H1 z => ?_) (iEnd_len q)
                obtain ⟨n1, U, ds, items, rc, e, j⟩ := z
                obtain ⟨d, v, rfl, rfl, c1⟩ := RCs.len1 rc n1
                obtain ⟨i, rfl, e1, rfl⟩ := io_range1 e
                cases c1.int
                exact ⟨i, rfl, (rngOk_le e1).1, (rngOk_le e1).2, j _ jok_rng⟩
              · obtain ⟨c, c', rfl⟩ := len_two (show s.length = 2 by simpa using hl)
                obtain ⟨e, e', rfl, hc, hc'⟩ := chkL_two hc
                have s1 := star_ok (es := [e']) (env := X.env) (chk_star hc)
                have s2 := star_ok (es := []) (env := X.env) (chk_star hc')
                refine pi_of fun σ H R q => ⟨_, L2.pi_range2 g1 hm ha (by rw [s1, s2]; rfl) (by rw [s2]; rfl), ?_⟩
                refine tA_mono (fun vs H1 z => ?_) (iEnd_len q)
                obtain ⟨n1, U, ds, items, rc, e, j⟩ := z
                obtain ⟨d, d', v, v', rfl, rfl, c1, c2⟩ := RCs.len2 rc n1
                obtain ⟨i, i', rfl, rfl, e1, e2, rfl⟩ := io_range2 e
                cases c1.int
                cases c2.int
                exact ⟨i, i', rfl, ⟨(rngOk_le e1).1, (rngOk_le e1).2, (rngOk_le e2).1, (rngOk_le e2).2⟩, j _ jok_rng⟩
            · obtain ⟨hl, h6⟩ := Bool.and_eq_true_iff.mp hk
              obtain ⟨c, rfl⟩ := List.length_eq_one_iff.mp (by simpa using hl)
              obtain ⟨e, rfl, hc1⟩ := chkL_one hc
              cases tg with
              | Tuple elts kk tp =>
                refine pi_of fun σ H R q => ⟨_, IvEn.pi_enA g1 hm ha (star_ok (chk_star hc1)), ?_⟩
                refine tA_mono (fun vs H1 z => ?_) (iEnd_len q)
                obtain ⟨n1, U, ds, items, rc, e, j⟩ := z
                obtain ⟨d, v, rfl, rfl, c1⟩ := RCs.len1 rc n1
                obtain ⟨l, hl, rfl⟩ := io_enum e
                rcases hl with rfl | rfl
                · obtain ⟨a, xs, rfl, s1, r1⟩ := c1.lst
                  exact ⟨a, xs, rfl, .inl ⟨s1, j _ jok_enum⟩⟩
                · obtain ⟨a, xs, rfl, s1, r1⟩ := c1.tup
                  exact ⟨a, xs, rfl, .inr ⟨s1.sq, j _ jok_enumT⟩⟩
              | _ => cases h6
            · obtain ⟨hl, h6⟩ := Bool.and_eq_true_iff.mp hk
              obtain ⟨c, c', rfl⟩ := len_two (show s.length = 2 by simpa using hl)
              obtain ⟨e, e', rfl, hc, hc'⟩ := chkL_two hc
              cases tg with
              | Tuple elts kk tp =>
                refine pi_of fun σ H R q => ⟨_, IvZp.pi_zipM g1 hm ha (star_ok (chk_star hc)) (by
                  have s2 := star_ok (es := []) (env := X.env) (chk_star hc')
                  rw [s2]; rfl), ?_⟩
                refine tA_mono (fun vs H1 z => ?_) (iEnd_len q)
                obtain ⟨n1, U, ds, items, rc, e, j⟩ := z
                obtain ⟨d, d', v, v', rfl, rfl, c1, c2⟩ := RCs.len2 rc n1
                obtain ⟨t1, t2, l, m, rfl, rfl, rfl⟩ := io_zip e
                obtain ⟨a, xs, rfl, s1⟩ := seq_of c1
                obtain ⟨b, ys, rfl, s2⟩ := seq_of c2
                exact ⟨t1, t2, a, b, xs, ys, rfl, s1, s2, j _ jok_zipM⟩
              | _ => cases h6
            · cases hk
          · cases hi
      | _ => cases hi
    | _ => cases hi
end
end Iv

set_option linter.all false
set_option maxRecDepth 100000
set_option autoImplicit false
set_option Elab.async false
set_option maxHeartbeats 4000000
/-! Iv, part 20c: comprehensions. -/
namespace Iv
open PySem (Str Addr Value Obj Heap World Program Expr Stmt Scope Pos Shared Tok NameKind Operator CmpOp PyData)
open L2 (V Hp HO St upd SqL SqT Rd RelV Vals VK TE TT TA TS Cx Inv PE PT PA PS PSs upd_same upd_ne WX Takes Sp XK OpR CallR IxR R2 Dp DpAll Ends TG TGs PG PGs It TI PI)
variable {EP : ExPin}

def noW : WX := fun _ _ _ _ => False
theorem wipe_at (σ : St) : ∀ (vs : List Nat) (i : Nat), (L2.wipe σ vs)[i]? = if i ∈ vs then (σ[i]?).map (fun _ => none) else σ[i]?
  | [], i => by simp [L2.wipe]
  | v :: vs, i => by
    unfold L2.wipe
    by_cases h : v = i
    · subst h
      rw [if_pos List.mem_cons_self]
      by_cases hv : v < σ.length
      · rw [List.getElem?_set_self (by rw [L2.wipe_length]; exact hv)]
        simp [hv]
      · rw [List.getElem?_eq_none (by rw [List.length_set, L2.wipe_length]; omega), List.getElem?_eq_none (by omega)]; rfl
    · rw [List.getElem?_set_ne h, wipe_at σ vs i]
      by_cases m : i ∈ vs
      · rw [if_pos m, if_pos (List.mem_cons_of_mem _ m)]
      · rw [if_neg m, if_neg (by simp [m, Ne.symm h])]
theorem wipeR_len : ∀ (vs : List Nat) (ρ : Rho), (wipeR vs ρ).length = ρ.length
  | [], ρ => rfl
  | v :: vs, ρ => by
    show (wipeR vs (ρ.set v .no)).length = _
    rw [wipeR_len vs, List.length_set]
theorem wipeR_at : ∀ (vs : List Nat) (ρ : Rho) (i : Nat), (wipeR vs ρ)[i]? = if i ∈ vs then (ρ[i]?).map (fun _ => .no) else ρ[i]?
  | [], ρ, i => by simp [wipeR]
  | v :: vs, ρ, i => by
    show (wipeR vs (ρ.set v .no))[i]? = _
    rw [wipeR_at vs (ρ.set v .no) i]
    have e : (ρ.set v .no)[i]? = if v = i then (ρ[i]?).map (fun _ => .no) else ρ[i]? := by
      by_cases h : v = i
      · subst h
        rw [if_pos rfl]
        by_cases hv : v < ρ.length
        · rw [List.getElem?_set_self hv]; simp [hv]
        · rw [List.getElem?_eq_none (by rw [List.length_set]; omega), List.getElem?_eq_none (by omega)]; rfl
      · rw [if_neg h, List.getElem?_set_ne h]
    rw [e]
    by_cases h : v = i
    · subst h
      by_cases m : v ∈ vs <;> simp [m] <;> cases ρ[v]? <;> rfl
    · by_cases m : i ∈ vs
      · simp [m, h]
      · simp [m, h, Ne.symm h]
theorem backR_at : ∀ (vs : List Nat) (ρ ρ' : Rho) (i : Nat), ρ'.length = ρ.length → (backR vs ρ ρ')[i]? = if i ∈ vs then ρ[i]? else ρ'[i]?
  | [], ρ, ρ', i, _ => by simp [backR]
  | v :: vs, ρ, ρ', i, hl => by
    show (backR vs ρ (match ρ[v]? with | some s => ρ'.set v s | none => ρ'))[i]? = _
    have hl2 : (match ρ[v]? with | some s => ρ'.set v s | none => ρ').length = ρ.length := by
      cases ρ[v]? <;> simp [hl]
    rw [backR_at vs ρ _ i hl2]
    by_cases m : i ∈ vs
    · rw [if_pos m, if_pos (List.mem_cons_of_mem _ m)]
    · rw [if_neg m]
      by_cases h : i = v
      · subst h
        rw [if_pos List.mem_cons_self]
        cases q : ρ[i]? with
        | none =>
          have : ρ.length ≤ i := by simpa using q
          show ρ'[i]? = none
          exact List.getElem?_eq_none (by omega)
        | some s =>
          have := (List.getElem?_eq_some_iff.mp q).1
          rw [List.getElem?_set_self (by omega)]
      · rw [if_neg (by simp [m, h])]
        cases q : ρ[v]? with
        | none => rfl
        | some s => rw [List.getElem?_set_ne (Ne.symm h)]
theorem backR_len (vs : List Nat) (ρ : Rho) : ∀ ρ' : Rho, (backR vs ρ ρ').length = ρ'.length := by
  induction vs with
  | nil => intro ρ'; rfl
  | cons v vs ih =>
    intro ρ'
    show (backR vs ρ (match ρ[v]? with | some s => ρ'.set v s | none => ρ')).length = _
    rw [ih]
    cases ρ[v]? <;> simp
theorem pnOf_at {own : List Nat} {n i : Nat} : (pnOf own n).getD i false = true ↔ i < n ∧ i ∉ own := by
  unfold pnOf
  rw [List.getD_eq_getElem?_getD, List.getElem?_map]
  by_cases h : i < n
  · have e : (List.range n)[i]? = some i := by simp [h]
    rw [e]; simp [h]
  · have e : (List.range n)[i]? = none := by simp; omega
    rw [e]; simp [h]

section
variable {K : PySem.W.Frag} {XC : String → Addr} {W : WX} {pn : List Bool} {B : BT} {σ σ' σ2 : St} {U U' U1 U2 : Addr → Prop} {H H' H0 H1 H2 : Hp} {ρ ρ' ρ1 ρ2 : Rho} {own' : List Nat} {n : Nat}
theorem wipeR_some {i : Nat} {s : Sl} (h : (wipeR own' ρ)[i]? = some s) (hs : s ≠ .no) : i ∉ own' ∧ ρ[i]? = some s := by
  rw [wipeR_at] at h
  by_cases m : i ∈ own'
  · rw [if_pos m] at h
    cases q : ρ[i]? with
    | none => rw [q] at h; cases h
    | some s' => rw [q] at h; cases h; exact absurd rfl hs
  · rw [if_neg m] at h; exact ⟨m, h⟩
theorem ex_no {c : String} {fs : List (String × Iv.D)} : Sl.ex c fs ≠ .no := by intro z; cases z
theorem sh_no {d : Iv.D} : Sl.sh d ≠ .no := by intro z; cases z
theorem wipe_ne {i : Nat} (m : i ∉ own') : (L2.wipe σ own')[i]? = σ[i]? := by rw [wipe_at, if_neg m]
theorem R.wipe (r : R EP K U H σ ρ) : R EP K U H (L2.wipe σ own') (wipeR own' ρ) where
  len := by rw [wipeR_len, L2.wipe_length]; exact r.len
  trk := r.trk
  sh := fun i d e => by
    obtain ⟨m, e⟩ := wipeR_some e sh_no
    rw [wipe_ne m]; exact r.sh i d e
  ow := fun i s d e hd => by
    obtain ⟨m, e⟩ := wipeR_some e (held_no hd)
    rw [wipe_ne m]; exact r.ow i s d e hd
  dis := fun i j s s' d d' p ea ha eb hb qa qb => by
    obtain ⟨m1, ea⟩ := wipeR_some ea (held_no ha)
    obtain ⟨m2, eb⟩ := wipeR_some eb (held_no hb)
    rw [wipe_ne m1] at qa
    rw [wipe_ne m2] at qb
    exact r.dis i j s s' d d' p ea ha eb hb qa qb
  ex := fun i c fs e => by
    obtain ⟨m, e⟩ := wipeR_some e ex_no
    rw [wipe_ne m]; exact r.ex i c fs e
theorem own_wipe {b : Addr} (h : own (L2.wipe σ own') (wipeR own' ρ) b) : own σ ρ b := by
  obtain ⟨i, s, d, e, hd, q⟩ := h
  obtain ⟨m, e⟩ := wipeR_some e (held_no hd)
  rw [wipe_ne m] at q
  exact ⟨i, s, d, e, hd, q⟩
theorem owAt_wipe {i : Nat} (h : owAt (wipeR own' ρ) i = true) : i ∉ own' ∧ owAt ρ i = true := by
  obtain ⟨s, d, e, hd⟩ := owAt_held h
  obtain ⟨m, e⟩ := wipeR_some e (held_no hd)
  exact ⟨m, held_owAt e hd⟩
/-- from the wiped slots: back to the outer ones -/
theorem AdvS.backTo (r : R EP K U H σ ρ) (hn : σ.length = n) (a : AdvS EP K (pnOf own' n) (L2.wipe σ own') U H (wipeR own' ρ) σ2 U2 H2 ρ2) : Adv EP K σ U H ρ U2 H2 (backR own' ρ ρ2) := by
  have rw_ := r.wipe (own' := own')
  have kp := a.kp rw_
  have hlσ : σ2.length = σ.length := by rw [a.len, L2.wipe_length]
  have hlρ : ρ2.length = ρ.length := by rw [a.r.len, hlσ, r.len]
  have at_ : ∀ i, (backR own' ρ ρ2)[i]? = if i ∈ own' then ρ[i]? else ρ2[i]? := fun i => backR_at own' ρ ρ2 i hlρ
  have same : ∀ {i : Nat}, i < σ.length → i ∉ own' → σ2[i]? = σ[i]? := fun {i} h m => by
    rw [a.pin i (pnOf_at.mpr ⟨by omega, m⟩), wipe_ne m]
  have lt : ∀ {i : Nat} {s : Sl}, ρ2[i]? = some s → i < σ.length := fun {i s} e => by
    have := (List.getElem?_eq_some_iff.mp e).1
    rw [hlρ, r.len] at this
    exact this
  have keepO : ∀ {b : Addr}, own σ ρ b → ¬ own (L2.wipe σ own') (wipeR own' ρ) b → ∀ o, H b = some o → H2 b = some o := fun {b} _ n o e => a.st.keep b o e n
  have slotO : ∀ {i : Nat} {s : Sl} {d : Iv.D}, ρ[i]? = some s → held s d → i ∈ own' → ∀ {p : Addr}, σ[i]? = some (some (V.ref p)) → ¬ own (L2.wipe σ own') (wipeR own' ρ) p := fun {i s d} e hd m {p} q z => by
    obtain ⟨j, s', d', e', hd', q'⟩ := z
    obtain ⟨m', e'⟩ := wipeR_some e' (held_no hd')
    rw [wipe_ne m'] at q'
    have := r.dis i j s s' d d' p e hd e' hd' q q'
    subst this
    exact m' m
  have stay : ∀ {i : Nat}, i ∉ own' → owAt ρ2 i = true → owAt ρ i = true := fun {i} m h => by
    obtain ⟨s, d, e, hd⟩ := owAt_held h
    have := a.pso i (pnOf_at.mpr ⟨by have := lt e; omega, m⟩) h
    exact (owAt_wipe this).2
  refine ⟨⟨fun b o e n => a.st.keep b o e fun z => n (own_wipe z), a.st.trk, a.st.up, fun b z => (a.st.new b z).imp id fun y => y.imp id own_wipe⟩, ⟨?_, a.r.trk, fun i d e => ?_, fun i s d e hd => ?_, fun i j s s' d d' p ea ha eb hb qa qb => ?_, fun i c fs e => ?_⟩, fun i h => ?_, fun i s e h => ?_⟩
  · rw [backR_len, hlρ]; exact r.len
  · rw [at_] at e
    by_cases m : i ∈ own'
    · rw [if_pos m] at e
      obtain ⟨v, hv, rr⟩ := r.sh i d e
      exact ⟨v, hv, RD.mono kp d v rr⟩
    · rw [if_neg m] at e
      rw [← same (lt e) m]
      exact a.r.sh i d e
  · rw [at_] at e
    by_cases m : i ∈ own'
    · rw [if_pos m] at e
      obtain ⟨p, hp, o⟩ := r.ow i s d e hd
      exact ⟨p, hp, o.mono a.st kp (slotO e hd m hp)⟩
    · rw [if_neg m] at e
      rw [← same (lt e) m]
      exact a.r.ow i s d e hd
  · rw [at_] at ea eb
    have prior : ∀ {i : Nat} {s : Sl} {d : Iv.D}, (if i ∈ own' then ρ[i]? else ρ2[i]?) = some s → held s d → ∃ s0 d0, ρ[i]? = some s0 ∧ held s0 d0 := fun {i s d} e hd => by
      by_cases m : i ∈ own'
      · rw [if_pos m] at e; exact ⟨s, d, e, hd⟩
      · rw [if_neg m] at e; exact owAt_held (stay m (held_owAt e hd))
    obtain ⟨s0, d0, e0, h0⟩ := prior ea ha
    obtain ⟨s1, d1, e1, h1⟩ := prior eb hb
    exact r.dis i j s0 s1 d0 d1 p e0 h0 e1 h1 qa qb
  · rw [at_] at e
    by_cases m : i ∈ own'
    · rw [if_pos m] at e; exact r.ex i c fs e
    · rw [if_neg m] at e
      rw [← same (lt e) m]
      exact a.r.ex i c fs e
  · obtain ⟨s, d, e, hd⟩ := owAt_held h
    rw [at_] at e
    by_cases m : i ∈ own'
    · rw [if_pos m] at e; exact held_owAt e hd
    · rw [if_neg m] at e; exact stay m (held_owAt e hd)
  · rw [at_]
    by_cases m : i ∈ own'
    · rw [if_pos m]; exact e
    · rw [if_neg m]
      exact (a.fx i s (by rw [wipeR_at, if_neg m]; exact e) h).1

/-- a turn's end: the own slots forgotten -/
theorem wipe_wipe : L2.wipe (L2.wipe σ own') own' = L2.wipe σ own' := by
  apply List.ext_getElem?
  intro i
  rw [wipe_at, wipe_at]
  by_cases m : i ∈ own'
  · simp only [if_pos m]; cases σ[i]? <;> rfl
  · simp only [if_neg m]
theorem AdvS.wipeE {σb : St} (a : AdvS EP K (pnOf own' n) σb U H (wipeR own' ρ) σ2 U2 H2 ρ2) (hw : L2.wipe σ2 own' = σb) : AdvS EP K (pnOf own' n) σb U H (wipeR own' ρ) σb U2 H2 (wipeR own' ρ2) where
  st := a.st
  r := hw ▸ a.r.wipe
  sub := fun i b h q => by
    obtain ⟨m, h⟩ := owAt_wipe h
    refine a.sub i b h ?_
    rw [← hw, wipe_ne m] at q
    exact q
  pin := fun _ _ => rfl
  fx := fun i s e h => by
    have m := (wipeR_some e (fun z => by subst z; cases h)).1
    refine ⟨?_, rfl⟩
    rw [wipeR_at, if_neg m]
    exact (a.fx i s e h).1
  pso := fun i z h => a.pso i z (owAt_wipe h).2
  len := rfl
/-- the new list, which nothing refers to -/
structure AccOk (K : PySem.W.Frag) (D : Addr) (acc : List Iv.D) (σ : St) (U : Addr → Prop) (H : Hp) (ρ : Rho) : Prop where
  ro : RO K U H (.lst acc) D
  nw : ¬ own σ ρ D
theorem AccOk.step {D : Addr} {acc : List Iv.D} (r : R EP K U H σ ρ) (h : AccOk K D acc σ U H ρ) (a : AdvS EP K pn σ U H ρ σ' U' H' ρ') : AccOk K D acc σ' U' H' ρ' :=
  ⟨h.ro.mono a.st (a.kp r) h.nw, fun z => (a.osub z).elim h.nw fun e => by
    obtain ⟨o, q⟩ := h.ro.there
    rw [q] at e; cases e⟩
/-- the new list grows -/
theorem Kp.upd {D : Addr} {vs ws : List V} (h : H D = some (.lst vs)) (n : ¬ U D) : Kp U U H (upd H D (.lst ws)) where
  up := fun _ z => z
  lst := fun b vs' u r => rdTo r fun o e => by
    have hb : b ≠ D := fun z => by subst z; exact n u
    rw [upd_ne hb]; exact e
  dt := fun b vs' u r => by
    have hb : b ≠ D := fun z => by subst z; exact n u
    rw [upd_ne hb]; exact r
  dk := fun b vs' u r => rdTo r fun o e => by
    have hb : b ≠ D := fun z => by subst z; exact n u
    rw [upd_ne hb]; exact e
  tup := fun b vs' r => by
    by_cases hb : b = D
    · subst hb
      rcases r with r | ⟨o, r⟩ <;> (rw [h] at r; cases r)
    · exact rdTo r fun o e => by rw [upd_ne hb]; exact e
theorem AdvS.updD {D : Addr} {vs ws : List V} (a : AdvS EP K pn σ U H ρ σ' U' H' ρ') (h0 : H D = none) (h : H' D = some (.lst vs)) (n : ¬ U' D) (nw : ¬ own σ' ρ' D) : AdvS EP K pn σ U H ρ σ' U' (upd H' D (.lst ws)) ρ' where
  st := ⟨fun b o e nb => by rw [upd_ne fun z => by subst z; rw [h0] at e; cases e]; exact a.st.keep b o e nb, fun b o e => by
      by_cases hb : b = D
      · subst hb; exact ⟨_, upd_same⟩
      · rw [upd_ne hb]; exact a.st.trk b o e, a.st.up, a.st.new⟩
  r := { len := a.r.len
         trk := fun b u => by
           have hb : b ≠ D := fun z => by subst z; exact n u
           rw [upd_ne hb]; exact a.r.trk b u
         sh := fun i d e => let ⟨v, q, z⟩ := a.r.sh i d e; ⟨v, q, RD.mono (Kp.upd h n) d v z⟩
         ow := fun i s d e hd => by
           obtain ⟨p, q, z⟩ := a.r.ow i s d e hd
           have hp : p ≠ D := fun y => nw (y ▸ ⟨i, s, d, e, hd, q⟩)
           refine ⟨p, q, ?_⟩
           unfold RO at z ⊢
           refine ⟨z.1, ?_⟩
           cases d with
           | lst l => obtain ⟨vs', e', r'⟩ := z.2; exact ⟨vs', by rw [upd_ne hp]; exact e', RL.mono (Kp.upd h n) l vs' r'⟩
           | dct l => obtain ⟨vs', e', r'⟩ := z.2; exact ⟨vs', by rw [upd_ne hp]; exact e', RK.mono (Kp.upd h n) l vs' r'⟩
           | dtn l => obtain ⟨vs', e', r'⟩ := z.2; exact ⟨vs', by rw [upd_ne hp]; exact e', RT.mono (Kp.upd h n) l vs' r'⟩
           | _ => exact z.2.elim
         dis := a.r.dis
         ex := a.r.ex }
  sub := a.sub
  pin := a.pin
  fx := a.fx
  pso := a.pso
  len := a.len
/-- back behind the lock -/
theorem Adv.unlock {as : List A} (a : Adv EP K σ U H (lockR as ρ) U' H' ρ') : Adv EP K σ U H ρ U' H' (unR as ρ ρ') := by
  have z := unlock_adv (pn := []) a.s
  refine ⟨z.st, z.r, fun i h => ?_, fun i s e h => (z.fx i s e h).1⟩
  obtain ⟨s, d, e, hd⟩ := owAt_held h
  obtain ⟨s', e', hd'⟩ := unR_held e hd
  have := a.so i (held_owAt e' hd')
  rwa [lockR_ow] at this
theorem R.toNo (r : R EP K U H σ ρ) (h : ∀ i a c fs, ¬ EP.at_ i a c fs) : R noEx K U H σ ρ :=
  ⟨r.len, r.trk, r.sh, r.ow, r.dis, fun i c fs e => let ⟨a, _, z⟩ := r.ex i c fs e; absurd z (h i a c fs)⟩
theorem R.ofNo (r : R noEx K U H σ ρ) : R EP K U H σ ρ := ⟨r.len, r.trk, r.sh, r.ow, r.dis, fun i c fs e => let ⟨a, _, z⟩ := r.ex i c fs e; z.elim⟩
theorem Adv.ofNo (a : Adv noEx K σ U H ρ U' H' ρ') : Adv EP K σ U H ρ U' H' ρ' := ⟨a.st, a.r.ofNo, a.so, a.fx⟩
/-- what is walked stands: over the wiped slots -/
theorem src_keepW (r : R EP K U H σ ρ) (a1 : Adv EP K σ U H ρ U1 H1 ρ1) {asA : List A} : ∀ {as : List A} {vs : List V} {ds : List Iv.D}, RAs K U1 H1 σ H as vs → rdL as ρ1 = .ok ds ρ1 → (∀ i ∈ refs as, i ∈ refs asA) → (∀ i ∈ refs as, i ∉ own') →
    AdvS noEx K pn (L2.wipe σ own') U1 H1 (wipeR own' (lockR asA ρ1)) σ' U' H' ρ' → R noEx K U1 H1 σ ρ1 → RCs K U' H' ds vs
  | [], vs, ds, h, e, _, _, _, _ => by cases (show vs = [] from h); cases e; rfl
  | a :: l, vs, ds, h, e, m, mo, s, rn => by
    obtain ⟨v, vr, rfl, ra, rs, _⟩ := h
    obtain ⟨d, dr, rfl, e1, e2⟩ := rdL_cons e
    have r1 := a1.r
    have kp := s.kp (lock_adv (as := asA) rn).r.wipe
    refine ⟨v, vr, rfl, ?_, src_keepW r a1 rs e2 (fun i hi => m i (by cases a <;> simp [refs, hi])) (fun i hi => mo i (by cases a <;> simp [refs, hi])) s rn⟩
    cases a with
    | val d' => cases e1; exact .inl (RD.mono kp d v ra)
    | fr d' =>
      cases e1
      obtain ⟨p, rfl, o, n⟩ := ra
      refine .inr ⟨p, rfl, o.mono s.st kp fun z => ?_⟩
      obtain ⟨i, h1, h2⟩ := own_at (own_wipe z)
      rw [lockR_ow] at h1
      obtain ⟨o', q⟩ := r.ownS (a1.sub p (at_own h1 h2)); rw [n] at q; cases q
    | rf i =>
      have ra : σ[i]? = some (some v) := ra
      have mi : i ∈ refs asA := m i (by simp [refs])
      have mn : i ∉ own' := mo i (by simp [refs])
      have lk : ∀ d', ρ1[i]? = some (.ow d') ∨ ρ1[i]? = some (.lk d') → RC K U' H' d' v := fun d' q => by
        have e3 : (lockR asA ρ1)[i]? = some (.lk d') := by
          rcases q with q | q
          · exact at_lockR (ow_toLock mi q) q
          · exact (lock_adv (as := asA) r1).fx i _ q rfl
        have e3 : (wipeR own' (lockR asA ρ1))[i]? = some (.lk d') := by rw [wipeR_at, if_neg mn]; exact e3
        obtain ⟨e4, q4⟩ := s.fx i _ e3 rfl
        obtain ⟨p, hp, o⟩ := s.r.ow i _ d' e4 (.inr rfl)
        rw [q4, wipe_ne mn, ra] at hp; cases hp
        exact .inr ⟨p, rfl, o⟩
      cases q : ρ1[i]? with
      | none => simp [rd, bnd, slot, q] at e1
      | some s0 =>
        simp only [rd, bnd, slot, q] at e1
        cases s0 with
        | no => cases e1
        | ex _ _ => cases e1
        | sh d' =>
          cases e1
          obtain ⟨w, hw, rr⟩ := r1.sh i _ q
          rw [ra] at hw; cases hw
          exact .inl (RD.mono kp d v rr)
        | ow d' => cases e1; exact lk _ (.inl q)
        | lk d' => cases e1; exact lk _ (.inr q)
end
theorem wipeR_wipe (own' : List Nat) (ρ : Rho) : wipeR own' (wipeR own' ρ) = wipeR own' ρ := by
  apply List.ext_getElem?
  intro i
  rw [wipeR_at, wipeR_at]
  by_cases m : i ∈ own'
  · simp only [if_pos m]; cases ρ[i]? <;> rfl
  · simp only [if_neg m]
theorem compL_w {own' : List Nat} {asg : D → M Unit} {mt : M Bool} {me : M D} : ∀ (items acc : List D) (ρ : Rho), compL own' asg mt me items acc (wipeR own' ρ) = compL own' asg mt me items acc ρ
  | [], acc, ρ => by unfold compL; rw [wipeR_wipe]
  | d :: r, acc, ρ => by unfold compL bnd; simp only []; rw [wipeR_wipe]
section
variable {α β : Type}
/-- what a computation ends in -/
def FinO (P : α → Rho → Prop) : Out α → Prop
  | .ok a ρ => P a ρ
  | _ => False
theorem FinO.s {K : PySem.W.Frag} {XC : String → Addr} {W : WX} {B : BT} {m : M α} {f : α → M β} {P : β → Rho → Prop} {ρ : Rho} (h : FinO P (bnd m f ρ)) : SOk K XC W B (m ρ) fun a _ _ _ ρ' => FinO P (f a ρ') := by
  unfold bnd at h
  cases e : m ρ with
  | stuck => rw [e] at h; exact h.elim
  | exc _ _ _ => rw [e] at h; exact h.elim
  | ok a ρ' => rw [e] at h; exact fun _ _ _ _ => h
theorem FinO.o {K : PySem.W.Frag} {XC : String → Addr} {W : WX} {σ : St} {U : Addr → Prop} {H : Hp} {ρ0 : Rho} {m : M α} {f : α → M β} {P : β → Rho → Prop} {ρ : Rho} (h : FinO P (bnd m f ρ)) : OutOk EP K XC W σ U H ρ0 (m ρ) fun a _ _ ρ' => FinO P (f a ρ') := by
  unfold bnd at h
  cases e : m ρ with
  | stuck => rw [e] at h; exact h.elim
  | exc _ _ _ => rw [e] at h; exact h.elim
  | ok a ρ' => rw [e] at h; exact fun _ _ _ => h
theorem FinO.g {c : Bool} {f : Unit → M β} {P : β → Rho → Prop} {ρ : Rho} (h : FinO P (bnd (grd c) f ρ)) : c = true ∧ FinO P (f () ρ) := by
  unfold bnd grd at h
  by_cases e : c = true
  · rw [if_pos e] at h; exact ⟨e, h⟩
  · rw [if_neg e] at h; exact h.elim
end
section
variable {K : PySem.W.Frag} {XC : String → Addr} {W : WX} {σ : St} {H : Hp} {Q : VK}
theorem lw_is {α β : Type} {as : List A} {own' : List Nat} {C : M α} {f : α → M β} {ρ : Rho} : bnd (locked as (within own' C)) f ρ = (match C (wipeR own' (lockR as ρ)) with
    | .ok out ρe => f out (unR as ρ (backR own' (lockR as ρ) ρe))
    | _ => .stuck) := by
  unfold bnd locked within lockR unR
  cases C (wipeR own' (mapAt lockS (toLock as ρ) ρ)) <;> rfl
theorem tM_comp {own' : List Nat} {n : Nat} {mA : M (List A)} {k : String} {t : Tgt} {mt : M Bool} {me : M A} (hx : ∀ i a c fs, ¬ EP.at_ i a c fs)
    (h : tM EP K XC W (bnd (lenIs n) fun _ => bnd mA fun as => bnd (grd ((refs as).all fun i => !(own'.contains i))) fun _ => bnd (rdL as) fun ds => bnd (opt (itemsOf k ds)) fun items =>
      bnd (locked as (within own' (compL own' (fun d => asgT (pnOf own' n) t (.val d)) mt (bnd me stv) items []))) fun out => ret (.fr (.lst out))) σ H Q) :
    L2.tLc (fun σ H R => tA EP K XC W mA σ H fun vs H1 => iEnd K k vs H1 R) (tG noEx K XC noW (pnOf own' n) (asgT (pnOf own' n) t)) (tB noEx K XC noW mt) (tM noEx K XC noW me) own' σ H Q := by
  obtain ⟨ρ, U, r, o⟩ := h
  have hlen : ρ.length = n ∧ OutOk EP K XC W σ U H ρ (bnd mA (fun as => bnd (grd ((refs as).all fun i => !(own'.contains i))) fun _ => bnd (rdL as) fun ds => bnd (opt (itemsOf k ds)) fun items =>
      bnd (locked as (within own' (compL own' (fun d => asgT (pnOf own' n) t (.val d)) mt (bnd me stv) items []))) fun out => ret (.fr (.lst out))) ρ) (fun a U' H' _ => ∀ v, RA K U' H' σ H a v → Q v H') := by
    unfold bnd lenIs at o
    by_cases e : ρ.length = n
    · rw [if_pos e] at o; exact ⟨e, o⟩
    · rw [if_neg e] at o; exact o.elim
  obtain ⟨hn, o⟩ := hlen
  refine ⟨ρ, U, r, (OutOk.seq o (Adv.refl r)).mono fun as U1 H1 ρ1 _ z vs rvs => ?_⟩
  obtain ⟨a1, o1⟩ := z
  clear o
  obtain ⟨hown, o1⟩ := OutOk.grd o1
  have hown : ∀ i ∈ refs as, i ∉ own' := fun i hi => by
    have := List.all_eq_true.mp hown i hi
    simpa using this
  have hds : ∃ ds, rdL as ρ1 = .ok ds ρ1 := by
    rcases rdL_cases as ρ1 with z | e1
    · exact z
    · unfold bnd at o1; rw [e1] at o1; exact o1.elim
  obtain ⟨ds, e1⟩ := hds
  unfold bnd at o1
  rw [e1] at o1
  obtain ⟨items, e2, o2⟩ := OutOk.bopt (f := fun items => bnd (locked as (within own' (compL own' (fun d => asgT (pnOf own' n) t (.val d)) mt (bnd me stv) items []))) fun out => ret (A.fr (.lst out))) o1
  clear o1
  have rn : R noEx K U1 H1 σ ρ1 := a1.r.toNo hx
  have rL := lock_adv (as := as) rn
  have hnσ : σ.length = n := by rw [← r.len]; exact hn
  -- the states of the block
  let σw := L2.wipe σ own'
  let ρb := wipeR own' (lockR as ρ1)
  let BB : BT := fun σ' U' H' ρ' => AdvS noEx K (pnOf own' n) σw U1 H1 ρb σ' U' H' ρ'
  have rb : R noEx K U1 H1 σw ρb := rL.r.wipe
  have src : ∀ {σ' U' H' ρ'}, BB σ' U' H' ρ' → RCs K U' H' ds vs := fun s => src_keepW r a1 rvs e1 (fun _ h => h) hown s rn
  refine ⟨U1, ds, items, src (AdvS.refl rb), e2, fun J jok D hD => ?_⟩
  let Fn : List Iv.D → Rho → Prop := fun out ρe => ∀ σe U' H', BB σe U' H' ρe → AccOk K D out σe U' H' ρe → Q (.ref D) H'
  have fin0 : FinO Fn (compL own' (fun d => asgT (pnOf own' n) t (.val d)) mt (bnd me stv) items [] ρb) := by
    rw [lw_is] at o2
    have hbb : wipeR own' (lockR as ρ1) = ρb := rfl
    rw [hbb] at o2
    cases e : compL own' (fun d => asgT (pnOf own' n) t (.val d)) mt (bnd me stv) items [] ρb with
    | stuck => rw [e] at o2; exact o2
    | exc _ _ _ => rw [e] at o2; exact o2
    | ok out ρe =>
      rw [e] at o2
      intro σe U' H' b acc
      have ad : Adv noEx K σ U1 H1 (lockR as ρ1) U' H' (backR own' (lockR as ρ1) ρe) := AdvS.backTo rL.r hnσ b
      refine o2 U' H' (a1.trans (Adv.ofNo ad.unlock)) _ ⟨D, rfl, acc.ro, ?_⟩
      exact a1.st.none_back hD
  refine ⟨fun i m H' => m = items.length - i ∧ ∃ (acc : List Iv.D) (ρ' : Rho) (U' : Addr → Prop), BB σw U' H' ρ' ∧ AccOk K D acc σw U' H' ρ' ∧ FinO Fn (compL own' (fun d => asgT (pnOf own' n) t (.val d)) mt (bnd me stv) (items.drop i) acc ρ'),
    ⟨items.length, rfl, [], ρb, U1, (Adv.alloc rb hD).s, ⟨⟨rb.notU hD, [], upd_same, RL.nil⟩, fun z => by obtain ⟨o, q⟩ := rb.ownS z; rw [hD] at q; cases q⟩, fin0⟩, ?_⟩
  rintro i m H2 ⟨rfl, acc, ρ2, U2, b2, ac2, f2⟩
  -- the own slots are emptied
  have b3 : BB σw U2 H2 (wipeR own' ρ2) := AdvS.wipeE b2 wipe_wipe
  have ac3 : AccOk K D acc σw U2 H2 (wipeR own' ρ2) := ⟨ac2.ro, fun z => ac2.nw (by
    have z : own (L2.wipe σw own') (wipeR own' ρ2) D := by rw [show L2.wipe σw own' = σw from wipe_wipe]; exact z
    exact own_wipe z)⟩
  have r3 : R noEx K U2 H2 σw (wipeR own' ρ2) := b3.r
  cases q : items[i]? with
  | none =>
    have hi : items.length ≤ i := by simpa using q
    rw [List.drop_of_length_le hi] at f2
    exact .inl ⟨jok.stop i U2 H2 (src b2) hi, f2 _ _ _ b3 ac3⟩
  | some d =>
    obtain ⟨hi, hd⟩ := List.getElem?_eq_some_iff.mp q
    rw [List.drop_eq_getElem_cons hi, hd] at f2
    refine .inr ⟨jok.go i U2 H2 d (src b2) q, fun H3 => ∃ (acc : List Iv.D) (ρ' : Rho) (U' : Addr → Prop), BB σw U' H3 ρ' ∧ AccOk K D acc σw U' H3 ρ' ∧ FinO Fn (compL own' (fun d => asgT (pnOf own' n) t (.val d)) mt (bnd me stv) (items.drop (i + 1)) acc ρ'),
      fun H3 h3 => ⟨items.length - (i + 1), by omega, rfl, h3⟩, fun x H3 y => ?_⟩
    obtain ⟨hh, rx⟩ := jok.yld i U2 H2 d x H3 (src b2) q y
    have st4 : BB σw U2 H3 (wipeR own' ρ2) ∧ AccOk K D acc σw U2 H3 (wipeR own' ρ2) := by
      rcases hh with rfl | ⟨p, ob, hp, rfl⟩
      · exact ⟨b3, ac3⟩
      · have al := (Adv.alloc (o := ob) r3 hp).s (pn := pnOf own' n)
        exact ⟨b3.trans al, ac3.step r3 al⟩
    obtain ⟨b4, ac4⟩ := st4
    have f2 : FinO Fn (bnd (asgT (pnOf own' n) t (.val d)) (fun _ => bnd mt fun b => if b = true then bnd (bnd me stv) fun x => bnd (grd (decide (acc.length < sizeLine))) fun _ => compL own' (fun d => asgT (pnOf own' n) t (.val d)) mt (bnd me stv) (items.drop (i + 1)) (acc ++ [x]) else compL own' (fun d => asgT (pnOf own' n) t (.val d)) mt (bnd me stv) (items.drop (i + 1)) acc) (wipeR own' ρ2)) := f2
    let BT4 : BT := fun σ' U' H' ρ' => BB σ' U' H' ρ' ∧ AccOk K D acc σ' U' H' ρ'
    have C4 : Clo noEx K (pnOf own' n) BT4 := ⟨fun b a => ⟨b.1.trans a, b.2.step b.1.r a⟩, fun b => b.1.r⟩
    refine ⟨BT4, wipeR own' ρ2, U2, .val d, C4, ⟨b4, ac4⟩, rx, (FinO.s f2).mono fun _ σ5 U5 H5 ρ5 b5 f5 => ?_⟩
    obtain ⟨b5, ac5⟩ := b5
    have hw5 : L2.wipe σ5 own' = σw := by
      apply List.ext_getElem?
      intro j
      rw [wipe_at]
      show _ = (L2.wipe σ own')[j]?
      by_cases m : j ∈ own'
      · rw [if_pos m, wipe_at, if_pos m]
        have hl : σ5.length = σ.length := by rw [b5.len]; exact L2.wipe_length _ _
        by_cases hj : j < σ.length
        · have e5 : σ5[j]? = some (σ5[j]'(by omega)) := List.getElem?_eq_getElem _
          have e6 : σ[j]? = some (σ[j]) := List.getElem?_eq_getElem _
          rw [e5, e6]; rfl
        · rw [List.getElem?_eq_none (by omega), List.getElem?_eq_none (by omega)]
      · rw [if_neg m]
        by_cases hj : j < n
        · exact b5.pin j (pnOf_at.mpr ⟨hj, m⟩)
        · have hl : σ5.length = σ.length := by rw [b5.len]; exact L2.wipe_length _ _
          rw [List.getElem?_eq_none (by omega), List.getElem?_eq_none (by rw [L2.wipe_length]; omega)]
    refine ⟨hw5, ρ5, U5, b5.r, (FinO.o f5).mono fun b U6 H6 ρ6 a6 f6 => ?_⟩
    have b6 : BB σ5 U6 H6 ρ6 := b5.trans a6.s
    have ac6 : AccOk K D acc σ5 U6 H6 ρ6 := ac5.step b5.r (a6.s (pn := []))
    have wown : ∀ {ρx : Rho} {b : Addr}, own σw (wipeR own' ρx) b → own σ5 ρx b := fun {ρx b} z => by
      rw [← hw5] at z; exact own_wipe z
    cases b with
    | false => exact ⟨acc, wipeR own' ρ6, U6, AdvS.wipeE b6 hw5, ⟨ac6.ro, fun z => ac6.nw (wown z)⟩, by rw [compL_w]; exact f6⟩
    | true =>
      have f6 : FinO Fn (bnd (bnd me stv) (fun x => bnd (grd (decide (acc.length < sizeLine))) fun _ => compL own' (fun d => asgT (pnOf own' n) t (.val d)) mt (bnd me stv) (items.drop (i + 1)) (acc ++ [x])) ρ6) := f6
      rw [bnd_assoc] at f6
      refine ⟨ρ6, U6, b6.r, (FinO.o f6).mono fun a U7 H7 ρ7 a7 f7 v rv => ?_⟩
      have b7 : BB σ5 U7 H7 ρ7 := b6.trans a7.s
      have ac7 : AccOk K D acc σ5 U7 H7 ρ7 := ac6.step b6.r (a7.s (pn := []))
      have hst : ∃ x' ρ8, stv a ρ7 = .ok x' ρ8 := by
        rcases stv_cases a ρ7 with z | e8
        · exact z
        · unfold bnd at f7; rw [e8] at f7; exact f7.elim
      obtain ⟨x', ρ8, e8⟩ := hst
      have f8 : FinO Fn (bnd (grd (decide (acc.length < sizeLine))) (fun _ => compL own' (fun d => asgT (pnOf own' n) t (.val d)) mt (bnd me stv) (items.drop (i + 1)) (acc ++ [x'])) ρ8) := by
        unfold bnd at f7; rw [e8] at f7; exact f7
      obtain ⟨hsz, f8⟩ := FinO.g f8
      obtain ⟨U8, a8, rv8, kp8, _⟩ := stv_ok b6.r a7 rv e8
      have b8 : BB σ5 U8 H7 ρ8 := b6.trans a8.s
      have ac8 : AccOk K D acc σ5 U8 H7 ρ8 := ac6.step b6.r (a8.s (pn := []))
      obtain ⟨nU, va, hva, rla⟩ := ac8.ro
      refine ⟨va, hva, by rw [rla.len]; exact of_decide_eq_true hsz, acc ++ [x'], wipeR own' ρ8, U8, AdvS.wipeE (b8.updD hD hva nU ac8.nw) hw5, ⟨⟨nU, _, upd_same, ?_⟩, fun z => ac8.nw (wown z)⟩, by rw [compL_w]; exact f8⟩
      have kpu : Kp U8 U8 H7 (upd H7 D (.lst (va ++ [v]))) := Kp.upd hva nU
      exact RL.append (RL.mono kpu _ _ rla) (RL.one (RD.mono kpu _ _ rv8))
end
end Iv

set_option linter.all false
set_option maxRecDepth 100000
set_option autoImplicit false
set_option Elab.async false
set_option maxHeartbeats 4000000
/-! Iv, part 20d: dict displays of constants, get, tuple(range(..)), comprehensions of the text. -/
namespace Iv
open PySem (Str Addr Value Obj Heap World Program Expr Stmt Scope Pos Shared Tok NameKind Operator CmpOp PyData)
open L2 (V Hp HO St upd SqL SqT Rd RelV Vals VK TE TT TA TS Cx Inv PE PT PA PS PSs upd_same upd_ne WX Takes Sp XK OpR CallR IxR R2 Dp DpAll Ends TG TGs PG PGs It TI PI)
variable {EP : ExPin}

/-- a written constant's value -/
def vC : Iv.D → L2.V
  | .bl b => .bl b
  | .int i => .int i
  | .str s => .str (sx s)
  | _ => .non
def kC : Iv.D → L2.Key
  | .int i => .inl i
  | .str s => .inr (sx s)
  | _ => .inl 0
def kvC : List (Iv.D × Iv.D) → List (L2.Key × L2.V)
  | [] => []
  | (k, v) :: l => (kC k, vC v) :: kvC l
def trC : List (Iv.D × Iv.D) → List (TE × TE)
  | [] => []
  | (k, v) :: l => (L2.tC (L2.kV (kC k)), L2.tC (vC v)) :: trC l
theorem okTx_all {s : Tx} (h : (s.all fun c => decide (c < 1114112)) = true) : okTx s := fun c hc => of_decide_eq_true (List.all_eq_true.mp h c hc)
theorem chkDC_key {k : Iv.D} {a : PySem.Const} {j : Nat} {p : Pos} {X : Cx} (h : (match k, a with
      | .int i, .int j => i == j
      | .str s, .str t => sx s == t && s.all fun c => decide (c < 1114112)
      | _, _ => false) = true) : PE X (.Constant a j p) (L2.tC (L2.kV (kC k))) ∧ keyD k = some (kC k) ∧ ∀ K U H, RD K U H k (L2.kV (kC k)) := by
  cases k <;> cases a <;> first | (cases h; done) | skip
  · cases (beq_iff_eq.mp h)
    exact ⟨L2.pe_int, rfl, fun K U H => by unfold RD; rfl⟩
  · have h := Bool.and_eq_true_iff.mp h
    cases (beq_iff_eq.mp h.1)
    exact ⟨L2.pe_str, rfl, fun K U H => by unfold RD; exact ⟨rfl, okTx_all h.2⟩⟩
theorem chkDC_val {v : Iv.D} {b : PySem.Const} {j : Nat} {p : Pos} {X : Cx} (h : (match v, b with
      | .non, .none => true
      | .bl x, .bool y => x == y
      | .int i, .int j => i == j
      | .str s, .str t => sx s == t && s.all fun c => decide (c < 1114112)
      | _, _ => false) = true) : PE X (.Constant b j p) (L2.tC (vC v)) ∧ ∀ K U H, RD K U H v (vC v) := by
  cases v <;> cases b <;> first | (cases h; done) | skip
  · exact ⟨L2.pe_non, fun K U H => by unfold RD; rfl⟩
  · cases (beq_iff_eq.mp h)
    exact ⟨L2.pe_bl, fun K U H => by unfold RD; rfl⟩
  · cases (beq_iff_eq.mp h)
    exact ⟨L2.pe_int, fun K U H => by unfold RD; rfl⟩
  · have h := Bool.and_eq_true_iff.mp h
    cases (beq_iff_eq.mp h.1)
    exact ⟨L2.pe_str, fun K U H => by unfold RD; exact ⟨rfl, okTx_all h.2⟩⟩
theorem pps_dc {X : Cx} {pos : Pos} : ∀ (l : List (Iv.D × Iv.D)) (ks : List (Option Expr)) (vs : List Expr), chkDC l ks vs = true →
    L2.PPs X pos ks vs (trC l) ∧ ks.all (·.isSome) = true ∧ ks.length = vs.length ∧ ks.length = l.length ∧ (∀ K U H, RK K U H l (kvC l)) ∧ (∀ p ∈ l, keyD p.1 = some (kC p.1)) ∧ (l.map fun p => kC p.1).Nodup
  | [], [], [], _ => ⟨L2.pps_nil, rfl, rfl, rfl, fun K U H => by unfold RK; rfl, (fun p hp => nomatch hp), List.nodup_nil⟩
  | [], [], _ :: _, h => by simp [chkDC] at h
  | [], _ :: _, _, h => by simp [chkDC] at h
  | _ :: _, [], _, h => by simp [chkDC] at h
  | _ :: _, none :: _, _, h => by simp [chkDC] at h
  | _ :: _, some _ :: _, [], h => by simp [chkDC] at h
  | (k, v) :: l, some ke :: ks, ve :: vs, h => by
    cases ke <;> first | (simp [chkDC] at h; done) | skip
    cases ve <;> first | (simp [chkDC] at h; done) | skip
    rename_i a j1 p1 b j2 p2
    unfold chkDC at h
    have h3 := Bool.and_eq_true_iff.mp h
    have h2 := Bool.and_eq_true_iff.mp h3.1
    have h1 := Bool.and_eq_true_iff.mp h2.1
    obtain ⟨k1, k2, k3⟩ := chkDC_key (X := X) (j := j1) (p := p1) h1.1
    obtain ⟨v1, v2⟩ := chkDC_val (X := X) (j := j2) (p := p2) h1.2
    obtain ⟨i1, i2, i3, i4, i5, i6, i7⟩ := pps_dc (X := X) (pos := pos) l ks vs h3.2
    refine ⟨L2.pps_cons k1 v1 i1, by simpa using i2, by simp [i3], by simp [i4], fun K U H => ?_, fun p hp => ?_, ?_⟩
    · unfold RK
      exact ⟨_, _, _, rfl, k2, k3 K U H, v2 K U H, i5 K U H⟩
    · rcases List.mem_cons.mp hp with rfl | hp
      · exact k2
      · exact i6 p hp
    · rw [List.map_cons, List.nodup_cons]
      refine ⟨fun hm => ?_, i7⟩
      obtain ⟨p, hp, e⟩ := List.mem_map.mp hm
      have z : D.eq p.1 k = true := (key_eq (i6 p hp) k2).mpr e
      have : (l.any fun p => D.eq p.1 k) = true := List.any_eq_true.mpr ⟨p, hp, z⟩
      rw [this] at h2
      exact absurd h2.2 (by decide)
theorem kvC_len : ∀ l, (kvC l).length = l.length
  | [] => rfl
  | (_, _) :: l => by simp [kvC, kvC_len l]
theorem valV_none {k : L2.Key} : ∀ {kvs : List (L2.Key × L2.V)}, (∀ p ∈ kvs, p.1 ≠ k) → L2.valV kvs k = none
  | [], _ => rfl
  | p :: r, h => by rw [L2.valV_neg (h p List.mem_cons_self)]; exact valV_none fun q hq => h q (List.mem_cons_of_mem _ hq)
theorem mergeK_new : ∀ (l : List (Iv.D × Iv.D)) (acc : List (L2.Key × L2.V)), (l.map fun p => kC p.1).Nodup → (∀ p ∈ acc, ∀ q ∈ l, p.1 ≠ kC q.1) → L2.mergeK acc (kvC l) = acc ++ kvC l
  | [], acc, _, _ => by simp [L2.mergeK, kvC]
  | (k, v) :: l, acc, nd, hd => by
    rw [List.map_cons, List.nodup_cons] at nd
    have e : L2.putK acc (kC k) (vC v) = acc ++ [(kC k, vC v)] := L2.putK_new _ (valV_none fun p hp => hd p hp (k, v) List.mem_cons_self)
    have ih := mergeK_new l (acc ++ [(kC k, vC v)]) nd.2 (fun p hp q hq => by
      rcases List.mem_append.mp hp with hp | hp
      · exact hd p hp q (List.mem_cons_of_mem _ hq)
      · cases List.mem_singleton.mp hp
        exact fun e => nd.1 (List.mem_map.mpr ⟨q, hq, e.symm⟩))
    show L2.mergeK (L2.putK acc (kC k) (vC v)) (kvC l) = _
    rw [e, ih, List.append_assoc]
    rfl
theorem tPairs_c : ∀ (l : List (Iv.D × Iv.D)) {σ : St} {H : Hp} {Q : List (L2.V × L2.V) → Hp → Prop}, Q ((kvC l).map fun kv => (L2.kV kv.1, kv.2)) H → L2.tPairs (trC l) σ H Q
  | [], σ, H, Q, q => q
  | (k, v) :: l, σ, H, Q, q => tPairs_c l (Q := fun ps H3 => Q ((L2.kV (kC k), vC v) :: ps) H3) q
section
variable {K : PySem.W.Frag} {XC : String → Addr} {W : WX} {σ : St} {H : Hp} {Q : VK}
theorem tM_dctC {l : List (Iv.D × Iv.D)} (hl : l.length ≤ 15) (hr : ∀ K U H, RK K U H l (kvC l)) (nd : (l.map fun p => kC p.1).Nodup) (h : tM EP K XC W (ret (.fr (.dct l))) σ H Q) : L2.tDisp (trC l) σ H Q := by
  obtain ⟨ρ, U, r, o⟩ := h
  intro p hp
  refine tPairs_c l ⟨upd_same, kvC l, rfl, by rw [kvC_len]; exact hl, ?_⟩
  rw [L2.upd_upd, mergeK_new l [] nd (fun p hp => by cases hp), List.nil_append]
  refine OutOk.dlv (Adv.refl r) o _ _ (.inr ⟨p, _, hp, rfl⟩) ⟨p, rfl, ?_, hp⟩
  unfold RO
  exact ⟨r.notU hp, kvC l, upd_same, hr _ _ _⟩
theorem isD_rc {U : Addr → Prop} {d : Iv.D} {v : L2.V} (c : RC K U H d v) (h : isDct d = true) : ∃ a, v = .ref a ∧ L2.IsD H a := by
  cases d with
  | dct l => obtain ⟨a, kvs, rfl, s, _⟩ := c.dct; exact ⟨a, rfl, .inl ⟨kvs, s⟩⟩
  | _ => cases h
theorem rd_fix0 {U : Addr → Prop} {d : Iv.D} {v : L2.V} (c : RC K U H d v) (h : fix0 d = true) : RD K U H d v := by
  rcases c with c | ⟨p, _, c⟩
  · exact c
  · unfold RO at c
    cases d with
    | lst l => cases h
    | dct l => cases h
    | dtn l => cases h
    | _ => exact c.2.elim
theorem tM_get {ma mk md : M A} (h : tM EP K XC W (bnd ma fun x => bnd (rd x) fun o0 => bnd (grd (isDct o0)) fun _ => bnd mk fun y => bnd md fun z => bnd (rd x) fun o => bnd (rd y) fun j => bnd (rd z) fun e => bnd (opt (getD2 o j e)) fun r => ret (.val r)) σ H Q) :
    L2.tDGet2 (tM EP K XC W ma) (tM EP K XC W mk) (tM EP K XC W md) σ H Q := by
  obtain ⟨ρ, U, r, o⟩ := h
  refine ⟨ρ, U, r, (OutOk.seq o (Adv.refl r)).mono fun x U1 H1 ρ1 _ z v rv => ?_⟩
  obtain ⟨a1, o1⟩ := z
  obtain ⟨d0, c, o1⟩ := OutOk.brd a1.r rv o1
  obtain ⟨e0, o1⟩ := OutOk.grd o1
  obtain ⟨a, rfl, hd⟩ := isD_rc c e0
  refine ⟨a, rfl, hd, ρ1, U1, a1.r, (OutOk.seq o1 a1).mono fun y U2 H2 ρ2 _ z w rw_ => ?_⟩
  obtain ⟨a2, o2⟩ := z
  have a12 := a1.trans a2
  refine ⟨ρ2, U2, a2.r, (OutOk.seq o2 a12).mono fun z' U3 H3 ρ3 _ z u ru => ?_⟩
  obtain ⟨a3, o3⟩ := z
  have rv3 := RA.mono a1.r (a2.trans a3) (fun b z => r.ownS (a1.sub b z)) rv
  have rw3 := RA.mono a2.r a3 (fun b z => a1.r.ownS (a2.sub b z)) rw_
  obtain ⟨o, co, o3⟩ := OutOk.brd a3.r rv3 o3
  obtain ⟨j, cj, o3⟩ := OutOk.brd a3.r rw3 o3
  obtain ⟨e, ce, o3⟩ := OutOk.brd a3.r ru o3
  obtain ⟨r', er, o3⟩ := OutOk.bopt o3
  cases o with
  | dct l =>
    obtain ⟨g, rfl⟩ := guardO_some (show guardO (j.key && fix0 e) ((dget l j).getD e) = some r' from er)
    have g := Bool.and_eq_true_iff.mp g
    obtain ⟨a', kvs, ea, s, rk⟩ := co.dct
    cases ea
    obtain ⟨k, hk, rfl⟩ := cj.keyV g.1
    have zz := RK.get hk rk
    refine ⟨L2.valV kvs k, .inl ⟨kvs, k, s, rfl, rfl⟩, (OutOk.dlv (a12.trans a3) o3).val ?_⟩
    cases e2 : dget l j with
    | none =>
      rw [e2] at zz
      rw [show L2.valV kvs k = none from zz]
      exact rd_fix0 ce g.2
    | some d =>
      rw [e2] at zz
      obtain ⟨w, e3, e4⟩ := zz
      rw [e3]
      exact e4
  | _ => cases er
theorem rngL_vs {U : Addr → Prop} : ∀ (n : Nat) (lo : Int), RL K U H (rngL lo n) ((List.range n).map fun (i : Nat) => L2.V.int (lo + (i : Int)))
  | 0, lo => by simpa [rngL] using RL.nil
  | n + 1, lo => by
    unfold rngL
    rw [List.range_succ_eq_map, List.map_cons, List.map_map]
    refine RL.cons (by unfold RD; simp) ?_
    have ih := rngL_vs (U := U) n (lo + 1)
    have e : (List.range n).map ((fun (i : Nat) => L2.V.int (lo + (i : Int))) ∘ Nat.succ) = (List.range n).map fun (i : Nat) => L2.V.int (lo + 1 + (i : Int)) := by
      apply List.map_congr_left
      intro i _
      simp only [Function.comp]
      congr 1
      push_cast
      omega
    rw [e]; exact ih
theorem tM_trng {ma : M A} (h : tM EP K XC W (bnd ma fun x => bnd (rd x) fun d => bnd (opt (trngD d)) fun r => ret (.val r)) σ H Q) : L2.tTupRg (L2.tRg1 (tM EP K XC W ma)) σ H Q := by
  obtain ⟨ρ, U, r, o⟩ := h
  refine ⟨ρ, U, r, (OutOk.seq o (Adv.refl r)).mono fun x U1 H1 ρ1 _ z v rv => ?_⟩
  obtain ⟨a1, o1⟩ := z
  obtain ⟨d, c, o1⟩ := OutOk.brd a1.r rv o1
  obtain ⟨t, e, o1⟩ := OutOk.bopt o1
  cases d with
  | int i =>
    cases c.int
    obtain ⟨g, rfl⟩ := guardO_some (show guardO (rngOk i && decide (i.toNat ≤ 16777216)) (Iv.D.tup (rngL 0 i.toNat)) = some t from e)
    have g := Bool.and_eq_true_iff.mp g
    have g1 := rngOk_le g.1
    have g2 := of_decide_eq_true g.2
    refine ⟨i, rfl, ⟨by decide, by decide, g1.1, g1.2, by simpa using g2⟩, fun q hq => ?_⟩
    have e2 : L2.rgV 0 i = (List.range i.toNat).map fun (j : Nat) => L2.V.int (0 + (j : Int)) := by unfold L2.rgV; rw [Int.sub_zero]
    rw [e2]
    exact (OutOk.dlv a1 o1).tup (rngL_vs _ _) hq
  | _ => cases e
end
end Iv

set_option linter.all false
set_option maxRecDepth 100000
set_option autoImplicit false
set_option Elab.async false
set_option maxHeartbeats 4000000
/-! Iv, part 20e: comprehensions of the text. -/
namespace Iv
open PySem (Str Addr Value Obj Heap World Program Expr Stmt Scope Pos Shared Tok NameKind Operator CmpOp PyData)
open L2 (V Hp HO St upd SqL SqT Rd RelV Vals VK TE TT TA TS Cx Inv PE PT PA PS PSs upd_same upd_ne WX Takes Sp XK OpR CallR IxR R2 Dp DpAll Ends TG TGs PG PGs It TI PI)
variable {EP : ExPin}
section
variable {gi : GI} {V : Env} {Φ : String → Rho → COut} {XC : String → Addr}
theorem Gd.blk {k : Nat} {N : List Str} {sc : Scope} {W : WX} {X : Cx} (G : Gd EP XC false k N sc W X) (s : Shared) (H : Hp) (scope : Scope) (C : Addr) (cl : List (Str × Addr)) (fp : List Addr) :
    Gd noEx XC false k N (relS scope sc) noW (X.blk s H scope (PySem.compEnvC scope cl C X.env) fp) :=
  ⟨fun u s' ⟨_, _, _, _, _, _, _, _, _, _, _, _, _, _, _, _, w⟩ => w.elim, G.n, (by show L2.relS scope X.env.scope = _; rw [G.sc]; rfl), G.nd, G.calm, G.room, G.un, (fun _ _ _ _ _ z => z), fun _ _ _ _ z => z.elim⟩
theorem blk_loc {k : Nat} {N : List Str} {sc : Scope} {W : WX} {X : Cx} {scope : Scope} (G : Gd EP XC false k N sc W X) (s : Shared) (H : Hp) (C : Addr) (cl : List (Str × Addr)) (fp : List Addr) (x : Str) (h : locV scope x = true) :
    L2.Loc (X.blk s H scope (PySem.compEnvC scope cl C X.env) fp).env.scope x ∧ ((X.blk s H scope (PySem.compEnvC scope cl C X.env) fp).fn x = true ∨ (X.blk s H scope (PySem.compEnvC scope cl C X.env) fp).env.scope.names.lookup x = some .local) := by
  rcases locV_of h with e | e
  · have e2 : (L2.relS scope X.env.scope).names.lookup x = some .local := L2.lookup_relS_keep (by decide) e
    exact ⟨.inl e2, .inr e2⟩
  · have e2 : (L2.relS scope X.env.scope).names.lookup x = some .cell := L2.lookup_relS_keep (by decide) e
    refine ⟨.inr e2, .inl ?_⟩
    show (scope.names.lookup x == some .cell) = true
    rw [e]; rfl
theorem ownN_snd {N : List Str} : ∀ {own' : List Nat}, own'.all (fun i => decide (i < N.length)) = true → (ownN N own').map (·.2) = own'
  | [], _ => rfl
  | i :: r, h => by
    simp only [List.all_cons, Bool.and_eq_true, decide_eq_true_eq] at h
    have e : N[i]? = some (N[i]'h.1) := List.getElem?_eq_getElem _
    have ih := ownN_snd (N := N) (own' := r) (by simpa using h.2)
    unfold ownN at ih ⊢
    rw [List.filterMap_cons, e]
    simp only [Option.map_some, List.map_cons, ih]
/-- the parts of a comprehension -/
structure LcI (X : Cx) (elt tg iter : Expr) (ifs : List Expr) (scope : Scope) (own' : List (Str × Nat)) (wi : TI) (g : TG) (tt : TT) (te : TE) : Prop where
  hc : X.calm = true
  hN : X.N.Nodup
  hi : PI X tg iter wi
  ok : L2.BlkOk X.N X.env.scope scope own'
  hg : ∀ (s : Shared) (H : Hp) (C : Addr) (cl : List (Str × Addr)) (fp : List Addr), PG (X.blk s H scope (PySem.compEnvC scope cl C X.env) fp) tg g
  ht : ∀ (s : Shared) (H : Hp) (C : Addr) (cl : List (Str × Addr)) (fp : List Addr), L2.PTs (X.blk s H scope (PySem.compEnvC scope cl C X.env) fp) ifs tt
  he : ∀ (s : Shared) (H : Hp) (C : Addr) (cl : List (Str × Addr)) (fp : List Addr), PE (X.blk s H scope (PySem.compEnvC scope cl C X.env) fp) elt te
  hs : ∀ x, PySem.foldedSetIterable iter X.env x = pure x
theorem LcI.pe {X : Cx} {elt tg iter : Expr} {ifs : List Expr} {scope : Scope} {own' : List (Str × Nat)} {wi : TI} {g : TG} {tt : TT} {te : TE} {pos : Pos} (l : LcI X elt tg iter ifs scope own' wi g tt te) : PE X (.ListComp elt [⟨tg, iter, ifs, 0⟩] scope pos) (L2.tLc wi g tt te (own'.map (·.2))) :=
  L2.pe_lc l.hc l.hN l.hi l.ok l.hg l.ht l.he l.hs
theorem LcI.ps {X : Cx} {elt tg iter : Expr} {ifs : List Expr} {scope : Scope} {own' : List (Str × Nat)} {wi : TI} {g : TG} {tt : TT} {te : TE} {pos spos py : Pos} {y : Str} {i : Nat} (l : LcI X elt tg iter ifs scope own' wi g tt te) (hy : X.N[i]? = some y) (hyl : X.env.scope.names.lookup y = some .local)
    (hsw : PySem.swapsWith (.ListComp elt [⟨tg, iter, ifs, 0⟩] scope pos) (some (.Name y py)) spos.line X.env = pure true) :
    PS X (.Assign [.Name y py] (.ListComp elt [⟨tg, iter, ifs, 0⟩] scope pos) spos) (L2.tAsg (L2.tLc wi g tt te (own'.map (·.2))) (L2.gName i)) :=
  L2.ps_setLc l.hc l.hN hy hyl hsw l.hi l.ok l.hg l.ht l.he l.hs
/-- what the term says of the clause -/
theorem tts_of {X : Cx} {K : PySem.W.Frag} {W : WX} {cs : List CE} {ifs : List Expr} (hl : ifs.length ≤ 1) {N : List Str} {sc : Scope} (hc : chkL gi N sc cs ifs = true) (h : ∀ c e, cs = [c] → ifs = [e] → PT X e (tB EP X.K XC W (tst (ev V Φ false c)))) :
    L2.PTs X ifs (tB EP X.K XC W (evTs V Φ false cs)) := by
  cases cs with
  | nil =>
    cases ifs with
    | cons _ _ => simp [chkL] at hc
    | nil => exact ⟨fun pins s σ H Q I q => L2.pts_nil.run pins s σ H Q I (by
        obtain ⟨ρ, U, r, o⟩ := q
        exact o U H (Adv.refl r))⟩
  | cons c cs =>
    cases ifs with
    | nil => simp [chkL] at hc
    | cons e ifs =>
      cases ifs with
      | cons _ _ => simp at hl
      | nil =>
        cases cs with
        | cons _ _ => simp [chkL] at hc
        | nil => exact ⟨fun pins s σ H Q I q => (L2.pts_one (h c e rfl rfl)).run pins s σ H Q I (by
            obtain ⟨ρ, U, r, o⟩ := q
            refine ⟨ρ, U, r, (OutOk.seq o (Adv.refl r)).mono fun b U1 H1 ρ1 _ z => ?_⟩
            obtain ⟨a1, o1⟩ := z
            cases b with
            | true => exact o1 U1 H1 a1
            | false => exact o1 U1 H1 a1)⟩
theorem lc_of {k : Nat} {N : List Str} {sc : Scope} {W : WX} {X : Cx} (G : Gd EP XC false k N sc W X) (C : Ctx gi V Φ XC k X.prog X.w X.K X.mg X.base) {e : CE} {t : Tgt} {kd : String} {s cs : List CE} {own' : List Nat} {n : Nat} {x tg it : Expr} {ifs : List Expr} {a : Int} {scope : Scope} {p : Pos}
    (h : chk gi N sc (.comp e t kd s cs own' n) (.ListComp x [⟨tg, it, ifs, a⟩] scope p) = true)
    (hi : ∀ (es : List Expr), chkL gi N sc s es = true → (∀ c e, s = [c] → es = [e] → PE X e (tM EP X.K XC W (ev V Φ false c))) ∧ PA X es (tA EP X.K XC W (evA V Φ false s)))
    (hT : ∀ (X' : Cx) (W' : WX), Gd noEx XC false k N (relS scope sc) W' X' → Ctx gi V Φ XC k X'.prog X'.w X'.K X'.mg X'.base → chkL gi N (relS scope sc) cs ifs = true → ∀ c e, cs = [c] → ifs = [e] → PT X' e (tB noEx X'.K XC W' (tst (ev V Φ false c))))
    (hE : ∀ (X' : Cx) (W' : WX), Gd noEx XC false k N (relS scope sc) W' X' → Ctx gi V Φ XC k X'.prog X'.w X'.K X'.mg X'.base → chk gi N (relS scope sc) e x = true → PE X' x (tM noEx X'.K XC W' (ev V Φ false e))) :
    a = 0 ∧ (ownN N own').map (·.2) = own' ∧ LcI X x tg it ifs scope (ownN N own') (fun σ H R => tA EP X.K XC W (evA V Φ false s) σ H fun vs H1 => iEnd X.K kd vs H1 R)
      (tG noEx X.K XC noW (pnOf own' n) (asgT (pnOf own' n) t)) (tB noEx X.K XC noW (evTs V Φ false cs)) (tM noEx X.K XC noW (ev V Φ false e)) := by
  simp only [chk, Bool.and_eq_true, decide_eq_true_eq, Bool.not_eq_true', beq_iff_eq] at h
  obtain ⟨⟨⟨⟨⟨⟨⟨⟨⟨⟨h1, h2⟩, h3⟩, h4⟩, h5⟩, h6⟩, h7⟩, h8⟩, h9⟩, h10⟩, h11⟩ := h
  cases hia : iterArgs gi sc kd it with
  | none => rw [hia] at h2; cases h2
  | some es =>
    rw [hia] at h2
    obtain ⟨hi1, hi2⟩ := hi es h2
    refine ⟨h1, ownN_snd h10, G.calm rfl, by rw [G.n]; exact G.nd, iter_ok G C hia h3 h2 hi1 hi2, ?_, fun s H C' cl fp => ?_, fun s H C' cl fp => ?_, fun s H C' cl fp => ?_, fun y => ?_⟩
    · rw [G.n, G.sc]; exact L2.blkOk_by h9
    · have G2 := G.blk s H scope C' cl fp
      exact sT t tg G2.n (blk_loc G s H C' cl fp) G2.nd (.inr (G.calm rfl)) h5
    · have G2 := G.blk s H scope C' cl fp
      exact tts_of (K := X.K) h7 h6 (hT _ _ G2 C h6)
    · exact hE _ _ (G.blk s H scope C' cl fp) C h8
    · cases it <;> first | rfl | (exact absurd h4 (by simp [isSet]))
end
end Iv

set_option linter.all false
set_option maxRecDepth 100000
set_option autoImplicit false
set_option Elab.async false
set_option maxHeartbeats 4000000
/-! Iv, part 15: an expression of the text does what its compiled term says. -/
namespace Iv
open PySem (Str Addr Value Obj Heap World Program Expr Stmt Scope Pos Shared Tok NameKind Operator CmpOp PyData)
open L2 (V Hp HO St upd SqL SqT Rd RelV Vals VK TE TT TA TS Cx Inv PE PT PA PS PSs upd_same upd_ne WX Takes Sp XK OpR CallR IxR R2 Dp DpAll)

section
variable {gi : GI} {V : Env} {Φ : String → Rho → COut} {XC : String → Addr}
mutual
theorem sE : ∀ (c : CE) (e : Expr) {EP : ExPin} {hot : Bool} {k : Nat} {N : List Str} {sc : Scope} {W : WX} {X : Cx}, Gd EP XC hot k N sc W X → Ctx gi V Φ XC k X.prog X.w X.K X.mg X.base → chk gi N sc c e = true →
    PE X e (tM EP X.K XC W (ev V Φ hot c)) ∧ PT X e (tB EP X.K XC W (tst (ev V Φ hot c)))
  | .var i, e, EP, hot, k, N, sc, W, X, G, C, h => by
    cases e with
    | Name x p =>
      simp only [chk, Bool.and_eq_true, Bool.not_eq_true'] at h
      obtain ⟨⟨⟨h1, h2⟩, h3⟩, h4⟩ := h
      refine both (fun _ => rfl) (pe_of fun σ H Q q => ⟨_, L2.pe_var (i := i) ?_ ?_ h3 h4, tM_var q⟩)
      · rw [G.n]
        cases z : N[i]? with
        | none => rw [z] at h1; cases h1
        | some y => rw [z] at h1; rw [beq_iff_eq.mp h1]
      · rw [G.sc]; exact vis_of h2
    | _ => simp [chk] at h
  | .glo s, e, EP, hot, k, N, sc, W, X, G, C, h => by
    cases e with
    | Name x p =>
      simp only [chk, Bool.and_eq_true] at h
      obtain ⟨⟨h1, h2⟩, h3⟩ := h
      obtain ⟨g1, g2, _⟩ := glb_of G.sc h2
      obtain ⟨d, v, u, e1, e2, e3, e4⟩ := C.gl s h3
      refine both (fun _ => rfl) (pe_of fun σ H Q q => ⟨_, L2.pe_glob (v := v) g1 (by rw [nm_eq h1]; exact e2) e3 g2, ?_⟩)
      have q : tM EP X.K XC W (bnd (opt (V.glob s)) fun d => ret (.val d)) σ H Q := q
      rw [e1] at q
      obtain ⟨U, tr, q⟩ := tM_dlv (a := .val d) q
      exact q.val (e4 U H)
    | _ => simp [chk] at h
  | .cst d, e, EP, hot, k, N, sc, W, X, G, C, h => by
    cases e with
    | Constant c j p =>
      refine both (fun _ => rfl) (pe_of fun σ H Q q => ?_)
      obtain ⟨U, tr, q⟩ := tM_dlv (a := .val d) q
      cases d with
      | non => cases c <;> first | (simp [chk] at h; done) | exact ⟨_, L2.pe_non, q.non⟩
      | bl b =>
        cases c with
        | bool b' =>
          simp only [chk, beq_iff_eq] at h
          subst h
          exact ⟨_, L2.pe_bl, q.bl⟩
        | _ => simp [chk] at h
      | int i =>
        cases c with
        | int i' =>
          simp only [chk, beq_iff_eq] at h
          subst h
          exact ⟨_, L2.pe_int, q.int⟩
        | _ => simp [chk] at h
      | str s =>
        cases c with
        | str t =>
          simp only [chk, Bool.and_eq_true, beq_iff_eq] at h
          rw [← h.1]
          exact ⟨_, L2.pe_str, q.str fun c hc => of_decide_eq_true (List.all_eq_true.mp h.2 c hc)⟩
        | _ => simp [chk] at h
      | _ => simp [chk] at h
    | _ => cases d <;> simp [chk] at h
  | .tup l, e, EP, hot, k, N, sc, W, X, G, C, h => by
    cases e with
    | Tuple es j p =>
      simp only [chk] at h
      exact both (fun _ => rfl) (pe_of fun σ H Q q => ⟨_, L2.pe_tup (sL l es G C h).2, tM_tup q⟩)
    | _ => simp [chk] at h
  | .lst l, e, EP, hot, k, N, sc, W, X, G, C, h => by
    cases e with
    | List es p =>
      simp only [chk] at h
      exact both (fun _ => rfl) (pe_of fun σ H Q q => ⟨_, L2.pe_lst (sL l es G C h).2, tM_lst q⟩)
    | _ => simp [chk] at h
  | .dct0, e, EP, hot, k, N, sc, W, X, G, C, h => by
    cases e with
    | Dict ks vs p =>
      cases ks <;> cases vs <;> first | (simp [chk] at h; done) | exact both (fun _ => rfl) (pe_of fun σ H Q q => ⟨_, L2.pe_dnewK, tM_dct0 q⟩)
    | _ => simp [chk] at h
  | .dctN, e, EP, hot, k, N, sc, W, X, G, C, h => by
    cases e with
    | Dict ks vs p =>
      cases ks <;> cases vs <;> first | (simp [chk] at h; done) | exact both (fun _ => rfl) (pe_of fun σ H Q q => ⟨_, L2.pe_dnewT, tM_dctN q⟩)
    | _ => simp [chk] at h
  | .bin o a b, e, EP, hot, k, N, sc, W, X, G, C, h => by
    cases e with
    | BinOp x o' y p =>
      simp only [chk, Bool.and_eq_true, beq_iff_eq] at h
      obtain ⟨⟨h1, h2⟩, h3⟩ := h
      subst h1
      exact both (fun _ => rfl) (pe_of fun σ H Q q => ⟨_, L2.pe_op (op_binD o) (sE a x G C h2).1 (sE b y G C h3).1, tM_bin q⟩)
    | _ => simp [chk] at h
  | .neg a, e, EP, hot, k, N, sc, W, X, G, C, h => by
    cases e with
    | UnaryOp o x p =>
      cases o with
      | USub =>
        simp only [chk] at h
        exact both (fun _ => rfl) (pe_of fun σ H Q q => ⟨_, L2.pe_un L2.un_neg (sE a x G C h).1, tM_neg q⟩)
      | _ => simp [chk] at h
    | _ => simp [chk] at h
  | .not a, e, EP, hot, k, N, sc, W, X, G, C, h => by
    cases e with
    | UnaryOp o x p =>
      cases o with
      | Not =>
        simp only [chk] at h
        obtain ⟨ha, hb⟩ := sE a x G C h
        exact ⟨pe_of fun σ H Q q => ⟨_, pe_notD ha, tM_not q⟩, pt_of fun σ H Q q => ⟨_, L2.pt_not hb, tB_not q⟩⟩
      | _ => simp [chk] at h
    | _ => simp [chk] at h
  | .ite c a b, e, EP, hot, k, N, sc, W, X, G, C, h => by
    cases e with
    | IfExp x y z p =>
      simp only [chk, Bool.and_eq_true] at h
      obtain ⟨⟨h1, h2⟩, h3⟩ := h
      have hc := (sE c x G C h1).2
      have ha := sE a y G C h2
      have hb := sE b z G C h3
      exact ⟨pe_of fun σ H Q q => ⟨_, L2.pe_ifExp hc ha.1 hb.1, tM_ite q⟩, pt_of fun σ H Q q => ⟨_, pt_ifP hc ha.2 hb.2, tB_ite q⟩⟩
    | _ => simp [chk] at h
  | .idx a i, e, EP, hot, k, N, sc, W, X, G, C, h => by
    cases e with
    | Subscript x y p =>
      simp only [chk, Bool.and_eq_true] at h
      have hu := G.un
      exact both (fun _ => rfl) (pe_of fun σ H Q q => ⟨_, L2.pe_ix (ix_D (by omega)) (sE a x G C h.1).1 (sE i y G C h.2).1 (plainIx (chk_plain h.2)), tM_idx q⟩)
    | _ => simp [chk] at h
  | .chn o o2 a b c, e, EP, hot, k, N, sc, W, X, G, C, h => by
    cases e with
    | Compare x ops ys p =>
      match ops, ys, h with
      | [o', p'], [y, z], h =>
        simp only [chk, Bool.and_eq_true, beq_iff_eq] at h
        obtain ⟨⟨⟨⟨h1, h2⟩, h3⟩, h4⟩, h5⟩ := h
        subst h1 h2
        have hu := G.un
        have ha := (sE a x G C h3).1
        have hb := (sE b y G C h4).1
        have hc := (sE c z G C h5).1
        have hm : PySem.lastMarks [o, o2] [y, z] = false := by show PySem.behindInMarks o2 z = false; exact noSet (chk_noset h5)
        exact ⟨pe_of fun σ H Q q => ⟨_, L2.pe_chain (op_cmpD o hu) (op_cmpD o2 hu) ha hb hc hm, tM_chn q⟩, pt_of fun σ H Q q => ⟨_, L2.pt_chain (op_cmpD o hu) (op_cmpD o2 hu) ha hb hc hm, tTest_chain tM_mono tM_mono tM_mono (tM_chn (tB_tst q))⟩⟩
      | [], ys, h => simp [chk] at h
      | [_], ys, h => simp [chk] at h
      | [_, _], [], h => simp [chk] at h
      | [_, _], [_], h => simp [chk] at h
      | [_, _], _ :: _ :: _ :: _, h => simp [chk] at h
      | _ :: _ :: _ :: _, ys, h => simp [chk] at h
    | _ => simp [chk] at h
  | .cmp o a b, e, EP, hot, k, N, sc, W, X, G, C, h => by
    cases e with
    | Compare x ops ys p =>
      match ops, ys, h with
      | [o'], [y], h =>
        simp only [chk, Bool.and_eq_true, beq_iff_eq] at h
        obtain ⟨⟨h1, h3⟩, h4⟩ := h
        subst h1
        have hu := G.un
        have ha := (sE a x G C h3).1
        have hb := (sE b y G C h4).1
        have hm : PySem.behindInMarks o y = false := noSet (chk_noset h4)
        exact ⟨pe_of fun σ H Q q => ⟨_, L2.pe_cmpR (op_cmpD o hu) ha hb hm, tM_cmp q⟩, pt_of fun σ H Q q => ⟨_, L2.pt_cmpR (op_cmpD o hu) ha hb hm, tTest_op tM_mono tM_mono (tM_cmp (tB_tst q))⟩⟩
      | [], ys, h => simp [chk] at h
      | [_], [], h => simp [chk] at h
      | [_], _ :: _ :: _, h => simp [chk] at h
      | _ :: _ :: _, ys, h => simp [chk] at h
    | _ => simp [chk] at h
  | .and a b, e, EP, hot, k, N, sc, W, X, G, C, h => by
    cases e with
    | BoolOp op vs p =>
      match op, vs, h with
      | .And, x :: y :: [], h =>
        simp only [chk, Bool.and_eq_true] at h
        have ha := sE a x G C h.1
        have hb := sE b y G C h.2
        exact ⟨pe_of fun σ H Q q => ⟨_, pe_andD ha.1 (L2.pe_one hb.1), tM_and q⟩, pt_of fun σ H Q q => ⟨_, (L2.pw_and ha.2 (L2.pw_and1 hb.2)).pt, tB_and q⟩⟩
      | .And, x :: y :: z :: r, h =>
        simp only [chk, Bool.and_eq_true] at h
        have ha := sE a x G C h.1
        have hb := sE b _ G C h.2
        exact ⟨pe_of fun σ H Q q => ⟨_, pe_andD ha.1 hb.1, tM_and q⟩, pt_of fun σ H Q q => ⟨_, (L2.pw_and ha.2 (pw_pt hb.2)).pt, tB_and q⟩⟩
      | .And, [], h => simp [chk] at h
      | .And, [_], h => simp [chk] at h
      | .Or, vs, h => simp [chk] at h
    | _ => simp [chk] at h
  | .or a b, e, EP, hot, k, N, sc, W, X, G, C, h => by
    cases e with
    | BoolOp op vs p =>
      match op, vs, h with
      | .Or, x :: y :: [], h =>
        simp only [chk, Bool.and_eq_true] at h
        have ha := sE a x G C h.1
        have hb := sE b y G C h.2
        exact ⟨pe_of fun σ H Q q => ⟨_, pe_orD ha.1 (L2.pe_one hb.1), tM_or q⟩, pt_of fun σ H Q q => ⟨_, (L2.pw_or ha.2 (L2.pw_or1 hb.2)).pt, tB_or q⟩⟩
      | .Or, x :: y :: z :: r, h =>
        simp only [chk, Bool.and_eq_true] at h
        have ha := sE a x G C h.1
        have hb := sE b _ G C h.2
        exact ⟨pe_of fun σ H Q q => ⟨_, pe_orD ha.1 hb.1, tM_or q⟩, pt_of fun σ H Q q => ⟨_, (L2.pw_or ha.2 (pw_pt hb.2)).pt, tB_or q⟩⟩
      | .Or, [], h => simp [chk] at h
      | .Or, [_], h => simp [chk] at h
      | .And, vs, h => simp [chk] at h
    | _ => simp [chk] at h
  | .gix s i, e, EP, hot, k, N, sc, W, X, G, C, h => by
    cases e with
    | Subscript x y p =>
      cases x with
      | Name nx px =>
        simp only [chk, Bool.and_eq_true] at h
        obtain ⟨⟨⟨h1, h2⟩, h3⟩, h4⟩ := h
        obtain ⟨g1, g2, _⟩ := glb_of G.sc h2
        obtain ⟨l, a, e1, e2, e3⟩ := C.gd s h3
        refine both (fun _ => rfl) (pe_of fun σ H Q q => ⟨_, L2.pe_ix L2.ix_kdict (L2.pe_glob (v := .ref a) g1 (by rw [nm_eq h1]; exact e2) rfl g2) (sE i y G C h4).1 (plainIx (chk_plain h4)), ?_⟩)
        have q : tM EP X.K XC W (bnd (ev V Φ hot i) fun y => bnd (rd y) fun j => match j with | .str s' => bnd (opt ((V.gdct s).bind fun l => l.lookup s')) fun d => ret (.val d) | _ => fail) σ H Q := q
        rw [e1] at q
        refine tM_mono (fun y H2 z => ?_) (tM_gix q)
        obtain ⟨U, z, d, rfl, e4, q⟩ := z
        obtain ⟨v, kd, rv⟩ := e3 z d e4
        exact ⟨a, sx z, v, rfl, rfl, kd, q v (rv U H2)⟩
      | _ => simp [chk] at h
    | _ => simp [chk] at h
  | .slc a lo hi, e, EP, hot, k, N, sc, W, X, G, C, h => by
    cases e with
    | Subscript x y p =>
      cases y with
      | Slice l u st p2 =>
        cases st with
        | none =>
          simp only [chk, Bool.and_eq_true] at h
          obtain ⟨⟨h1, h2⟩, h3⟩ := h
          exact both (fun _ => rfl) (pe_of fun σ H Q q => ⟨_, L2.pe_slice sl_D (sE a x G C h1).1 (sO lo l G C h2) (sO hi u G C h3), tM_slc q⟩)
        | some _ => simp [chk] at h
      | _ => simp [chk] at h
    | _ => simp [chk] at h
  | .call f l, e, EP, hot, k, N, sc, W, X, G, C, h => by
    cases e with
    | Call fn es kws p =>
      cases fn with
      | Name x px =>
        cases kws with
        | nil =>
          simp only [chk, Bool.and_eq_true] at h
          obtain ⟨⟨⟨h1, h2⟩, h3⟩, h4⟩ := h
          obtain ⟨g1, g2, _⟩ := glb_of G.sc h2
          obtain ⟨fa, fd, ps, e2, e3, e4, e5⟩ := C.fn f h3
          refine both (fun _ => rfl) (pe_of fun σ H Q q => ?_)
          obtain ⟨hh, q⟩ := tM_grd q
          have hot0 : hot = false := by simpa using hh
          cases l with
          | nil =>
            cases es with
            | nil => exact ⟨_, pe_callS0 e5 (G.room hot0) g1 (by rw [nm_eq h1]; exact e2) e3 e4 (fun σ => L2.passAt G.tk σ) g2, tA_nil (tM_call q)⟩
            | cons _ _ => simp [chkL] at h4
          | cons c l =>
            cases es with
            | nil => simp [chkL] at h4
            | cons e es =>
              have h5 := h4
              simp only [chkL, Bool.and_eq_true] at h5
              exact ⟨_, L2.pe_callS e5 (G.room hot0) g1 (by rw [nm_eq h1]; exact e2) e3 e4 (fun σ => L2.passAt G.tk σ) (sL (c :: l) (e :: es) G C h4).1 g2 (star_ok (chk_star h5.1)) (star_none h5.2), tM_call q⟩
        | cons _ _ => simp [chk] at h
      | _ => simp [chk] at h
    | _ => simp [chk] at h
  | .callk f l ns ks pm, e, EP, hot, k, N, sc, W, X, G, C, h => by
    cases e with
    | Call fn es kws p =>
      cases fn with
      | Name x px =>
        simp only [chk, Bool.and_eq_true] at h
        obtain ⟨⟨⟨⟨h1, h2⟩, h3⟩, h4⟩, h5⟩ := h
        obtain ⟨g1, g2, _⟩ := glb_of G.sc h2
        obtain ⟨fa, fd, ps, e2, e3, e4, e5⟩ := C.kw _ h3
        obtain ⟨k1, k2, k3, k4⟩ := kwNames (env := X.env) (pos := p) h5
        have ha := (sL l es G C h4).1
        have hk := sK ks ns kws G C h5
        refine both (fun _ => rfl) (pe_of fun σ H Q q => ?_)
        obtain ⟨hh, q⟩ := tM_grd q
        have hot0 : hot = false := by simpa using hh
        refine ⟨_, pe_callN (pm := pm) (n := l.length) e4 (G.room hot0) g1 (by rw [nm_eq h1]; exact e2) e3 (fun s us ws u1 u2 => e5 s us ws u1 (by rw [u2, List.length_map])) (fun σ => L2.passAt G.tk σ) ha hk k1 k2 k3 g2 (fun e r ee => by subst ee; cases l with | nil => simp [chkL] at h4 | cons c l => (simp only [chkL, Bool.and_eq_true] at h4; exact star_ok (chk_star h4.1))) (star_none h4), ?_⟩
        have z := tM_callk q
        have z := tA_len (n := l.length) (fun ρ as ρ' e => evA_len l e) (k := fun vs H1 => tA EP X.K XC W (evA V Φ hot ks) σ H1 fun zs H2 => spF X.K XC Φ f (vs ++ pickL pm zs) H2 Q (L2.WE W σ)) z
        have fin : ∀ vs H1, (vs.length = l.length ∧ tA EP X.K XC W (evA V Φ hot ks) σ H1 fun zs H2 => spF X.K XC Φ f (vs ++ pickL pm zs) H2 Q (L2.WE W σ)) → tA EP X.K XC W (evA V Φ hot ks) σ H1 fun zs H2 => vs.length = l.length ∧ zs.length = (ns.map Str.ofString).length ∧ spF X.K XC Φ f (vs ++ pickL pm zs) H2 Q (L2.WE W σ) := fun vs H1 ⟨n1, w⟩ => by
          have w := tA_len (n := ks.length) (fun ρ as ρ' e => evA_len ks e) w
          exact tA_mono (fun zs H2 y => ⟨n1, by rw [List.length_map, k4]; exact y.1, y.2⟩) w
        by_cases e0 : es = []
        · subst e0
          rw [if_pos rfl]
          cases l with
          | cons _ _ => simp [chkL] at h4
          | nil => exact fin [] H (tA_nil z)
        · rw [if_neg e0]
          exact tA_mono fin z
      | _ => simp [chk] at h
    | _ => simp [chk] at h
  | .bi f l, e, EP, hot, k, N, sc, W, X, G, C, h => by
    cases e with
    | Call fn es kws p =>
      cases fn with
      | Name x px =>
        cases kws with
        | nil =>
          simp only [chk, Bool.and_eq_true] at h
          obtain ⟨⟨⟨⟨⟨h1, h2⟩, h3⟩, h6⟩, h4⟩, h7⟩ := h
          obtain ⟨g1, g2, g3⟩ := glb_of G.sc h2
          refine both (fun _ => rfl) (pe_of fun σ H Q q => ?_)
          obtain ⟨hh, q⟩ := tM_grd q
          cases l with
          | nil => simp at h7
          | cons c l =>
            cases es with
            | nil => simp [chkL] at h4
            | cons e es =>
              have h5 := h4
              simp only [chkL, Bool.and_eq_true] at h5
              have hm : X.mg x = none := by rw [nm_eq h1]; exact C.fr f h3
              rcases (Bool.or_eq_true _ _).mp h6 with hf | hf
              · exact ⟨_, L2.pe_callB (call_biB hf (G.calm' hh)) g1 hm (bi_id (nm_eq h1) hf) (sL (c :: l) (e :: es) G C h4).1 g3 g2 (star_ok (chk_star h5.1)) (star_none h5.2), tM_bi q⟩
              · exact ⟨_, L2.pe_callTy (call_biT hf (G.calm' hh)) g1 hm (bt_id (nm_eq h1) hf) (sL (c :: l) (e :: es) G C h4).1 g3 g2 (star_ok (chk_star h5.1)) (star_none h5.2), tM_bi q⟩
        | cons _ _ => simp [chk] at h
      | _ => simp [chk] at h
    | _ => simp [chk] at h
  | .isi a ts, e, EP, hot, k, N, sc, W, X, G, C, h => by
    cases e with
    | Call fn es kws p =>
      cases fn with
      | Name x px =>
        cases es with
        | nil => simp [chk] at h
        | cons y r =>
          cases r with
          | nil => simp [chk] at h
          | cons t r =>
            cases r with
            | cons _ _ => simp [chk] at h
            | nil =>
              cases t with
              | Name t pt =>
                cases kws with
                | cons _ _ => simp [chk] at h
                | nil =>
                  match ts, h with
                  | [s], h =>
                    simp only [chk, Bool.and_eq_true] at h
                    obtain ⟨⟨⟨⟨⟨h1, h2⟩, h3⟩, h4⟩, h5⟩, ⟨h6, h7⟩, h8⟩ := h
                    obtain ⟨g1, g2, g3⟩ := glb_of G.sc h2
                    obtain ⟨g4, g5, g6⟩ := glb_of G.sc h5
                    have hm : X.mg x = none := by rw [nm_eq h1]; exact C.fr _ h3
                    have ht : X.mg t = none := by rw [nm_eq h7]; exact C.fr _ h8
                    have hs := chk_star h4
                    refine both (fun _ => rfl) (pe_of fun σ H Q q => ⟨_, L2.pe_callB L2.call_isi g1 hm (by rw [nm_eq h1]; decide +kernel) (L2.pa_cons (sE a y G C h4).1 (L2.pa_cons (L2.pe_bltn (v := .ty s) g4 ht (it_id (nm_eq h7) h6) rfl g6 g5) L2.pa_nil) (star_ok hs)) g3 g2 (star_ok hs) rfl, tM_isi h6 q⟩)
                  | [], h => simp [chk] at h
                  | _ :: _ :: _, h => simp [chk] at h
              | _ => simp [chk] at h
      | _ => simp [chk] at h
    | _ => simp [chk] at h
  | .isx i c, e, EP, hot, k, N, sc, W, X, G, C, h => by
    cases e with
    | Call fn es kws p =>
      cases fn with
      | Name x px =>
        cases es with
        | nil => simp [chk] at h
        | cons y r =>
          cases r with
          | nil => cases y <;> simp [chk] at h
          | cons t r =>
            cases r with
            | cons _ _ => cases y <;> simp [chk] at h
            | nil =>
              cases y with
              | Name y py =>
                cases t with
                | Name t pt =>
                  cases kws with
                  | cons _ _ => simp [chk] at h
                  | nil =>
                    simp only [chk, Bool.and_eq_true, Bool.not_eq_true'] at h
                    obtain ⟨⟨⟨⟨⟨⟨⟨⟨⟨h1, h2⟩, h3⟩, h4⟩, h5⟩, h6⟩, h7⟩, h8⟩, h9⟩, h10⟩ := h
                    obtain ⟨g1, g2, g3⟩ := glb_of G.sc h2
                    obtain ⟨g4, g5, g6⟩ := glb_of G.sc h8
                    have hm : X.mg x = none := by rw [nm_eq h1]; exact C.fr _ h3
                    obtain ⟨_, _, _, _, _, _, ht, _, _, _, _⟩ := C.ex c h10
                    have ht : X.mg t = some (.ref (XC c)) := by rw [nm_eq h9]; exact ht
                    have hv : X.N[i]? = some y := by
                      rw [G.n]
                      cases z : N[i]? with
                      | none => rw [z] at h4; cases h4
                      | some y' => rw [z] at h4; rw [beq_iff_eq.mp h4]
                    refine both (fun _ => rfl) (pe_of fun σ H Q q => ⟨_, L2.pe_callB call_isx g1 hm (by rw [nm_eq h1]; decide +kernel) (L2.pa_cons (L2.pe_var (i := i) hv (by rw [G.sc]; exact vis_of h5) h6 h7) (L2.pa_cons (L2.pe_glob (v := .ref (XC c)) g4 ht rfl g5) L2.pa_nil) rfl) g3 g2 rfl rfl, ?_⟩)
                    exact tM_isx G C q
                | _ => simp [chk] at h
              | _ => cases t <;> simp [chk] at h
      | _ => simp [chk] at h
    | _ => simp [chk] at h
  | .fld i c, e, EP, hot, k, N, sc, W, X, G, C, h => by
    cases e <;> simp [chk] at h
  | .mth a m l, e, EP, hot, k, N, sc, W, X, G, C, h => by
    cases e with
    | Call fn es kws p =>
      cases fn with
      | Attribute x s pa =>
        cases kws with
        | nil =>
          simp only [chk, Bool.and_eq_true, decide_eq_true_eq] at h
          obtain ⟨⟨⟨⟨⟨⟨h1, h2⟩, h3⟩, h4⟩, h5⟩, h6⟩, h7⟩ := h
          have ho := (sE a x G C h6).1
          have hl := sL l es G C h7
          have hbase : PySem.attributeBase x s X.env (PySem.eval x X.env) = PySem.eval x X.env := by
            cases x <;> first | rfl | simp [notCall] at h5
          have hline : (pa.endLine == p.line) = true := by simpa using h3
          have hu := G.un
          have nilA : ∀ {σ : St} {H : Hp} {Q : List L2.V → Hp → Prop}, tA EP X.K XC W (evA V Φ hot l) σ H Q → (if es = [] then (fun σ H Q => Q [] H) else tA EP X.K XC W (evA V Φ hot l) : TA) σ H Q := fun q => by
            split
            · rename_i e0; subst e0
              cases l with
              | nil => exact tA_nil q
              | cons _ _ => simp [chkL] at h7
            · exact q
          have nilS : ∀ {σ : St} {H : Hp} {Q : List L2.V → Hp → Prop}, tS EP X.K XC W (evS V Φ hot l) σ H Q → (if es = [] then (fun σ H Q => Q [] H) else tS EP X.K XC W (evS V Φ hot l) : TA) σ H Q := fun q => by
            split
            · rename_i e0; subst e0
              cases l with
              | nil => exact tS_nil q
              | cons _ _ => simp [chkL] at h7
            · exact q
          have hx := nm_eq h1
          have h2 : m ∈ (["append", "extend", "insert", "index", "upper"] : List String) := by simpa [mtKnown] using h2
          refine both (fun _ => rfl) (pe_of fun σ H Q q => ?_)
          simp only [List.mem_cons, List.not_mem_nil, or_false] at h2
          rcases h2 with rfl | rfl | rfl | rfl | rfl
          · subst hx
            exact ⟨_, pe_bmA PySem.F.plainAttrs_list PySem.F.slot_list_append PySem.F.type_list_append mt_append ho hl.2 hbase h7 h4 hline, tM_mono (fun v H1 z => ⟨z.1, nilS z.2⟩) (tM_mthS (m := "append") (by decide) q)⟩
          · subst hx
            exact ⟨_, pe_bmA PySem.F.plainAttrs_list PySem.F.slot_list_extend PySem.F.type_list_extend mt_extend ho hl.1 hbase h7 h4 hline, tM_mono (fun v H1 z => ⟨z.1, nilA z.2⟩) (tM_mthA (m := "extend") (by decide) q)⟩
          · subst hx
            exact ⟨_, pe_bmA PySem.F.plainAttrs_list PySem.F.slot_list_insert PySem.F.type_list_insert mt_insert ho hl.2 hbase h7 h4 hline, tM_mono (fun v H1 z => ⟨z.1, nilS z.2⟩) (tM_mthS (m := "insert") (by decide) q)⟩
          · subst hx
            exact ⟨_, pe_bmA PySem.F.plainAttrs_list PySem.F.slot_list_index PySem.F.type_list_index (mt_index (by omega)) ho hl.1 hbase h7 h4 hline, tM_mono (fun v H1 z => ⟨z.1, nilA z.2⟩) (tM_mthA (m := "index") (by decide) q)⟩
          · subst hx
            exact ⟨_, pe_bmA PySem.F.plainAttrs_str PySem.F.slot_str_upper PySem.F.type_str_upper mt_upper ho hl.1 hbase h7 h4 hline, tM_mono (fun v H1 z => ⟨z.1, nilA z.2⟩) (tM_mthA (m := "upper") (by decide) q)⟩
        | cons _ _ => simp [chk] at h
      | _ => simp [chk] at h
    | _ => simp [chk] at h
  | .comp e' t k' s cs own' n, e, EP, hot, k, N, sc, W, X, G, C, h => by
    cases e with
    | ListComp x gens scope p =>
      match gens, h with
      | [⟨tg, it, ifs, a⟩], h =>
        have hi := fun (es : List Expr) (hot : Bool) (G : Gd EP XC hot k N sc W X) (hc : chkL gi N sc s es = true) => And.intro (sP s es G C hc) (sL s es G C hc)
        have hT := fun (X' : Cx) (W' : WX) (G' : Gd noEx XC false k N (relS scope sc) W' X') (C' : Ctx gi V Φ XC k X'.prog X'.w X'.K X'.mg X'.base) (hc : chkL gi N (relS scope sc) cs ifs = true) => sP cs ifs G' C' hc
        have hE := fun (X' : Cx) (W' : WX) (G' : Gd noEx XC false k N (relS scope sc) W' X') (C' : Ctx gi V Φ XC k X'.prog X'.w X'.K X'.mg X'.base) (hc : chk gi N (relS scope sc) e' x = true) => sE e' x G' C' hc
        refine both (fun _ => rfl) (pe_of fun σ H Q q => ?_)
        obtain ⟨hh, q⟩ := tM_grd q
        have hot0 : hot = false := by simpa using hh
        subst hot0
        obtain ⟨e1, e2, L⟩ := lc_of G C h (fun es hc => ⟨fun c e ec ee => ((hi es false G hc).1 c e ec ee).1, (hi es false G hc).2.1⟩) (fun X' W' G' C' hc c e ec ee => (hT X' W' G' C' hc c e ec ee).2) (fun X' W' G' C' hc => (hE X' W' G' C' hc).1)
        subst e1
        refine ⟨_, L.pe, ?_⟩
        rw [e2]
        exact tM_comp (G.ep rfl) q
      | [], h => simp [chk] at h
      | _ :: _ :: _, h => simp [chk] at h
    | _ => simp [chk] at h
  | .bad, e, EP, hot, k, N, sc, W, X, G, C, h =>
    ⟨pe_of fun σ H Q q => by obtain ⟨_, _, _, o⟩ := q; exact o.elim, pt_of fun σ H Q q => by obtain ⟨_, _, _, o⟩ := q; exact o.elim⟩
  | .dctC l, e, EP, hot, k, N, sc, W, X, G, C, h => by
    cases e with
    | Dict ks vs p =>
      simp only [chk, Bool.and_eq_true, decide_eq_true_eq, Bool.not_eq_true'] at h
      obtain ⟨⟨h1, h2⟩, h3⟩ := h
      obtain ⟨i1, i2, i3, i4, i5, i6, i7⟩ := pps_dc (X := X) (pos := p) l ks vs h1
      exact both (fun _ => rfl) (pe_of fun σ H Q q => ⟨_, L2.pe_disp i1 i2 i3 (fun z => by subst z; cases l with | nil => simp at h3 | cons _ _ => simp at i4) (by omega), tM_dctC h2 i5 i7 q⟩)
    | _ => simp [chk] at h
  | .trng a, e, EP, hot, k, N, sc, W, X, G, C, h => by
    cases e with
    | Call fn es kws p =>
      cases fn with
      | Name x px =>
        cases es with
        | nil => simp [chk] at h
        | cons y r =>
          cases r with
          | cons _ _ => simp [chk] at h
          | nil =>
            cases y with
            | Call fn2 es2 kws2 p2 =>
              cases fn2 with
              | Name y py =>
                cases es2 with
                | nil => simp [chk] at h
                | cons z r2 =>
                  cases r2 with
                  | cons _ _ => simp [chk] at h
                  | nil =>
                    cases kws2 with
                    | cons _ _ => simp [chk] at h
                    | nil =>
                      cases kws with
                      | cons _ _ => simp [chk] at h
                      | nil =>
                        simp only [chk, Bool.and_eq_true] at h
                        obtain ⟨⟨⟨⟨⟨⟨h1, h2⟩, h3⟩, h4⟩, h5⟩, h6⟩, h7⟩ := h
                        have ha := (sE a z G C h7).1
                        refine both (fun _ => rfl) (pe_of fun σ H Q q => ?_)
                        obtain ⟨hh, q⟩ := tM_grd q
                        have hot0 : hot = false := by simpa using hh
                        obtain ⟨g1, g2, g3⟩ := glb_of G.sc h2
                        obtain ⟨g4, g5, g6⟩ := glb_of G.sc h5
                        have e1 := nm_eq h1
                        have e2 := nm_eq h4
                        subst e1 e2
                        have m1 : X.mg (Str.ofString "tuple") = none := C.fr _ h3
                        have m2 : X.mg (Str.ofString "range") = none := C.fr _ h6
                        exact ⟨_, L2.pe_tupRg (G.calm hot0) g1 m1 (L2.prg_1 g4 m2 ha (star_ok (chk_star h7))) rfl, tM_trng q⟩
              | _ => simp [chk] at h
            | _ => simp [chk] at h
      | _ => simp [chk] at h
    | _ => simp [chk] at h
  | .mget a ck cd, e, EP, hot, k, N, sc, W, X, G, C, h => by
    cases e with
    | Call fn es kws p =>
      cases fn with
      | Attribute x s pa =>
        cases es with
        | nil => simp [chk] at h
        | cons e1 r =>
          cases r with
          | nil => simp [chk] at h
          | cons e2 r =>
            cases r with
            | cons _ _ => simp [chk] at h
            | nil =>
              cases kws with
              | cons _ _ => simp [chk] at h
              | nil =>
                simp only [chk, Bool.and_eq_true, decide_eq_true_eq] at h
                obtain ⟨⟨⟨⟨⟨h1, h2⟩, h3⟩, h4⟩, h5⟩, h6⟩ := h
                have ha := (sE a x G C h4).1
                have hk := (sE ck e1 G C h5).1
                have hd := (sE cd e2 G C h6).1
                have hx := nm_eq h1
                subst hx
                have s1 := star_ok (es := [e2]) (env := X.env) (chk_star h5)
                have s2 := star_ok (es := []) (env := X.env) (chk_star h6)
                have hu := G.un
                refine both (fun _ => rfl) (pe_of fun σ H Q q => ⟨_, L2.pe_dget2 (by omega) ha hk hd ⟨?_, ?_, by simpa using h2, ?_⟩, tM_get q⟩)
                · cases x <;> first | rfl | simp [notCall] at h3
                · rw [s1, s2]; rfl
                · rw [s1, s2]; rfl
      | _ => simp [chk] at h
    | _ => simp [chk] at h
  | .comp2 e' t k' s cs t1 k1 s1 cs1 own own1, e, EP, hot, k, N, sc, W, X, G, C, h => by
    cases e <;> simp [chk] at h
theorem sL : ∀ (l : List CE) (es : List Expr) {EP : ExPin} {hot : Bool} {k : Nat} {N : List Str} {sc : Scope} {W : WX} {X : Cx}, Gd EP XC hot k N sc W X → Ctx gi V Φ XC k X.prog X.w X.K X.mg X.base → chkL gi N sc l es = true →
    PA X es (tA EP X.K XC W (evA V Φ hot l)) ∧ PA X es (tS EP X.K XC W (evS V Φ hot l))
  | [], es, EP, hot, k, N, sc, W, X, G, C, h => by
    cases es with
    | nil => exact ⟨pa_of fun σ H Q q => ⟨_, L2.pa_nil, tA_nil q⟩, pa_of fun σ H Q q => ⟨_, L2.pa_nil, tS_nil q⟩⟩
    | cons e es => simp [chkL] at h
  | c :: l, es, EP, hot, k, N, sc, W, X, G, C, h => by
    cases es with
    | nil => simp [chkL] at h
    | cons e es =>
      simp only [chkL, Bool.and_eq_true] at h
      have hs := star_ok (es := es) (env := X.env) (chk_star h.1)
      have h1 := (sE c e G C h.1).1
      have h2 := sL l es G C h.2
      exact ⟨pa_of fun σ H Q q => ⟨_, L2.pa_cons h1 h2.1 hs, tA_cons q⟩, pa_of fun σ H Q q => ⟨_, L2.pa_cons h1 h2.2 hs, tS_cons q⟩⟩
theorem sP : ∀ (l : List CE) (es : List Expr) {EP : ExPin} {hot : Bool} {k : Nat} {N : List Str} {sc : Scope} {W : WX} {X : Cx}, Gd EP XC hot k N sc W X → Ctx gi V Φ XC k X.prog X.w X.K X.mg X.base → chkL gi N sc l es = true →
    ∀ c e, l = [c] → es = [e] → PE X e (tM EP X.K XC W (ev V Φ hot c)) ∧ PT X e (tB EP X.K XC W (tst (ev V Φ hot c)))
  | [], es, EP, hot, k, N, sc, W, X, G, C, h => fun c e z _ => nomatch z
  | c :: l, es, EP, hot, k, N, sc, W, X, G, C, h => by
    cases es with
    | nil => simp [chkL] at h
    | cons e es =>
      simp only [chkL, Bool.and_eq_true] at h
      have z := sE c e G C h.1
      intro c' e' e1 e2
      have h1 := (List.cons.inj e1).1
      have h2 := (List.cons.inj e2).1
      rw [← h1, ← h2]
      exact z
theorem sO : ∀ (o : Option CE) (eo : Option Expr) {EP : ExPin} {hot : Bool} {k : Nat} {N : List Str} {sc : Scope} {W : WX} {X : Cx}, Gd EP XC hot k N sc W X → Ctx gi V Φ XC k X.prog X.w X.K X.mg X.base → chkO gi N sc o eo = true → L2.PO X eo (tP EP X.K XC W (evO V Φ hot o))
  | none, eo, EP, hot, k, N, sc, W, X, G, C, h => by
    cases eo with
    | none => exact ⟨fun pins s σ H Q I q => L2.po_none.run pins s σ H Q I (tP_none q)⟩
    | some e => simp [chkO] at h
  | some c, eo, EP, hot, k, N, sc, W, X, G, C, h => by
    cases eo with
    | none => simp [chkO] at h
    | some e =>
      simp only [chkO] at h
      exact ⟨fun pins s σ H Q I q => (L2.po_some (sE c e G C h).1).run pins s σ H Q I (tP_some q)⟩
theorem sK : ∀ (ks : List CE) (ns : List String) (kws : List PySem.Keyword) {EP : ExPin} {hot : Bool} {k : Nat} {N : List Str} {sc : Scope} {W : WX} {X : Cx}, Gd EP XC hot k N sc W X → Ctx gi V Φ XC k X.prog X.w X.K X.mg X.base → chkK gi N sc ns ks kws = true → L2.PK X kws (tA EP X.K XC W (evA V Φ hot ks))
  | [], ns, kws, EP, hot, k, N, sc, W, X, G, C, h => by
    cases kws with
    | nil => exact ⟨fun pos pins s σ H Q I q => L2.pk_nil.run pos pins s σ H Q I (tA_nil q)⟩
    | cons e es => cases ns <;> simp [chkK] at h
  | c :: l, ns, kws, EP, hot, k, N, sc, W, X, G, C, h => by
    cases kws with
    | nil => cases ns <;> simp [chkK] at h
    | cons kw kws =>
      cases ns with
      | nil => simp [chkK] at h
      | cons n ns =>
        obtain ⟨x, e, p⟩ := kw
        cases x with
        | none => simp [chkK] at h
        | some x =>
          simp only [chkK, Bool.and_eq_true] at h
          exact ⟨fun pos pins s σ H Q I q => (L2.pk_cons (sE c e G C h.1.2).1 (sK l ns kws G C h.2)).run pos pins s σ H Q I (tA_cons q)⟩
end
end
end Iv

set_option linter.all false
set_option maxRecDepth 100000
set_option autoImplicit false
set_option Elab.async false
set_option maxHeartbeats 4000000
/-! Iv, part 21: raise, try. -/
namespace Iv
open PySem (Str Addr Value Obj Heap World Program Expr Stmt Scope Pos Shared Tok NameKind Operator CmpOp PyData)
open L2 (V Hp HO St upd SqL SqT Rd RelV Vals VK TE TT TA TS Cx Inv PE PT PA PS PSs upd_same upd_ne WX Takes Sp XK OpR CallR IxR R2 Dp DpAll Ends TG TGs PG PGs It TI PI)
variable {EP : ExPin}

/-- the exception that a suite holds at slot i -/
def exAt (i : Nat) (a : Addr) (c : String) (fs : List (String × Iv.D)) : ExPin := ⟨fun j b c' fs' => j = i ∧ b = a ∧ c' = c ∧ fs' = fs⟩
section
variable {K : PySem.W.Frag} {XC : String → Addr} {W : WX} {pn : List Bool} {B : BT} {σ σ' : St} {U U' U1 : Addr → Prop} {H H' H0 H1 : Hp} {ρ ρ' ρ1 : Rho} {D : Ends}
/-- an exception that is not let through -/
theorem SOk.noexc {m : M Fl} {k : Fl → St → (Addr → Prop) → Hp → Rho → Prop} (o : SOk K XC W B (noexc m ρ) k) : SOk K XC noW B (m ρ) k := by
  unfold Iv.noexc at o
  cases e : m ρ with
  | ok f ρ' => rw [e] at o; exact o
  | exc c fs ρ' => rw [e] at o; exact o.elim
  | stuck => rw [e] at o; exact o.elim
/-- in place -/
theorem op_augD {X : Cx} (o : Operator) : OpR X (PySem.inplaceOp o) (rD X.K (augD o)) := by
  intro pins s σ H x y v u Q I rx ry h
  obtain ⟨U, d, d', a, tr, c, c', e, q⟩ := h
  unfold augD at e
  split at e
  · cases e; cases c.int; cases c'.int
    exact L2.iop_add pins s σ H _ _ v u Q I rx ry ⟨_, _, rfl, rfl, q.int⟩
  · cases e; cases c.int; cases c'.int
    exact L2.iop_sub pins s σ H _ _ v u Q I rx ry ⟨_, _, rfl, rfl, q.int⟩
  · obtain ⟨e1, rfl⟩ := guardO_some e
    obtain ⟨rfl, k1⟩ := c.str
    obtain ⟨rfl, k2⟩ := c'.str
    refine L2.iop_add_str pins s σ H _ _ v u Q I rx ry ⟨_, _, rfl, rfl, ?_, ?_⟩
    · rw [sx_len, sx_len, ← sizeLine_is]; exact of_decide_eq_true e1
    · rw [sx_app]; exact q.str (k1.app k2)
  · cases e
theorem bnd_ok {α β : Type} {m : M α} {a : α} (e : m ρ = .ok a ρ') (f : α → M β) : bnd m f ρ = f a ρ' := by unfold bnd; rw [e]
theorem getv_ok {i : Nat} (r : R EP K U H σ ρ) : getv i ρ = .stuck ∨ ∃ x v, getv i ρ = .ok x ρ ∧ σ[i]? = some (some v) ∧ RA K U H σ H x v := by
  unfold getv
  cases e : ρ[i]? with
  | none => exact .inl (by rw [bnd_slot0 e])
  | some s =>
    rw [bnd_slot e]
    cases s with
    | no => exact .inl rfl
    | ex _ _ => exact .inl rfl
    | sh d => obtain ⟨v, hv, rr⟩ := r.sh i d e; exact .inr ⟨.val d, v, rfl, hv, rr⟩
    | ow d => obtain ⟨p, hp, rr⟩ := r.ow i _ d e (.inl rfl); exact .inr ⟨.rf i, _, rfl, hp, hp⟩
    | lk d => obtain ⟨p, hp, rr⟩ := r.ow i _ d e (.inr rfl); exact .inr ⟨.rf i, _, rfl, hp, hp⟩
theorem RN.rg {a : A} {v : V} (C : Clo EP K pn B) (b : B σ U H ρ) (e : H' = H ∨ ∃ p o, H p = none ∧ H' = upd H p o) (h : RN K U H' H a v) : B σ U H' ρ ∧ RG EP K pn B σ U H' ρ a v := by
  have r := C.r b
  have st : AdvS EP K pn σ U H ρ σ U H' ρ := by
    rcases e with rfl | ⟨p, o, hp, rfl⟩
    · exact AdvS.refl r
    · exact (Adv.alloc r hp).s
  refine ⟨C.step b st, ?_⟩
  cases a with
  | val d => exact h
  | rf i => exact h.elim
  | fr d =>
    obtain ⟨p, e, o, n⟩ := h
    exact ⟨p, e, o, (fun z => by obtain ⟨o', q⟩ := r.ownS z; rw [n] at q; cases q), σ, U, H, ρ, b, st, n⟩
theorem tF_aug {i : Nat} {m : M A} {f : Iv.D → Iv.D → Option A} (h : tF EP K XC W pn (bnd (getv i) fun x => bnd m fun y => bnd (rd x) fun d => bnd (rd y) fun d' => bnd (opt (f d d')) fun a => bnd (asgV pn i a) fun _ => ret .nx) D σ H) :
    L2.tAug i (tM EP K XC W m) (rD K f) D σ H := by
  obtain ⟨H0, B, ρ, U, P, b, o⟩ := h
  have r := P.clo.r b
  rcases getv_ok (i := i) r with e | ⟨x, v, e, hv, ra⟩
  · unfold bnd at o; rw [e] at o; exact o.elim
  · rw [bnd_ok e] at o
    refine ⟨v, hv, ρ, U, r, (SOk.exp P.clo b o).mono fun y U1 H1 ρ1 _ z w rw' => ?_⟩
    obtain ⟨a1, b1, o1⟩ := z
    have ra1 := RA.mono r a1 (fun b z => r.ownS z) ra
    obtain ⟨d, _, c, o2⟩ := SOk.brd a1.r ra1 o1
    obtain ⟨d', _, c', o3⟩ := SOk.brd a1.r rw' o2
    obtain ⟨a, e3, o4⟩ := SOk.bopt o3
    refine ⟨U1, d, d', a, a1.r.trk, c, c', e3, fun H' z eH rn => ?_⟩
    obtain ⟨b2, rg⟩ := RN.rg P.clo b1 eH rn
    obtain ⟨U3, ρ3, b3, q⟩ := asgV_s P.clo b2 rg (SOk.seq o4)
    exact q _ _ _ b3
/-- x[i] = e -/
def rPut (K : PySem.W.Frag) : L2.TSet := fun o i v H Q => ∃ (U : Addr → Prop) (do_ di d : Iv.D) (d' : Iv.D) (p : Addr), RC K U H di i ∧ RD K U H d v ∧ o = .ref p ∧ RO K U H do_ p ∧ setD do_ di d = some d' ∧ ∀ ob, RO K U (upd H p ob) d' p → Q (upd H p ob)
theorem RK.len2 {K : PySem.W.Frag} {U : Addr → Prop} {H : Hp} : ∀ {l : List (Iv.D × Iv.D)} {kvs : List (L2.Key × V)}, RK K U H l kvs → kvs.length = l.length
  | [], _, h => by unfold RK at h; subst h; rfl
  | (k, d) :: l, _, h => by
    unfold RK at h
    obtain ⟨_, _, _, rfl, _, _, _, w⟩ := h
    simp [RK.len2 w]
theorem RK.any2 {K : PySem.W.Frag} {U : Addr → Prop} {H : Hp} {x : Iv.D} {q : L2.Key} (hq : keyD x = some q) : ∀ {l : List (Iv.D × Iv.D)} {kvs : List (L2.Key × V)}, RK K U H l kvs → (kvs.any fun kv => decide (kv.1 = q)) = l.any fun p => Iv.D.eq p.1 x
  | [], kvs, h => by unfold RK at h; subst h; rfl
  | (a, d) :: l, kvs, h => by
    unfold RK at h
    obtain ⟨p, v, vr, rfl, hp, _, r, w⟩ := h
    rw [List.any_cons, List.any_cons, RK.any2 hq w]
    congr 1
    show decide (p = q) = Iv.D.eq a x
    rw [Bool.eq_iff_iff, decide_eq_true_iff]
    exact (key_eq hp hq).symm
theorem RK.map2 {K : PySem.W.Frag} {U : Addr → Prop} {H : Hp} {x d0 : Iv.D} {v0 : V} {q : L2.Key} (hq : keyD x = some q) (hv : RD K U H d0 v0) : ∀ {l : List (Iv.D × Iv.D)} {kvs : List (L2.Key × V)}, RK K U H l kvs →
    RK K U H (l.map fun p => if Iv.D.eq p.1 x = true then (p.1, d0) else p) (kvs.map fun kv => if kv.1 = q then (kv.1, v0) else kv)
  | [], kvs, h => by unfold RK at h; subst h; unfold RK; rfl
  | (a, d) :: l, kvs, h => by
    unfold RK at h
    obtain ⟨p, v, vr, rfl, hp, hk, r, w⟩ := h
    rw [List.map_cons, List.map_cons]
    by_cases e : p = q
    · rw [if_pos ((key_eq hp hq).mpr e), if_pos e]
      unfold RK
      exact ⟨p, v0, _, rfl, hp, hk, hv, RK.map2 hq hv w⟩
    · rw [if_neg (fun z => e ((key_eq hp hq).mp z)), if_neg e]
      unfold RK
      exact ⟨p, v, _, rfl, hp, hk, r, RK.map2 hq hv w⟩
theorem RK.app2 {K : PySem.W.Frag} {U : Addr → Prop} {H : Hp} {x d0 : Iv.D} {v0 : V} {q : L2.Key} (hq : keyD x = some q) (hk0 : RD K U H x (L2.kV q)) (hv : RD K U H d0 v0) : ∀ {l : List (Iv.D × Iv.D)} {kvs : List (L2.Key × V)}, RK K U H l kvs → RK K U H (l ++ [(x, d0)]) (kvs ++ [(q, v0)])
  | [], kvs, h => by
    unfold RK at h; subst h
    show RK K U H [(x, d0)] [(q, v0)]
    unfold RK
    exact ⟨q, v0, [], rfl, hq, hk0, hv, by unfold RK; rfl⟩
  | (a, d) :: l, kvs, h => by
    unfold RK at h
    obtain ⟨p, v, vr, rfl, hp, hk, r, w⟩ := h
    show RK K U H ((a, d) :: (l ++ [(x, d0)])) ((p, v) :: (vr ++ [(q, v0)]))
    unfold RK
    exact ⟨p, v, _, rfl, hp, hk, r, RK.app2 hq hk0 hv w⟩
theorem RK.put {K : PySem.W.Frag} {U : Addr → Prop} {H : Hp} {x d0 : Iv.D} {v0 : V} {q : L2.Key} (hq : keyD x = some q) (hk0 : RD K U H x (L2.kV q)) (hv : RD K U H d0 v0) {l : List (Iv.D × Iv.D)} {kvs : List (L2.Key × V)} (h : RK K U H l kvs) : RK K U H (dput l x d0) (L2.putK kvs q v0) := by
  unfold dput L2.putK
  rw [RK.any2 hq h]
  split
  · exact RK.map2 hq hv h
  · exact RK.app2 hq hk0 hv h
theorem RT.map2 {K : PySem.W.Frag} {U : Addr → Prop} {H : Hp} {x d0 : Iv.D} {v0 : V} {q : List L2.Key} (hq : keyT x = some q) (hv : RD K U H d0 v0) : ∀ {l : List (Iv.D × Iv.D)} {kvs : List (List L2.Key × V)}, RT K U H l kvs →
    RT K U H (l.map fun p => if Iv.D.eq p.1 x = true then (p.1, d0) else p) (kvs.map fun kv => if kv.1 = q then (kv.1, v0) else kv)
  | [], kvs, h => by unfold RT at h; subst h; unfold RT; rfl
  | (a, d) :: l, kvs, h => by
    unfold RT at h
    obtain ⟨p, v, vr, rfl, hp, r, w⟩ := h
    rw [List.map_cons, List.map_cons]
    by_cases e : p = q
    · rw [if_pos ((keyT_eq hp hq).mpr e), if_pos e]
      unfold RT
      exact ⟨p, v0, _, rfl, hp, hv, RT.map2 hq hv w⟩
    · rw [if_neg (fun z => e ((keyT_eq hp hq).mp z)), if_neg e]
      unfold RT
      exact ⟨p, v, _, rfl, hp, r, RT.map2 hq hv w⟩
theorem RT.app2 {K : PySem.W.Frag} {U : Addr → Prop} {H : Hp} {x d0 : Iv.D} {v0 : V} {q : List L2.Key} (hq : keyT x = some q) (hv : RD K U H d0 v0) : ∀ {l : List (Iv.D × Iv.D)} {kvs : List (List L2.Key × V)}, RT K U H l kvs → RT K U H (l ++ [(x, d0)]) (kvs ++ [(q, v0)])
  | [], kvs, h => by
    unfold RT at h; subst h
    show RT K U H [(x, d0)] [(q, v0)]
    unfold RT
    exact ⟨q, v0, [], rfl, hq, hv, by unfold RT; rfl⟩
  | (a, d) :: l, kvs, h => by
    unfold RT at h
    obtain ⟨p, v, vr, rfl, hp, r, w⟩ := h
    show RT K U H ((a, d) :: (l ++ [(x, d0)])) ((p, v) :: (vr ++ [(q, v0)]))
    unfold RT
    exact ⟨p, v, _, rfl, hp, r, RT.app2 hq hv w⟩
theorem RT.put {K : PySem.W.Frag} {U : Addr → Prop} {H : Hp} {x d0 : Iv.D} {v0 : V} {q : List L2.Key} (hq : keyT x = some q) (hv : RD K U H d0 v0) {l : List (Iv.D × Iv.D)} {kvs : List (List L2.Key × V)} (h : RT K U H l kvs) : RT K U H (dput l x d0) (L2.putK kvs q v0) := by
  unfold dput L2.putK
  rw [RT.any hq h]
  split
  · exact RT.map2 hq hv h
  · exact RT.app2 hq hv h
/-- d[(..)] = e, the key a new tuple -/
def rPutT (K : PySem.W.Frag) : L2.TSet := fun o i v H Q => ∃ (U : Addr → Prop) (l : List (Iv.D × Iv.D)) (x d : Iv.D) (q : List L2.Key) (b p : Addr), keyT x = some q ∧ H b = some (.tup (q.map L2.kV)) ∧ i = .ref b ∧ RD K U H d v ∧ o = .ref p ∧ RO K U H (.dtn l) p ∧ l.length < sizeLine ∧
  ∀ ob, RO K U (upd H p ob) (.dtn (dput l x d)) p → Q (upd H p ob)
theorem set_putT {X : Cx} (hu : X.A.units + 1 < PySem.cLine) : L2.PSet X (rPutT X.K) := by
  intro pins s σ H o i v ov iv u Q I ro ri rv h
  obtain ⟨U, l, x, d, q, b, p, hq, hb, rfl, rd, rfl, rp, hl, k⟩ := h
  have rp2 := rp
  unfold RO at rp2
  obtain ⟨nu, kvs, hp, rl⟩ := rp2
  cases ro
  refine L2.d_setItem hu I (L2.DPut.t (v := v) hp hb (by rw [RT.len rl, ← sizeLine_is]; exact hl)) ri rv fun s' I' => ⟨_, I', k _ ?_⟩
  have kp := Kp.mut (o := .dT (L2.putK kvs q v)) rp
  unfold RO
  exact ⟨nu, _, upd_same, RT.put hq (RD.mono kp _ _ rd) (RT.mono kp _ _ rl)⟩
theorem set_put {X : Cx} (hu : X.A.units + 1 < PySem.cLine) : L2.PSet X (rPut X.K) := by
  intro pins s σ H o i v ov iv u Q I ro ri rv h
  obtain ⟨U, do_, di, d, d', p, ci, rd, rfl, rp, e, q⟩ := h
  unfold setD at e
  split at e
  · cases ci.int
    obtain ⟨j, e1, rfl⟩ := Option.map_eq_some_iff.mp e
    have rp2 := rp
    unfold RO at rp2
    obtain ⟨nu, vs, hp, rl⟩ := rp2
    refine L2.set_list pins s σ H _ _ v ov iv u Q I ro ri rv ⟨p, vs, _, j, rfl, rfl, hp, by rw [rl.len, ixN_eq]; exact e1, q _ ?_⟩
    have kp := Kp.mut (o := .lst (vs.set j v)) rp
    unfold RO
    exact ⟨nu, _, upd_same, RL.set (RD.mono kp _ _ rd) j (RL.mono kp _ _ rl)⟩
  · obtain ⟨e1, rfl⟩ := guardO_some e
    have e1 := Bool.and_eq_true_iff.mp e1
    have rp2 := rp
    unfold RO at rp2
    obtain ⟨nu, kvs, hp, rl⟩ := rp2
    obtain ⟨k, hk, rfl⟩ := ci.keyV e1.1
    cases ro
    refine L2.d_setItem hu I (L2.DPut.k (v := v) hp (by rw [RK.len2 rl, ← sizeLine_is]; exact of_decide_eq_true e1.2)) ri rv fun s' I' => ⟨_, I', q _ ?_⟩
    have kp := Kp.mut (o := .dK (L2.putK kvs k v)) rp
    have rk : RD X.K U H di (L2.kV k) := by
      rcases ci with z | ⟨_, z, w⟩
      · exact z
      · cases k <;> cases z
    unfold RO
    exact ⟨nu, _, upd_same, RK.put hk (RD.mono kp _ _ rk) (RD.mono kp _ _ rd) (RK.mono kp _ _ rl)⟩
  · cases e
theorem tF_six {mz mx my : M A} (h : tF EP K XC W pn (bnd mz fun z => bnd (stv z) fun d => bnd mx fun x => bnd my fun y => bnd (rd x) fun o => bnd (rd y) fun k => bnd (opt (setD o k d)) fun o' => bnd (mput x (some o')) fun _ => ret .nx) D σ H) :
    L2.tAsg (tM EP K XC W mz) (L2.gSub (tM EP K XC W mx) (tM EP K XC W my) (rPut K)) D σ H :=
  tM_mono (fun v H1 z => by
    obtain ⟨H0, B, ρ1, U1, a, P, b1, rg, o⟩ := z
    obtain ⟨d, U2, ρ2, b2, rd2, _, o⟩ := SOk.bstv P.clo b1 rg o
    have r2 := P.clo.r b2
    refine ⟨ρ2, U2, r2, (SOk.exp P.clo b2 o).mono fun x U3 H3 ρ3 _ z w rx => ?_⟩
    obtain ⟨a3, b3, o⟩ := z
    refine ⟨ρ3, U3, a3.r, (SOk.exp P.clo b3 o).mono fun y U4 H4 ρ4 _ z w' ry => ?_⟩
    obtain ⟨a4, b4, o⟩ := z
    have rx4 := RA.mono a3.r a4 (fun b z => r2.ownS (a3.sub b z)) rx
    have rd4 := RD.mono (a4.kp a3.r) d v (RD.mono (a3.kp r2) d v rd2)
    obtain ⟨ob, e1, c, o5⟩ := SOk.brd a4.r rx4 o
    obtain ⟨k, _, ck, o6⟩ := SOk.brd a4.r ry o5
    obtain ⟨o', e2, o7⟩ := SOk.bopt o6
    clear o o5 o6
    cases x with
    | val _ => exact o7.elim
    | fr _ => exact o7.elim
    | rf i =>
      have rx' : σ[i]? = some (some w) := rx4
      cases q : ρ4[i]? with
      | none => simp [mput, bnd, slot, q] at o7; exact o7.elim
      | some s =>
        have e3 : rd (.rf i) ρ4 = .ok ob ρ4 := e1
        simp only [mput, bnd, slot, q] at o7
        cases s with
        | ow d0 =>
          have ed : d0 = ob := by
            simp only [rd, bnd, slot, q, ret] at e3
            cases e3; rfl
          subst ed
          obtain ⟨p, hp, ro⟩ := a4.r.ow i _ _ q (.inl rfl)
          rw [rx'] at hp; cases hp
          refine ⟨U4, d0, k, d, o', p, ck, rd4, rfl, ro, e2, fun obj hw => ?_⟩
          have m := Adv.mut (o := obj) a4.r q rx' hw
          have o3 : SOk K XC W B (.ok Fl.nx (ρ4.set i (.ow o'))) (kF K H0 D) := o7
          exact o3 _ _ _ (P.clo.step b4 m.s)
        | no => exact o7.elim
        | sh _ => exact o7.elim
        | lk _ => exact o7.elim
        | ex _ _ => exact o7.elim) (tF_exp h)
theorem setDT_some {o k d o' : Iv.D} (e : setDT o k d = some o') : ∃ l, o = .dtn l ∧ (k.keyT && decide (l.length < sizeLine)) = true ∧ o' = .dtn (dput l k d) := by
  cases o with
  | dtn l => obtain ⟨a, b⟩ := guardO_some (show guardO (k.keyT && decide (l.length < sizeLine)) (Iv.D.dtn (dput l k d)) = some o' from e); exact ⟨l, rfl, a, b.symm⟩
  | _ => cases e
theorem tF_sixT {mz mx : M A} {ms : M (List Iv.D)} (h : tF EP K XC W pn (bnd mz fun z => bnd (stv z) fun d => bnd mx fun x => bnd ms fun ds => bnd (grd (decide (ds.length ≤ sizeLine))) fun _ => bnd (rd x) fun o => bnd (opt (setDT o (.tup ds) d)) fun o' => bnd (mput x (some o')) fun _ => ret .nx) D σ H) :
    L2.tAsg (tM EP K XC W mz) (L2.gSub (tM EP K XC W mx) (L2.tTup (tS EP K XC W ms)) (rPutT K)) D σ H :=
  tM_mono (fun v H1 z => by
    obtain ⟨H0, B, ρ1, U1, a, P, b1, rg, o⟩ := z
    obtain ⟨d, U2, ρ2, b2, rd2, _, o⟩ := SOk.bstv P.clo b1 rg o
    have r2 := P.clo.r b2
    refine ⟨ρ2, U2, r2, (SOk.exp P.clo b2 o).mono fun x U3 H3 ρ3 _ z w rx => ?_⟩
    obtain ⟨a3, b3, o⟩ := z
    refine ⟨ρ3, U3, a3.r, (SOk.exp P.clo b3 o).mono fun ds U4 H4 ρ4 _ z vs ry => ?_⟩
    obtain ⟨a4, b4, o⟩ := z
    obtain ⟨hlen, o⟩ := SOk.grd o
    refine ⟨by rw [ry.len, ← sizeLine_is]; exact of_decide_eq_true hlen, fun b hb => ?_⟩
    have a5 := Adv.alloc (o := .tup vs) a4.r hb
    have b5 := P.clo.step b4 a5.s
    have rx4 := RA.mono a3.r (a4.trans a5) (fun b z => r2.ownS (a3.sub b z)) rx
    have rd5 := RD.mono ((a4.trans a5).kp a3.r) d v (RD.mono (a3.kp r2) d v rd2)
    obtain ⟨ob, e1, c, o6⟩ := SOk.brd a5.r rx4 o
    obtain ⟨o', e2, o7⟩ := SOk.bopt o6
    clear o o6
    obtain ⟨l, rfl, e3, rfl⟩ := setDT_some e2
    · have e3 := Bool.and_eq_true_iff.mp e3
      obtain ⟨q, hq, rfl⟩ := flat_keys ry e3.1
      cases x with
      | val _ => exact o7.elim
      | fr _ => exact o7.elim
      | rf i =>
        have rx' : σ[i]? = some (some w) := rx4
        cases e : ρ4[i]? with
        | none => simp [mput, bnd, slot, e] at o7; exact o7.elim
        | some s =>
          have e4 : rd (.rf i) ρ4 = .ok (.dtn l) ρ4 := e1
          simp only [mput, bnd, slot, e] at o7
          cases s with
          | ow d0 =>
            have ed : d0 = .dtn l := by
              simp only [rd, bnd, slot, e, ret] at e4
              cases e4; rfl
            subst ed
            obtain ⟨p, hp, ro⟩ := a5.r.ow i _ _ e (.inl rfl)
            rw [rx'] at hp; cases hp
            refine ⟨U4, l, .tup ds, d, q, b, p, hq, upd_same, rfl, rd5, rfl, ro, of_decide_eq_true e3.2, fun obj hw => ?_⟩
            have m := Adv.mut (o := obj) a5.r e rx' hw
            have o3 : SOk K XC W B (.ok Fl.nx (ρ4.set i (.ow (.dtn (dput l (.tup ds) d))))) (kF K H0 D) := o7
            exact o3 _ _ _ (P.clo.step b5 m.s)
          | no => exact o7.elim
          | sh _ => exact o7.elim
          | lk _ => exact o7.elim
          | ex _ _ => exact o7.elim) (tF_exp h)
/-- what the classes of the handlers say of a raised one -/
def subOk (K : PySem.W.Frag) (XC : String → Addr) (V : Env) : Prop := ∀ c c' b, V.sub c c' = some b → PySem.W.exmOne K (.ref (XC c)) (.ref (XC c')) = some b
/-- the clauses without a name -/
def tHs (EP : ExPin) (K : PySem.W.Frag) (XC : String → Addr) (pn : List Bool) : List (String × Option Nat × M Fl) → List (Value × (Addr → Value → Option Addr → TS))
  | [] => []
  | (c, _, m) :: r => (.ref (XC c), fun _ _ _ => tF EP K XC noW pn m) :: tHs EP K XC pn r
theorem tF_tryM {V : Env} {m : M Fl} {hs : List (String × Option Nat × M Fl)} (hsub : subOk K XC V) (hno : ∀ h ∈ hs, h.2.1 = none) (h : tF EP K XC W pn (tryM V pn m hs) D σ H) : tF EP K XC (L2.wMany K W D (tHs EP K XC pn hs)) pn m D σ H := by
  obtain ⟨H0, B, ρ, U, P, b, o⟩ := h
  refine ⟨H0, B, ρ, U, P, b, ?_⟩
  unfold tryM at o
  cases e : m ρ with
  | stuck => rw [e] at o; exact o
  | ok f ρ' => rw [e] at o; exact o
  | exc c fs ρ' =>
    rw [e] at o
    intro σ' U' H' cls d b' rx
    have ecls : cls = .ref (XC c) := rx.1
    have key : ∀ (hs' : List (String × Option Nat × M Fl)), (∀ h ∈ hs', h.2.1 = none) → SOk K XC W B (match pick V c hs' with
        | none => (.stuck : Out Fl)
        | some none => .exc c fs ρ'
        | some (some (none, suite)) => Iv.noexc suite ρ'
        | some (some (some i, suite)) => bnd (grd (!(pn.getD i false))) (fun _ => bnd (putF i (.ex c fs)) fun _ => bnd (Iv.noexc suite) fun f => bnd (putSl i .no) fun _ => ret f) ρ') (kF K H0 D) → L2.wMany K W D (tHs EP K XC pn hs') cls d σ' H' := by
      intro hs'
      induction hs' with
      | nil => exact fun _ o => o σ' U' H' cls d b' rx
      | cons h r ih =>
        intro hn o
        obtain ⟨c1, i1, m1⟩ := h
        have hi : i1 = none := hn _ List.mem_cons_self
        subst hi
        unfold pick at o
        cases es : V.sub c c1 with
        | none => rw [es] at o; exact o.elim
        | some bb =>
          rw [es] at o
          refine ⟨bb, by rw [ecls]; exact hsub c c1 bb es, fun hb a na => ?_, fun hb => ?_⟩
          · subst hb
            exact ⟨H0, B, ρ', U', P, b', SOk.noexc o⟩
          · subst hb
            exact ih (fun h hh => hn h (List.mem_cons_of_mem _ hh)) o
    exact key hs hno o
/-- the ends of a suite whose name is slot i's -/
def endX (i : Nat) (D : Ends) : Ends := { nx := fun σ' H' => D.nx (σ'.set i none) H', rt := D.rt, bk := fun σ' H' => D.bk (σ'.set i none) H', ct := fun σ' H' => D.ct (σ'.set i none) H' }
/-- except c as name: slot i -/
theorem as_true {su : M Fl} {i : Nat} {a : Addr} {c : String} {fs : List (String × Iv.D)} (P : Pl EP K pn H0 B) (b' : B σ' U' H' ρ') (hep : ∀ i a c fs, ¬ EP.at_ i a c fs)
    (o : SOk K XC W B (bnd (grd (!(pn.getD i false))) (fun _ => bnd (putF i (.ex c fs)) fun _ => bnd (Iv.noexc su) fun f => bnd (putSl i .no) fun _ => ret f) ρ') (kF K H0 D)) :
    tF (exAt i a c fs) K XC noW pn su (endX i D) (σ'.set i (some (.ref a))) H' := by
  obtain ⟨hp, o1⟩ := SOk.grd (f := fun _ => bnd (putF i (.ex c fs)) fun _ => bnd (Iv.noexc su) fun f => bnd (putSl i .no) fun _ => ret f) o
  clear o
  have hp : pn.getD i false = false := by simpa using hp
  have r := P.clo.r b'
  -- slot i is set
  cases e3 : ρ'[i]? with
  | none => unfold putF at o1; rw [bnd_assoc, bnd_slot0 e3] at o1; exact o1.elim
  | some s0 =>
    unfold putF at o1
    rw [bnd_assoc, bnd_slot e3] at o1
    obtain ⟨hf, o2⟩ := SOk.grd (f := fun _ => bnd (putSl i (.ex c fs)) fun _ => bnd (Iv.noexc su) fun f => bnd (putSl i .no) fun _ => ret f) (by rw [bnd_assoc] at o1; exact o1)
    clear o1
    have hf : fixS s0 = false := by simpa using hf
    have o3 : SOk K XC W B (bnd (Iv.noexc su) (fun f => bnd (putSl i .no) fun _ => ret f) (ρ'.set i (.ex c fs))) (kF K H0 D) := o2
    clear o2
    have hi : i < ρ'.length := (List.getElem?_eq_some_iff.mp e3).1
    have hiσ : i < σ'.length := by rw [← r.len]; exact hi
    -- the state at the suite's begin
    have at_ : ∀ {j : Nat} {s : Sl}, (ρ'.set i (.ex c fs))[j]? = some s → (j = i ∧ s = .ex c fs) ∨ (i ≠ j ∧ ρ'[j]? = some s) := fun {j s} z => by
      by_cases hj : i = j
      · subst hj; rw [List.getElem?_set_self hi] at z; cases z; exact .inl ⟨rfl, rfl⟩
      · rw [List.getElem?_set_ne hj] at z; exact .inr ⟨hj, z⟩
    have r1 : R (exAt i a c fs) K U' H' (σ'.set i (some (.ref a))) (ρ'.set i (.ex c fs)) := {
      len := by rw [List.length_set, List.length_set]; exact r.len
      trk := r.trk
      sh := fun j d' z => by
        rcases at_ z with ⟨_, z⟩ | ⟨n, z⟩
        · cases z
        · rw [List.getElem?_set_ne n]; exact r.sh j d' z
      ow := fun j s d' z hd => by
        rcases at_ z with ⟨_, z⟩ | ⟨n, z⟩
        · subst z; exact absurd hd (ex_nh d')
        · rw [List.getElem?_set_ne n]; exact r.ow j s d' z hd
      dis := fun j l s s' d1 d2 p ea ha eb hb qa qb => by
        rcases at_ ea with ⟨_, z⟩ | ⟨n1, ea⟩
        · subst z; exact absurd ha (ex_nh d1)
        · rcases at_ eb with ⟨_, z⟩ | ⟨n2, eb⟩
          · subst z; exact absurd hb (ex_nh d2)
          · rw [List.getElem?_set_ne n1] at qa
            rw [List.getElem?_set_ne n2] at qb
            exact r.dis j l s s' d1 d2 p ea ha eb hb qa qb
      ex := fun j c' fs' z => by
        rcases at_ z with ⟨ej, z2⟩ | ⟨n, z⟩
        · clear z
          subst ej
          cases z2
          exact ⟨a, List.getElem?_set_self hiσ, rfl, rfl, rfl, rfl⟩
        · obtain ⟨_, _, w⟩ := r.ex j c' fs' z
          exact absurd w (hep _ _ _ _) }
    obtain ⟨σ0, U0, ρ0, hn, hbs⟩ := P.bas
    let B1 : BT := fun σ2 U2 H2 ρ2 => AdvS (exAt i a c fs) K pn (σ'.set i (some (.ref a))) U' H' (ρ'.set i (.ex c fs)) σ2 U2 H2 ρ2
    have C1 : Clo (exAt i a c fs) K pn B1 := ⟨fun b a => AdvS.trans b a, fun b => b.r⟩
    have own1 : ∀ {z : Addr}, own (σ'.set i (some (.ref a))) (ρ'.set i (.ex c fs)) z → own σ' ρ' z := fun {z} ⟨j, s, d', e5, hd, q5⟩ => by
      rcases at_ e5 with ⟨_, w⟩ | ⟨n, w⟩
      · subst w; exact absurd hd (ex_nh d')
      · rw [List.getElem?_set_ne n] at q5; exact ⟨j, s, d', w, hd, q5⟩
    have base1 : AdvS (exAt i a c fs) K pn σ0 U0 H0 ρ0 (σ'.set i (some (.ref a))) U' H' (ρ'.set i (.ex c fs)) := by
      have a0 := hbs _ _ _ _ b'
      refine ⟨a0.st, r1, fun j z h1 q1 => ?_, fun j z => ?_, fun j s z hfs => ?_, fun j z h => a0.pso j z (owAt_set ex_nh h).2, by rw [List.length_set]; exact a0.len⟩
      · obtain ⟨n, h1⟩ := owAt_set ex_nh h1
        rw [List.getElem?_set_ne n] at q1
        exact a0.sub j z h1 q1
      · have n : i ≠ j := fun z2 => by subst z2; rw [hp] at z; cases z
        rw [List.getElem?_set_ne n]; exact a0.pin j z
      · obtain ⟨z1, z2⟩ := a0.fx j s z hfs
        have n : i ≠ j := fun w => by subst w; rw [e3] at z1; cases z1; rw [hf] at hfs; cases hfs
        rw [List.getElem?_set_ne n, List.getElem?_set_ne n]; exact ⟨z1, z2⟩
    have P1 : Pl (exAt i a c fs) K pn H0 B1 := ⟨C1, σ0, U0, ρ0, hn, fun σ2 U2 H2 ρ2 b2 => base1.trans b2⟩
    refine ⟨H0, B1, ρ'.set i (.ex c fs), U', P1, AdvS.refl r1, ?_⟩
    -- back
    have back : ∀ {σ2 U2 H2 ρ2}, B1 σ2 U2 H2 ρ2 → B (σ2.set i none) U2 H2 (ρ2.set i .no) := fun {σ2 U2 H2 ρ2} b2 => by
      have b2 : AdvS (exAt i a c fs) K pn (σ'.set i (some (.ref a))) U' H' (ρ'.set i (.ex c fs)) σ2 U2 H2 ρ2 := b2
      have r2 := b2.r
      refine P.clo.step b' ⟨⟨fun z ob e6 n6 => b2.st.keep z ob e6 fun w => n6 (own1 w), b2.st.trk, b2.st.up, fun z w => (b2.st.new z w).imp id fun y => y.imp id own1⟩, ?_, fun j z h1 q1 => ?_, fun j z => ?_, fun j s z hfs => ?_, fun j z h => (owAt_set ex_nh (b2.pso j z (owAt_set no_nh h).2)).2, by rw [List.length_set]; exact b2.len.trans (by rw [List.length_set])⟩
      · exact {
          len := by rw [List.length_set, List.length_set]; exact r2.len
          trk := r2.trk
          sh := fun j d' z => by
            obtain ⟨n, z⟩ := set_no z (by intro w; cases w)
            rw [List.getElem?_set_ne n]; exact r2.sh j d' z
          ow := fun j s d' z hd => by
            obtain ⟨n, z⟩ := set_no z (held_no hd)
            rw [List.getElem?_set_ne n]; exact r2.ow j s d' z hd
          dis := fun j l s s' d1 d2 p ea ha eb hb qa qb => by
            obtain ⟨n1, ea⟩ := set_no ea (held_no ha)
            obtain ⟨n2, eb⟩ := set_no eb (held_no hb)
            rw [List.getElem?_set_ne n1] at qa
            rw [List.getElem?_set_ne n2] at qb
            exact r2.dis j l s s' d1 d2 p ea ha eb hb qa qb
          ex := fun j c' fs' z => by
            obtain ⟨n, z⟩ := set_no z (by intro w; cases w)
            obtain ⟨_, _, w⟩ := r2.ex j c' fs' z
            exact absurd w.1.symm n }
      · obtain ⟨n, h1⟩ := owAt_set no_nh h1
        rw [List.getElem?_set_ne n] at q1
        rcases b2.sub j z h1 q1 with ⟨h2, q2⟩ | w
        · obtain ⟨_, h2⟩ := owAt_set ex_nh h2
          rw [List.getElem?_set_ne n] at q2
          exact .inl ⟨h2, q2⟩
        · exact .inr w
      · have n : i ≠ j := fun z2 => by subst z2; rw [hp] at z; cases z
        rw [List.getElem?_set_ne n]
        have := b2.pin j z
        rw [List.getElem?_set_ne n] at this
        exact this
      · have n : i ≠ j := fun w => by subst w; rw [e3] at z; cases z; rw [hf] at hfs; cases hfs
        obtain ⟨z1, z2⟩ := b2.fx j s (by rw [List.getElem?_set_ne n]; exact z) hfs
        rw [List.getElem?_set_ne n] at z2
        rw [List.getElem?_set_ne n, List.getElem?_set_ne n]; exact ⟨z1, z2⟩
    unfold bnd at o3
    unfold Iv.noexc at o3
    cases e7 : su (ρ'.set i (.ex c fs)) with
    | stuck => rw [e7] at o3; exact o3.elim
    | exc _ _ _ => rw [e7] at o3; exact o3.elim
    | ok f ρ2 =>
      rw [e7] at o3
      have o3 : SOk K XC W B (.ok f (ρ2.set i .no)) (kF K H0 D) := o3
      intro σ2 U2 H2 b2
      have z := o3 _ _ _ (back b2)
      cases f with
      | nx => exact z
      | bk => exact z
      | ct => exact z
      | rt w => exact z
def asX (i : Nat) (ts : Addr → Value → Option Addr → TS) : Addr → Value → Option Addr → TS := fun a cls d D σ H => ts a cls d (endX i D) (σ.set i (some (.ref a))) H
def tsAs (K : PySem.W.Frag) (XC : String → Addr) (pn : List Bool) (i : Nat) (m : M Fl) : Addr → Value → Option Addr → TS := fun a cls d D σ H =>
  ∃ (c : String) (fs : List (String × Iv.D)), cls = .ref (XC c) ∧ (fs = [] → d = none) ∧ tF (exAt i a c fs) K XC noW pn m D σ H
def tHg (EP : ExPin) (K : PySem.W.Frag) (XC : String → Addr) (pn : List Bool) : List (String × Option Nat × M Fl) → List (Value × (Addr → Value → Option Addr → TS))
  | [] => []
  | (c, none, m) :: r => (.ref (XC c), fun _ _ _ => tF EP K XC noW pn m) :: tHg EP K XC pn r
  | (c, some i, m) :: r => (.ref (XC c), asX i (tsAs K XC pn i m)) :: tHg EP K XC pn r
theorem tF_tryG {V : Env} {m : M Fl} {hs : List (String × Option Nat × M Fl)} (hsub : subOk K XC V) (hep : ∀ i a c fs, ¬ EP.at_ i a c fs) (h : tF EP K XC W pn (tryM V pn m hs) D σ H) : tF EP K XC (L2.wMany K W D (tHg EP K XC pn hs)) pn m D σ H := by
  obtain ⟨H0, B, ρ, U, P, b, o⟩ := h
  refine ⟨H0, B, ρ, U, P, b, ?_⟩
  unfold tryM at o
  cases e : m ρ with
  | stuck => rw [e] at o; exact o
  | ok f ρ' => rw [e] at o; exact o
  | exc c fs ρ' =>
    rw [e] at o
    intro σ' U' H' cls d b' rx
    have ecls : cls = .ref (XC c) := rx.1
    have key : ∀ (hs' : List (String × Option Nat × M Fl)), SOk K XC W B (match pick V c hs' with
        | none => (.stuck : Out Fl)
        | some none => .exc c fs ρ'
        | some (some (none, suite)) => Iv.noexc suite ρ'
        | some (some (some i, suite)) => bnd (grd (!(pn.getD i false))) (fun _ => bnd (putF i (.ex c fs)) fun _ => bnd (Iv.noexc suite) fun f => bnd (putSl i .no) fun _ => ret f) ρ') (kF K H0 D) → L2.wMany K W D (tHg EP K XC pn hs') cls d σ' H' := by
      intro hs'
      induction hs' with
      | nil => exact fun o => o σ' U' H' cls d b' rx
      | cons h r ih =>
        intro o
        obtain ⟨c1, i1, m1⟩ := h
        unfold pick at o
        cases es : V.sub c c1 with
        | none => rw [es] at o; exact o.elim
        | some bb =>
          rw [es] at o
          cases i1 with
          | none =>
            refine ⟨bb, by rw [ecls]; exact hsub c c1 bb es, fun hb a na => ?_, fun hb => ?_⟩
            · subst hb
              exact ⟨H0, B, ρ', U', P, b', SOk.noexc o⟩
            · subst hb
              exact ih o
          | some i =>
            refine ⟨bb, by rw [ecls]; exact hsub c c1 bb es, fun hb a na => ?_, fun hb => ?_⟩
            · subst hb
              exact ⟨c, fs, ecls, fun z => by subst z; exact rx.2, as_true P b' hep o⟩
            · subst hb
              exact ih o
    exact key hs o
end
/-! ### the rule for try with any clauses -/
inductive HdsG (X : Cx) : List PySem.ExceptHandler → List (Value × (Addr → Value → Option Addr → TS)) → Prop
  | nil : HdsG X [] []
  | plain {y : Str} {cv : Value} {tsu : Addr → Value → Option Addr → TS} {s0 : Stmt} {sr : List Stmt} {p1 p2 : Pos} {hr : List PySem.ExceptHandler} {lr : List (Value × (Addr → Value → Option Addr → TS))} (nm : L2.Names X y cv)
      (su : ∀ (a : Addr) (ob : Obj) (cls : Value) (d : Option Addr) (pins : List (Addr × Obj)), L2.Zc cls d ob → (∃ vs, ob.data = .fields vs) → PSs (X.suite a ((a, ob) :: pins)) (s0 :: sr) (tsu a cls d)) (rest : HdsG X hr lr) :
      HdsG X (.ExceptHandler (some (.Name y p1)) none (s0 :: sr) p2 :: hr) ((cv, tsu) :: lr)
  | named {y z : Str} {i : Nat} {cv : Value} {tsu : Addr → Value → Option Addr → TS} {s0 : Stmt} {sr : List Stmt} {p1 p2 : Pos} {hr : List PySem.ExceptHandler} {lr : List (Value × (Addr → Value → Option Addr → TS))} (nm : L2.Names X y cv) (at_ : X.N[i]? = some z) (loc : X.env.kindOf z = some .local)
      (su : ∀ (a : Addr) (ob : Obj) (cls : Value) (d : Option Addr) (pins : List (Addr × Obj)), L2.Zc cls d ob → (∃ vs, ob.data = .fields vs) → PSs (X.suite a ((a, ob) :: pins)) (s0 :: sr) (tsu a cls d)) (rest : HdsG X hr lr) :
      HdsG X (.ExceptHandler (some (.Name y p1)) (some z) (s0 :: sr) p2 :: hr) ((cv, asX i tsu) :: lr)
section
open PySem PySem.Spec PyProof.Rows L2
variable {X : Cx} {body : List Stmt} {hd : ExceptHandler} {hr : List ExceptHandler} {lr : List (Value × (Addr → Value → Option Addr → TS))} {pos : Pos} {tb : WX → TS} {W0 : WX}
theorem ps_tryG (stk : X.stack = X.env :: X.outer) (frm : X.env.frame = some X.env.locals) (nd : X.N.Nodup) (takes : Takes X W0)
    (bd : ∀ (W' : WX) (pins : List (Addr × Obj)) (xe' : Value → Shared → Prop), Takes (X.tr pins xe') W' → PassesOwn (model X.prog X.w) X.A X.env xe' → PSs (X.tr pins xe') body (tb W'))
    (hds : HdsG X (hd :: hr) lr) : PS X (.Try body (hd :: hr) [] [] pos) (fun D σ H => tb (wMany X.K W0 D lr) D σ H) := by
  refine ⟨fun pins s σ H D I0 hq => ?_⟩
  have okX := I0.ok
  have frs_ : X.A.frames = some (X.env :: X.outer) := by rw [okX.frames, stk]
  refine wpAny_Try_except ?_
  refine wpAny_mono ((bd (wMany X.K W0 D lr) (X.pn ++ pins) (fun ex t₁ => wpAny (model X.prog X.w) X.A (noteFrame ex X.env) (fun _ t₂ => wpAny (model X.prog X.w) X.A (setFlight ex none) (fun _ t₃ =>
    wpAny (model X.prog X.w) X.A (handleBy ex X.env (hd :: hr)) (SP X pins D) X.xe t₃) X.xe t₂) X.xe t₁) (fun u t raised => ?_) PassesOwn.looking).run [] s σ H D (I0.toTry _) hq) (fun f t1 ended => ?_) (fun e t1 z => z)
  · obtain ⟨ea, Bh, sB, pinsB, σB, HB, cls, d, rfl, JB, unb, upB, skyB, noneB, osB, ags, want⟩ := raised
    have JX : Inv X pins σB HB sB := JB.ofTry okX
    have skyX : Sky Bh (X.env :: X.outer) ea (Zc cls d) X.env.locals t.heap := by rw [← stk]; exact skyB
    show wpAny (model X.prog X.w) X.A (noteFrame (.ref ea) X.env) _ _ _
    refine Sky.land Zc.steady frs_ frm skyX fun h3 flies up3 => ?_
    have JL : Inv X pins σB HB { t with heap := h3 } := JX.landed unb flies.1 (upB.trans up3) osB ags
    obtain ⟨ob3, vs3, got3, zc3, dat3⟩ := flies.there
    have outF : ∀ {hh : Heap} {ob : Obj} {vs : Array Value}, hh.FunFrames Bh (X.env :: X.outer) → hh.get? ea = some ob → ob.data = .fields vs → ea ∉ frs (X.env :: X.outer) := fun {hh ob vs} ffr got dat mem => by
      obtain ⟨_, ob', got', nofld⟩ := ffr.mem mem
      rw [got] at got'; cases got'
      exact nofld _ dat
    have outA := outF flies.2.2.1 got3 dat3
    have neL : ea ≠ X.env.locals := fun z => outA (List.mem_filterMap.mpr ⟨X.env, List.mem_cons_self, by rw [frm, z]⟩)
    have neF : ea ∉ X.fs := fun mem => by
      obtain ⟨e1, me, q⟩ := List.mem_filterMap.mp mem
      exact outA (List.mem_filterMap.mpr ⟨e1, List.mem_cons_of_mem _ me, q⟩)
    have SL := JL.suite got3 dat3 noneB neL neF
    have go : ∀ {hs' : List ExceptHandler} {l' : List (Value × (Addr → Value → Option Addr → TS))}, HdsG X hs' l' → wMany X.K W0 D l' cls d σB HB →
        wpAny (model X.prog X.w) X.A (handleBy (.ref ea) X.env hs') (SP X pins D) X.xe { t with heap := h3 } := by
      intro hs' l' hk
      have looks : PySem.W.Looks (model X.prog X.w) h3 (typeOf (.ref ea)) cls := fun A Q E s1 k q => wpAny_typeOf_ref (k _ _ got3) (by rw [zc3.1]; exact q)
      have named_ : ∀ {y : Str} {cv : Value} {p1 : Pos} {Q : Value → Shared → Prop} {E : Value → Shared → Prop}, Names X y cv → Q cv { t with heap := h3 } → wpAny (model X.prog X.w) (X.A.mark (some (.ref ea))) (eval (.Name y p1) X.env) Q E { t with heap := h3 } := fun {y cv p1 Q E} nm q => by
        obtain ⟨gl, dbg, inm | ⟨inm, bt, nn⟩⟩ := nm
        · exact ld_glob (X := X.suite ea ((ea, ob3) :: (X.pn ++ pins))) SL gl inm q dbg
        · exact ld_blt (X := X.suite ea ((ea, ob3) :: (X.pn ++ pins))) SL gl inm bt q nn dbg
      induction hk with
      | nil =>
        intro w
        refine wpAny_handleBy_nil ?_
        obtain ⟨_, _, _, ob, vs, T, oT, ts', got, _, dat, at1, _⟩ := id flies
        unfold PySem.passOn
        refine wpAny_bind (wpAny_field got dat at1 ?_)
        rw [if_neg (show ¬ ((Value.ref T == Value.none) = true) from by simp)]
        have leave : wpAny (model X.prog X.w) X.A (setFlight (.ref ea) X.env.frame) (fun _ s4 => wpAny (model X.prog X.w) X.A (throw (.ref ea) : Sem Flow) (SP X pins D) X.xe s4) X.xe { t with heap := h3 } := by
          rw [frm]
          refine HandSPX.setFlight_upZ flies fun h4 hh4 up4 => wpAny_throw (takes _ _ ?_)
          exact ⟨ea, Bh, sB, pins, σB, HB, cls, d, rfl, JX, unb, (upB.trans up3).trans up4, .inr (.inr (by rw [stk]; exact hh4)), noneB, osB, ags, w⟩
        first
          | exact wpAny_bind (wpAny_pure (wpAny_bind leave))
          | exact wpAny_bind leave
      | @plain y cv tsu s0 sr p1 p2 hr2 lr2 nm su rest ih =>
        intro w
        obtain ⟨b, isb, yes, no⟩ := w
        refine wpAny_handleBy_cons (codeAny_handlers_test ?_) (by intro q; cases q)
        have test := PySem.W.exm_one (M := model X.prog X.w) (JL.kIn) looks isb
        refine named_ nm (test.here ?_)
        cases b with
        | false =>
          show wpAny _ X.A (handleBy (.ref ea) X.env hr2) _ _ _
          exact ih (no rfl)
        | true =>
          refine codeAny_handlers_suite ?_
          refine HandSPX.lands_againZ flies fun h4 flies4 up4 => ?_
          have J4 : Inv X pins σB HB { t with heap := h4 } := JX.landed unb flies4.1 ((upB.trans up3).trans up4) osB ags
          obtain ⟨ob4, vs4, got4, zc4, dat4⟩ := flies4.there
          have S4 := J4.suite got4 dat4 noneB neL neF
          refine wpAny_mono ((su ea ob4 cls d (X.pn ++ pins) zc4 ⟨_, dat4⟩).run [] _ _ HB _ S4 (yes rfl ea noneB)) (fun f t6 ended => ?_) (fun _ _ z => False.elim z)
          cases f with
          | ret u =>
            obtain ⟨v6, σ6, H6, S6, r6, q6⟩ := ended
            exact ⟨_, _, _, S6.unsuite okX, r6, q6⟩
          | _ =>
            obtain ⟨σ6, H6, S6, q6⟩ := ended
            exact ⟨_, _, S6.unsuite okX, q6⟩
      | @named y z i cv tsu s0 sr p1 p2 hr2 lr2 nm at_ loc su rest ih =>
        intro w
        obtain ⟨b, isb, yes, no⟩ := w
        refine wpAny_handleBy_cons (codeAny_handlers_test ?_) (by intro q; cases q)
        have test := PySem.W.exm_one (M := model X.prog X.w) (JL.kIn) looks isb
        refine named_ nm (test.here ?_)
        cases b with
        | false =>
          show wpAny _ X.A (handleBy (.ref ea) X.env hr2) _ _ _
          exact ih (no rfl)
        | true =>
          refine codeAny_handlers_suite_as ?_
          refine HandSPX.lands_againZ flies fun h4 flies4 up4 => ?_
          have J4 : Inv X pins σB HB { t with heap := h4 } := JX.landed unb flies4.1 ((upB.trans up3).trans up4) osB ags
          obtain ⟨ob4, vs4, got4, zc4, dat4⟩ := flies4.there
          have S4 := J4.suite got4 dat4 noneB neL neF
          refine store_ok (X := X.suite ea ((ea, ob4) :: (X.pn ++ pins))) (v := .ref ea) S4 nd at_ (.inl loc) rfl (fun t5 S5 => ?_) (.inr loc)
          refine wpAny_mono ((su ea ob4 cls d (X.pn ++ pins) zc4 ⟨_, dat4⟩).run [] t5 _ HB _ S5 (yes rfl ea noneB)) (fun f t6 ended => ?_) (fun _ _ z => False.elim z)
          have closing : ∀ {σ6 : L2.St} {H6 : Hp} {Q : Shared → Prop}, Inv (X.suite ea ((ea, ob4) :: (X.pn ++ pins))) [] σ6 H6 t6 → (∀ t7, Inv X pins (σ6.set i none) H6 t7 → Q t7) →
              wpAny (model X.prog X.w) X.A (do bindName X.env z .none; unbindBehindTheSuite X.env z p2) (fun _ t7 => Q t7) X.xe t6 := fun {σ6 H6 Q} S6 q7 => gone_ok (S6.unsuite okX) nd at_ loc q7
          cases f with
          | ret u =>
            obtain ⟨v6, σ6, H6, S6, r6, q6⟩ := ended
            exact closing S6 fun t7 J7 => ⟨_, _, _, J7, r6, q6⟩
          | _ =>
            obtain ⟨σ6, H6, S6, q6⟩ := ended
            exact closing S6 fun t7 J7 => ⟨_, _, J7, q6⟩
    exact go hds want
  · cases f with
    | next =>
      obtain ⟨σ', H', J', q⟩ := ended
      exact wpAny_execs_nil ⟨σ', H', J'.ofTry okX, q⟩
    | ret u =>
      obtain ⟨v, σ', H', J', r, q⟩ := ended
      exact ⟨v, σ', H', J'.ofTry okX, r, q⟩
    | _ =>
      obtain ⟨σ', H', J', q⟩ := ended
      exact ⟨σ', H', J'.ofTry okX, q⟩
end
end Iv

set_option linter.all false
set_option maxRecDepth 100000
set_option autoImplicit false
set_option Elab.async false
set_option maxHeartbeats 4000000
/-! Iv, part 22: a statement of the text does what its compiled statement says. -/
namespace Iv
open PySem (Str Addr Value Obj Heap World Program Expr Stmt Scope Pos Shared Tok NameKind Operator CmpOp PyData)
open L2 (V Hp HO St upd SqL SqT Rd RelV Vals VK TE TT TA TS Cx Inv PE PT PA PS PSs upd_same upd_ne WX Takes Sp XK OpR CallR IxR R2 Dp DpAll Ends TG TGs PG PGs It TI PI)

section
variable {gi : GI} {V : Env} {Φ : String → Rho → COut} {XC : String → Addr} {pn : List Bool}
/-- what a for walks, of the text -/
theorem sI {EP : ExPin} {hot : Bool} {k : Nat} {N : List Str} {sc : Scope} {W : WX} {X : Cx} (G : Gd EP XC hot k N sc W X) (C : Ctx gi V Φ XC k X.prog X.w X.K X.mg X.base) {kind : String} {s : List CE} {it tg : Expr} (h : chkI gi N sc kind s it tg = true) :
    PI X tg it (fun σ H R => tA EP X.K XC W (evA V Φ hot s) σ H fun vs H1 => iEnd X.K kind vs H1 R) := by
  unfold chkI at h
  obtain ⟨h1, h2⟩ := Bool.and_eq_true_iff.mp h
  cases hia : iterArgs gi sc kind it with
  | none => rw [hia] at h1; cases h1
  | some es =>
    rw [hia] at h1
    exact iter_ok G C hia h2 h1 (fun c e ec ee => (sP s es G C h1 c e ec ee).1) (sL s es G C h1).1
theorem Gs.loc {EP : ExPin} {hot : Bool} {k : Nat} {N : List Str} {sc : Scope} {W : WX} {X : Cx} (G : Gs EP XC hot k N sc W X) (x : Str) (h : locV sc x = true) : L2.Loc X.env.scope x ∧ (X.fn x = true ∨ X.env.scope.names.lookup x = some .local) :=
  ⟨by rw [G.G.sc]; exact locV_of h, .inl (G.fnc x)⟩
/-- a suite does what its compiled one says -/
def SuOk (gi : GI) (V : Env) (Φ : String → Rho → COut) (XC : String → Addr) (pn : List Bool) (su : List CS) : Prop := ∀ (ss : List Stmt) (EP : ExPin) (hot : Bool) (k : Nat) (N : List Str) (sc : Scope) (W : WX) (X : Cx), Gs EP XC hot k N sc W X → Ctx gi V Φ XC k X.prog X.w X.K X.mg X.base → chkSs gi N sc su ss = true → PSs X ss (tF EP X.K XC W pn (exs V Φ pn hot su))
theorem takes_no {X : Cx} (a : Addr) (pn' : List (Addr × Obj)) : Takes (X.suite a pn') noW := fun u s' ⟨_, _, _, _, _, _, _, _, _, _, _, _, _, _, _, _, w⟩ => w.elim
/-- an except suite's place -/
theorem Gs.suite {EP EP' : ExPin} {k : Nat} {N : List Str} {sc : Scope} {W : WX} {X : Cx} (G : Gs EP XC false k N sc W X) (a : Addr) (pn' : List (Addr × Obj)) (pe : ∀ i a' c fs, EP'.at_ i a' c fs → ∃ oe, (a', oe) ∈ pn' ∧ (∃ vs, oe.data = .fields vs) ∧ (fs = [] → L2.Zc (.ref (XC c)) none oe)) :
    Gs EP' XC true k N sc noW (X.suite a pn') :=
  ⟨⟨takes_no a pn', G.G.n, G.G.sc, G.G.nd, (fun z => nomatch z), (fun z => nomatch z), G.G.un, (fun z => nomatch z), pe⟩, (fun z => nomatch z), G.stk, G.frm, G.fnc⟩
theorem Gs.tr {EP : ExPin} {k : Nat} {N : List Str} {sc : Scope} {W W' : WX} {X : Cx} (G : Gs EP XC false k N sc W X) (pn' : List (Addr × Obj)) (xe : Value → Shared → Prop) (tk : Takes (X.tr pn' xe) W') (hp : PySem.PassesOwn (PySem.model X.prog X.w) X.A X.env xe) :
    Gs EP XC false k N sc W' (X.tr pn' xe) :=
  ⟨⟨tk, G.G.n, G.G.sc, G.G.nd, G.G.calm, G.G.room, G.G.un, G.G.ep, fun i a c fs z => absurd z (G.G.ep rfl i a c fs)⟩, fun _ => hp, G.stk, G.frm, G.fnc⟩
theorem sHdsG {EP : ExPin} {k : Nat} {N : List Str} {sc : Scope} {W : WX} {X : Cx} (G : Gs EP XC false k N sc W X) (C : Ctx gi V Φ XC k X.prog X.w X.K X.mg X.base) : ∀ (l : List (String × Option Nat × List CS)) (hs : List PySem.ExceptHandler), (∀ h ∈ l, SuOk gi V Φ XC pn h.2.2) → chkHs gi N sc l hs = true →
    HdsG X hs (tHg EP X.K XC pn (hds V Φ pn l))
  | [], hs, _, h => by
    cases hs with
    | nil => exact .nil
    | cons _ _ => simp [chkHs] at h
  | (c, i, su) :: r, hs, hsu, h => by
    cases hs with
    | nil => cases i <;> simp [chkHs] at h
    | cons hd hr =>
      obtain ⟨ty, nm, body, p⟩ := hd
      cases ty with
      | none => cases i <;> simp [chkHs] at h
      | some ty =>
        cases ty with
        | Name x px =>
          cases i with
          | none =>
            cases nm with
            | some _ => simp [chkHs] at h
            | none =>
              simp only [chkHs, Bool.and_eq_true, Bool.not_eq_true'] at h
              obtain ⟨⟨⟨⟨⟨h1, h2⟩, h3⟩, h4⟩, h5⟩, h6⟩ := h
              have i1 := sHdsG G C r hr (fun h hh => hsu h (List.mem_cons_of_mem _ hh)) h6
              obtain ⟨g1, g2, g3⟩ := glb_of G.G.sc h2
              obtain ⟨_, _, _, _, _, _, x3, _, _, _, _⟩ := C.ex c h3
              cases body with
              | nil => cases su with
                | nil => simp at h5
                | cons _ _ => simp [chkSs] at h4
              | cons b0 bs =>
                exact .plain ⟨g1, g2, .inl (by rw [nm_eq h1]; exact x3)⟩ (fun a oe cls d pn' _ _ => hsu _ List.mem_cons_self _ EP true k N sc noW _ (G.suite a _ fun i a c fs z => absurd z (G.G.ep rfl i a c fs)) C h4) i1
          | some i =>
            cases nm with
            | none => simp [chkHs] at h
            | some n =>
              simp only [chkHs, Bool.and_eq_true, Bool.not_eq_true'] at h
              obtain ⟨⟨⟨⟨⟨⟨⟨h1, h2⟩, h3⟩, h4⟩, h5⟩, h6⟩, h7⟩, h8⟩ := h
              have i1 := sHdsG G C r hr (fun h hh => hsu h (List.mem_cons_of_mem _ hh)) h8
              obtain ⟨g1, g2, g3⟩ := glb_of G.G.sc h2
              obtain ⟨_, _, _, _, _, _, x3, _, _, _, _⟩ := C.ex c h3
              have hl := locS_of h5
              rw [← G.G.sc] at hl
              cases body with
              | nil => cases su with
                | nil => simp at h7
                | cons _ _ => simp [chkSs] at h6
              | cons b0 bs =>
                refine .named (i := i) ⟨g1, g2, .inl (by rw [nm_eq h1]; exact x3)⟩ (by rw [G.G.n]; exact nAt h4) hl (fun a oe cls d pn' hz hv => ?_) i1
                refine pss_of fun D2 σ2 H2 z => ?_
                obtain ⟨c2, fs, ecls, hfs, z⟩ := z
                refine ⟨_, hsu _ List.mem_cons_self _ (exAt i a c2 fs) true k N sc noW _ (G.suite a ((a, oe) :: pn') fun j a' c' fs' y => ?_) C h6, z⟩
                obtain ⟨rfl, rfl, rfl, rfl⟩ := y
                refine ⟨oe, List.mem_cons_self, hv, fun e => ?_⟩
                rw [← ecls]
                have := hfs e
                subst this
                exact hz
        | _ => cases i <;> simp [chkHs] at h
theorem sTry {EP : ExPin} {hot : Bool} {k : Nat} {N : List Str} {sc : Scope} {W : WX} {X : Cx} {b : List CS} {hs : List (String × Option Nat × List CS)} {body orelse fin : List Stmt} {hds' : List PySem.ExceptHandler} {p : Pos}
    (hb : ∀ (ss : List Stmt) (W' : WX) (X' : Cx), Gs EP XC false k N sc W' X' → Ctx gi V Φ XC k X'.prog X'.w X'.K X'.mg X'.base → chkSs gi N sc b ss = true → PSs X' ss (tF EP X'.K XC W' pn (exs V Φ pn false b)))
    (hH : ∀ h ∈ hs, SuOk gi V Φ XC pn h.2.2) (G : Gs EP XC hot k N sc W X) (C : Ctx gi V Φ XC k X.prog X.w X.K X.mg X.base) (h : chkS gi N sc (.try_ b hs) (.Try body hds' orelse fin p) = true) : PS X (.Try body hds' orelse fin p) (tF EP X.K XC W pn (ex V Φ pn hot (.try_ b hs))) := by
  cases orelse with
  | cons _ _ => simp [chkS] at h
  | nil =>
    cases fin with
    | cons _ _ => simp [chkS] at h
    | nil =>
      have hsub : subOk X.K XC V := fun c c' b e => (C.sb c c' b e).1
      refine ps_of fun D σ H q => ?_
      have q : tF EP X.K XC W pn (bnd (grd (!hot)) fun _ => tryM V pn (exs V Φ pn hot b) (hds V Φ pn hs)) D σ H := q
      obtain ⟨hh, q⟩ := tF_grd q
      have hot0 : hot = false := by simpa using hh
      subst hot0
      simp only [chkS, Bool.and_eq_true] at h
      obtain ⟨⟨k1, k2⟩, k3⟩ := h
      have i1 := sHdsG G C hs hds' hH k3
      cases hds' with
      | nil => cases hs with
        | nil => simp at k2
        | cons a b => obtain ⟨_, i, _⟩ := a; cases i <;> simp [chkHs] at k3
      | cons h0 hr =>
        exact ⟨_, ps_tryG (tb := fun W' => tF EP X.K XC W' pn (exs V Φ pn false b)) G.stk G.frm (by rw [G.G.n]; exact G.G.nd) G.G.tk (fun W' pn' xe tk hp => hb body W' _ (G.tr pn' xe tk hp) C k1) i1, tF_tryG hsub (G.G.ep rfl) q⟩
theorem tF_asgV {K : PySem.W.Frag} {W : WX} {EP : ExPin} {m : M A} {i : Nat} {D : Ends} {σ : St} {H : Hp} (h : tF EP K XC W pn (bnd m fun a => bnd (asgT pn (.var i) a) fun _ => ret .nx) D σ H) : tM EP K XC W m σ H fun v H1 => L2.gName i v σ H1 D.nx :=
  tM_mono (fun v H1 z => tG_var z) (tF_asg h)
/-- name = [..] -/
theorem asg_lc {EP : ExPin} {hot : Bool} {k : Nat} {N : List Str} {sc : Scope} {W : WX} {X : Cx} (G : Gs EP XC hot k N sc W X) (C : Ctx gi V Φ XC k X.prog X.w X.K X.mg X.base) {t : Tgt} {e : CE} {tg x : Expr} {p : Pos} {D : Ends} {σ : St} {H : Hp}
    (h1 : chkT N sc t tg = true) (h2 : chk gi N sc e x = true) (hsw : swB sc x tg = true) (q : tF EP X.K XC W pn (bnd (ev V Φ hot e) fun a => bnd (asgT pn t a) fun _ => ret .nx) D σ H) : ∃ t' : TS, PS X (.Assign [tg] x p) t' ∧ t' D σ H := by
  have bad : e = .bad → ∃ t' : TS, PS X (.Assign [tg] x p) t' ∧ t' D σ H := fun z => by
    subst z
    obtain ⟨_, _, _, _, _, _, o⟩ := q
    exact o.elim
  cases tg with
  | Name y py =>
    cases t with
    | tup _ => simp [chkT] at h1
    | var i =>
      simp only [chkT, Bool.and_eq_true] at h1
      cases x with
      | ListComp elt gens scope cp =>
        cases e with
        | bad => exact bad rfl
        | comp e' t' kd s cs own' n =>
          match gens, h2, hsw with
          | [⟨tg', it, ifs, a⟩], h2, hsw =>
            have q0 := tF_asgV q
            obtain ⟨hh, q0⟩ := tM_grd q0
            have hot0 : hot = false := by simpa using hh
            subst hot0
            obtain ⟨e1, e2, L⟩ := lc_of G.G C h2 (fun es hc => ⟨fun c e ec ee => (sP s es G.G C hc c e ec ee).1, (sL s es G.G C hc).1⟩) (fun X' W' G' C' hc c e ec ee => (sP cs ifs G' C' hc c e ec ee).2) (fun X' W' G' C' hc => (sE e' elt G' C' hc).1)
            subst e1
            have hs2 := hsw
            unfold swB swN at hs2
            simp only [Bool.and_eq_true, beq_iff_eq] at hs2
            refine ⟨_, L.ps (spos := p) (pos := cp) (py := py) (i := i) (by rw [G.G.n]; exact nAt h1.1) (by rw [G.G.sc]; exact hs2.1.1.2) (by rw [sw_is G.G.sc, hsw]), ?_⟩
            rw [e2]
            exact tM_comp (G.G.ep rfl) q0
          | [], h2, _ => simp [chk] at h2
          | _ :: _ :: _, h2, _ => simp [chk] at h2
        | _ => simp [chk] at h2
      | SetComp elt gens scope cp =>
        cases e with
        | bad => exact bad rfl
        | _ => simp [chk] at h2
      | DictComp k' v' gens scope cp =>
        cases e with
        | bad => exact bad rfl
        | _ => simp [chk] at h2
      | _ => cases hsw
  | _ => cases x <;> cases hsw
theorem sSixT {a e : CE} {ks : List CE} {st : Stmt} {EP : ExPin} {hot : Bool} {k : Nat} {N : List Str} {sc : Scope} {W : WX} {X : Cx} (G : Gs EP XC hot k N sc W X) (C : Ctx gi V Φ XC k X.prog X.w X.K X.mg X.base) (h : chkS gi N sc (.sixT a ks e) st = true) :
    PS X st (tF EP X.K XC W pn (ex V Φ pn hot (.sixT a ks e))) := by
  unfold chkS at h
  split at h
  all_goals first
    | (rename_i hq; cases hq; done)
    | (cases h; done)
    | skip
  rename_i hq
  cases hq
  simp only [Bool.and_eq_true, Bool.not_eq_true'] at h
  obtain ⟨⟨⟨h1, h2⟩, h3⟩, h4⟩ := h
  have hu := G.G.un
  exact ps_of fun D σ H q => ⟨_, L2.ps_asg (sE e _ G.G C h3).1 (L2.pg_sub (sE a _ G.G C h1).1 (L2.pe_tup (sL ks _ G.G C h2).2) (set_putT (by omega))) (by unfold PySem.swapsWithSole; exact notComp_sw h4) (by rename_i x _; cases x <;> rfl) rfl, tF_sixT q⟩
mutual
theorem sS : ∀ (s : CS) (st : Stmt) {EP : ExPin} {hot : Bool} {k : Nat} {N : List Str} {sc : Scope} {W : WX} {X : Cx}, Gs EP XC hot k N sc W X → Ctx gi V Φ XC k X.prog X.w X.K X.mg X.base → chkS gi N sc s st = true →
    PS X st (tF EP X.K XC W pn (ex V Φ pn hot s))
  | .asg t e, st, EP, hot, k, N, sc, W, X, G, C, h => by
    cases st with
    | Assign tgs x p =>
      match tgs, h with
      | [tg], h =>
        simp only [chkS, Bool.and_eq_true, Bool.not_eq_true'] at h
        obtain ⟨⟨h1, h2⟩, h4⟩ := h
        refine ps_of fun D σ H q => ?_
        obtain ⟨hh, q⟩ := tF_grd q
        have hv : isVarT t = true ∨ X.calm = true := by
          cases hot with
          | false => exact .inr (G.G.calm rfl)
          | true => exact .inl (by simpa using hh)
        by_cases hsw : swB sc x tg = true
        · exact asg_lc G C h1 h2 hsw q
        · exact ⟨_, L2.ps_asg (sE e x G.G C h2).1 (sT t tg G.G.n G.loc G.G.nd hv h1) (by show PySem.swapsWith x (some tg) p.line X.env = pure false; rw [sw_is G.G.sc]; simp [hsw]) (noSwap h1 h4) (tgEach h1).1, tF_asg q⟩
      | [], h => simp [chkS] at h
      | _ :: _ :: _, h => simp [chkS] at h
    | _ => simp [chkS] at h
  | .bad, st, EP, hot, k, N, sc, W, X, G, C, h => ps_of fun D σ H q => by obtain ⟨_, _, _, _, _, _, o⟩ := q; exact o.elim
  | .par i j a b, st, EP, hot, k, N, sc, W, X, G, C, h => by
    cases st <;> simp [chkS] at h
  | .sixT a ks e, st, EP, hot, k, N, sc, W, X, G, C, h => sSixT G C h
  | .six a i e, st, EP, hot, k, N, sc, W, X, G, C, h => by
    cases st with
    | Assign tgs x p =>
      cases tgs with
      | nil => simp [chkS] at h
      | cons tg r =>
        cases tg with
        | Subscript o ix p2 =>
          cases r with
          | cons _ _ => simp [chkS] at h
          | nil =>
            simp only [chkS, Bool.and_eq_true, Bool.not_eq_true'] at h
            obtain ⟨⟨⟨h1, h2⟩, h3⟩, h4⟩ := h
            exact ps_of fun D σ H q => ⟨_, L2.ps_asg (sE e x G.G C h3).1 (L2.pg_sub (sE a o G.G C h1).1 (sE i ix G.G C h2).1 (set_put (by have hu := G.G.un; omega)) (fun v => by have hsl := chk_plain h2; cases ix <;> first | rfl | (exact absurd hsl (by simp [isSlice])))) (by unfold PySem.swapsWithSole; exact notComp_sw h4) (by cases x <;> rfl) rfl, tF_six q⟩
        | _ => simp [chkS] at h
    | _ => simp [chkS] at h
  | .aug i o e, st, EP, hot, k, N, sc, W, X, G, C, h => by
    cases st with
    | AugAssign tg o' y p =>
      cases tg with
      | Name x px =>
        simp only [chkS, Bool.and_eq_true, beq_iff_eq] at h
        obtain ⟨⟨⟨h1, h2⟩, h3⟩, h4⟩ := h
        subst h1
        obtain ⟨l1, l2⟩ := G.loc _ h3
        exact ps_of fun D σ H q => ⟨_, L2.ps_aug (by rw [G.G.n]; exact G.G.nd) (by rw [G.G.n]; exact nAt (by simpa using h2)) l1 (sE e y G.G C h4).1 (op_augD o) l2, tF_aug q⟩
      | _ => simp [chkS] at h
    | _ => simp [chkS] at h
  | .ret e, st, EP, hot, k, N, sc, W, X, G, C, h => by
    cases st with
    | Return x p =>
      cases x with
      | some x =>
        have h : chk gi N sc e x = true := by
          cases e <;> first | (simpa [chkS] using h) | (rename_i d; cases d <;> simpa [chkS] using h)
        exact ps_of fun D σ H q => ⟨_, L2.ps_ret (sE e x G.G C h).1, tF_ret q⟩
      | none =>
        have he : e = .cst .non := by
          cases e <;> first | (simp [chkS] at h; done) | (rename_i d; cases d <;> first | rfl | (simp [chkS] at h; done))
        subst he
        refine ps_of fun D σ H q => ⟨_, L2.ps_retN, ?_⟩
        obtain ⟨H0, B, ρ, U, P, b, o⟩ := q
        exact o _ _ _ b _ (show RD X.K U H .non .non by unfold RD; rfl)
    | _ => cases e <;> first | (simp [chkS] at h; done) | (rename_i d; cases d <;> simp [chkS] at h)
  | .expr e, st, EP, hot, k, N, sc, W, X, G, C, h => by
    cases st with
    | Expr x p =>
      have h : chk gi N sc e x = true ∧ isComp x = false := by
        simpa [chkS] using h
      exact ps_of fun D σ H q => ⟨_, L2.ps_expr (sE e x G.G C h.1).1 (notComp_sw h.2), tF_expr q⟩
    | _ => simp [chkS] at h
  | .ite c a b, st, EP, hot, k, N, sc, W, X, G, C, h => by
    cases st with
    | If x y z p =>
      simp only [chkS, Bool.and_eq_true] at h
      exact ps_of fun D σ H q => ⟨_, L2.ps_if (sE c x G.G C h.1.1).2 (sSs a y G C h.1.2) (sSs b z G C h.2), tF_if q⟩
    | _ => simp [chkS] at h
  | .for_ t kd s b, st, EP, hot, k, N, sc, W, X, G, C, h => by
    cases st with
    | For tg it body orelse p =>
      cases orelse with
      | nil =>
        simp only [chkS, Bool.and_eq_true, Bool.not_eq_true'] at h
        obtain ⟨⟨⟨h1, h2⟩, h3⟩, h4⟩ := h
        refine ps_of fun D σ H q => ?_
        obtain ⟨hh, q⟩ := tF_grd q
        have hot0 : hot = false := by simpa using hh
        exact ⟨_, L2.ps_for (G.hp hot0) (G.G.calm hot0) (sI G.G C h2) (sT t tg G.G.n G.loc G.G.nd (.inr (G.G.calm hot0)) h1) (sSs b body G C h4) (fun x => by cases it <;> first | rfl | (exact absurd h3 (by simp [isSet]))), tF_for q⟩
      | cons _ _ => simp [chkS] at h
    | _ => simp [chkS] at h
  | .whl c b, st, EP, hot, k, N, sc, W, X, G, C, h => by
    cases st <;> simp [chkS] at h
  | .pass, st, EP, hot, k, N, sc, W, X, G, C, h => by
    cases st with
    | Pass p => exact ps_of fun D σ H q => ⟨_, L2.ps_pass, tF_nx q⟩
    | Expr x p =>
      cases x with
      | Constant c j p2 =>
        cases c with
        | str m => exact ps_of fun D σ H q => ⟨_, L2.ps_doc, tF_nx q⟩
        | _ => simp [chkS] at h
      | _ => simp [chkS] at h
    | _ => simp [chkS] at h
  | .brk, st, EP, hot, k, N, sc, W, X, G, C, h => by
    cases st with
    | Break p => exact ps_of fun D σ H q => ⟨_, L2.ps_break, tF_bk q⟩
    | _ => simp [chkS] at h
  | .cnt, st, EP, hot, k, N, sc, W, X, G, C, h => by
    cases st with
    | Continue p => exact ps_of fun D σ H q => ⟨_, L2.ps_continue, tF_ct q⟩
    | _ => simp [chkS] at h
  | .raise c f, st, EP, hot, k, N, sc, W, X, G, C, h => by
    cases st with
    | Raise x cause p =>
      have hh : ∃ nx px m j p2 p3, f = none ∧ x = some (.Call (.Name nx px) [.Constant (.str m) j p2] [] p3) ∧ cause = none ∧ nmIs nx c = true ∧ glbB sc nx = true ∧ gi.cls.contains c = true := by
        cases f with
        | some _ => simp [chkS] at h
        | none =>
          cases x with
          | none => simp [chkS] at h
          | some x =>
            cases x with
            | Call fn es kws p3 =>
              cases fn with
              | Name nx px =>
                cases es with
                | nil => simp [chkS] at h
                | cons e r =>
                  cases e with
                  | Constant cc j p2 =>
                    cases cc with
                    | str m =>
                      cases r with
                      | cons _ _ => simp [chkS] at h
                      | nil =>
                        cases kws with
                        | cons _ _ => simp [chkS] at h
                        | nil =>
                          cases cause with
                          | some _ => simp [chkS] at h
                          | none =>
                            simp only [chkS, Bool.and_eq_true] at h
                            exact ⟨nx, px, m, j, p2, p3, rfl, rfl, rfl, h.1.1, h.1.2, h.2⟩
                    | _ => simp [chkS] at h
                  | _ => simp [chkS] at h
              | _ => simp [chkS] at h
            | _ => simp [chkS] at h
      obtain ⟨nx, px, m, j, p2, p3, rfl, rfl, rfl, h1, h2, h3⟩ := hh
      obtain ⟨g1, g2, g3⟩ := glb_of G.G.sc h2
      obtain ⟨bmB, B, newId, initId, x1, x2, x3, x4, x5, x6, x7⟩ := C.ex c h3
      refine ps_of fun D σ H q => ?_
      have q : tF EP X.K XC W pn (bnd (grd (!hot)) fun _ => fun ρ => .exc c [] ρ) D σ H := q
      obtain ⟨hh, q⟩ := tF_grd q
      have hot0 : hot = false := by simpa using hh
      refine ⟨_, L2.ps_raise (G.G.calm hot0) G.G.tk (L2.pmk_own x1 x2 (by rw [nm_eq h1]; exact x3) x4 (L2.raises_own x5 x6) g1 g2), ?_⟩
      obtain ⟨H0, B, ρ, U, P, b, o⟩ := q
      exact o _ _ _ _ none b ⟨rfl, rfl⟩
    | _ => cases f <;> simp [chkS] at h
  | .try_ b hs, st, EP, hot, k, N, sc, W, X, G, C, h => by
    have hb := fun (ss : List Stmt) (W' : WX) (X' : Cx) (G' : Gs EP XC false k N sc W' X') (C' : Ctx gi V Φ XC k X'.prog X'.w X'.K X'.mg X'.base) (hc : chkSs gi N sc b ss = true) => sSs b ss G' C' hc
    have hH := sHs hs
    cases st with
    | Try body hds' orelse fin p =>
      exact sTry hb hH G C h
    | _ => simp [chkS] at h
theorem sSs : ∀ (l : List CS) (ss : List Stmt) {EP : ExPin} {hot : Bool} {k : Nat} {N : List Str} {sc : Scope} {W : WX} {X : Cx}, Gs EP XC hot k N sc W X → Ctx gi V Φ XC k X.prog X.w X.K X.mg X.base → chkSs gi N sc l ss = true →
    PSs X ss (tF EP X.K XC W pn (exs V Φ pn hot l))
  | [], ss, EP, hot, k, N, sc, W, X, G, C, h => by
    cases ss with
    | nil => exact pss_of fun D σ H q => ⟨_, L2.pss_nil, tF_nx q⟩
    | cons _ _ => simp [chkSs] at h
  | s :: l, ss, EP, hot, k, N, sc, W, X, G, C, h => by
    cases ss with
    | nil => simp [chkSs] at h
    | cons st ss =>
      simp only [chkSs, Bool.and_eq_true] at h
      exact pss_of fun D σ H q => ⟨_, L2.pss_cons (sS s st G C h.1) (sSs l ss G C h.2), tF_seq q⟩
theorem sHs : ∀ (l : List (String × Option Nat × List CS)), ∀ h ∈ l, SuOk gi V Φ XC pn h.2.2
  | [] => fun h z => by cases z
  | (c, i, su) :: r => fun h hh => by
    rcases List.mem_cons.mp hh with e | hr
    · subst e
      exact fun ss EP hot k N sc W X G C hc => sSs su ss G C hc
    · exact sHs r h hr
end
end
end Iv

set_option linter.all false
set_option maxRecDepth 100000
set_option autoImplicit false
set_option Elab.async false
set_option maxHeartbeats 4000000
/-! Iv, part 23: the module's functions do what the interpreter says. -/
namespace Iv
open PySem (Str Addr Value Obj Heap World Program Expr Stmt Scope Pos Shared Tok NameKind Operator CmpOp PyData)
open L2 (V Hp HO St upd SqL SqT Rd RelV Vals VK TE TT TA TS Cx Inv PE PT PA PS PSs upd_same upd_ne WX Takes Sp XK OpR CallR IxR R2 Dp DpAll Ends TG TGs PG PGs It TI PI)

theorem maskO_at : ∀ (as ρ : Rho) (i : Nat), (maskO as ρ)[i]? = match as[i]? with
    | some a => (match ρ[i]? with | some s => some (if isOw a = true then s else a) | none => some a)
    | none => none
  | [], ρ, i => by simp [maskO]
  | a :: as, [], i => by
    unfold maskO
    cases h : (a :: as)[i]? with
    | none => rfl
    | some b => simp
  | a :: as, s :: ρ, 0 => by simp [maskO]
  | a :: as, s :: ρ, i + 1 => by
    unfold maskO
    simpa using maskO_at as ρ i
theorem maskO_len : ∀ (as ρ : Rho), (maskO as ρ).length = as.length
  | [], ρ => by simp [maskO]
  | a :: as, [] => by simp [maskO]
  | a :: as, s :: ρ => by simp [maskO, maskO_len as ρ]
theorem isOw_held {s : Sl} : isOw s = true ↔ ∃ d, held s d := by
  cases s <;> simp [isOw, held]
def rho0 (as : Rho) (n : Nat) : Rho := as ++ List.replicate n .no
section
variable {K : PySem.W.Frag} {XC : String → Addr} {U U' : Addr → Prop} {H H' : Hp} {vs : List V} {as ρ' : Rho} {N : List Str} {σ' : St} {n : Nat}
theorem rho0_at {i : Nat} {s : Sl} (h : (rho0 as n)[i]? = some s) (hs : s ≠ .no) : i < as.length ∧ as[i]? = some s := by
  unfold rho0 at h
  by_cases hi : i < as.length
  · rw [List.getElem?_append_left hi] at h; exact ⟨hi, h⟩
  · rw [List.getElem?_append_right (by omega), List.getElem?_replicate] at h
    split at h
    · cases h; exact absurd rfl hs
    · cases h
theorem start_at {i : Nat} (hi : i < vs.length) : (L2.start N vs)[i]? = (vs.map some)[i]? := by
  unfold L2.start
  rw [List.getElem?_append_left (by simpa using hi)]
theorem R.start (r : R noEx K U H (vs.map some) as) (hn : N.length = as.length + n) : R noEx K U H (L2.start N vs) (rho0 as n) := by
  have hl : as.length = vs.length := by have := r.len; simpa using this
  refine ⟨?_, r.trk, fun i d e => ?_, fun i s d e hd => ?_, fun i j s s' d d' p ea ha eb hb qa qb => ?_, fun i c fs e => ?_⟩
  · unfold rho0 L2.start
    simp only [List.length_append, List.length_replicate, List.length_map]
    omega
  · obtain ⟨hi, e⟩ := rho0_at e (by intro z; cases z)
    rw [start_at (by omega)]
    exact r.sh i d e
  · obtain ⟨hi, e⟩ := rho0_at e (held_no hd)
    rw [start_at (by omega)]
    exact r.ow i s d e hd
  · obtain ⟨hi, ea⟩ := rho0_at ea (held_no ha)
    obtain ⟨hj, eb⟩ := rho0_at eb (held_no hb)
    rw [start_at (by omega)] at qa qb
    exact r.dis i j s s' d d' p ea ha eb hb qa qb
  · obtain ⟨hi, e⟩ := rho0_at e (by intro z; cases z)
    obtain ⟨_, _, z⟩ := r.ex i c fs e
    exact z.elim
theorem own_start (hl : as.length = vs.length) {b : Addr} : own (L2.start N vs) (rho0 as n) b ↔ own (vs.map some) as b := by
  constructor
  · rintro ⟨i, s, d, e, hd, q⟩
    obtain ⟨hi, e⟩ := rho0_at e (held_no hd)
    rw [start_at (by omega)] at q
    exact ⟨i, s, d, e, hd, q⟩
  · rintro ⟨i, s, d, e, hd, q⟩
    have hi : i < as.length := (List.getElem?_eq_some_iff.mp e).1
    exact ⟨i, s, d, by unfold rho0; rw [List.getElem?_append_left hi]; exact e, hd, by rw [start_at (by omega)]; exact q⟩
theorem mask_adv (r : R noEx K U H (vs.map some) as) (hn : N.length = as.length + n) (a : AdvS noEx K (as.map isOw) (L2.start N vs) U H (rho0 as n) σ' U' H' ρ') : Adv noEx K (vs.map some) U H as U' H' (maskO as ρ') := by
  have hl : as.length = vs.length := by have := r.len; simpa using this
  have r0 := r.start hn
  have kp := a.kp r0
  -- an owned parameter's slot
  have pinned : ∀ {i : Nat} {s : Sl}, as[i]? = some s → isOw s = true → σ'[i]? = (vs.map some)[i]? ∧ ∃ s', ρ'[i]? = some s' := fun {i s} e h => by
    have hi : i < as.length := (List.getElem?_eq_some_iff.mp e).1
    have hp : (as.map isOw).getD i false = true := by
      rw [List.getD_eq_getElem?_getD, List.getElem?_map, e]; exact h
    have z := a.pin i hp
    rw [start_at (by omega)] at z
    refine ⟨z, ?_⟩
    have : i < σ'.length := by
      cases q : σ'[i]? with
      | none =>
        rw [q, List.getElem?_map] at z
        have : i < vs.length := by omega
        simp [this] at z
      | some _ => exact (List.getElem?_eq_some_iff.mp q).1
    rw [← a.r.len] at this
    exact ⟨ρ'[i], by simp [this]⟩
  have at_ : ∀ {i : Nat} {s : Sl}, (maskO as ρ')[i]? = some s → (∃ s0, as[i]? = some s0 ∧ isOw s0 = true ∧ ρ'[i]? = some s ∧ σ'[i]? = (vs.map some)[i]?) ∨ (as[i]? = some s ∧ isOw s = false) := fun {i s} e => by
    rw [maskO_at] at e
    cases q : as[i]? with
    | none => rw [q] at e; cases e
    | some s0 =>
      rw [q] at e
      by_cases h : isOw s0 = true
      · obtain ⟨p1, s', p2⟩ := pinned q h
        rw [p2] at e
        simp only [h, if_true] at e
        cases e
        exact .inl ⟨s0, rfl, h, p2, p1⟩
      · have h' : isOw s0 = false := by simpa using h
        cases q2 : ρ'[i]? with
        | none => rw [q2] at e; cases e; exact .inr ⟨rfl, h'⟩
        | some s' =>
          rw [q2] at e
          simp only [h', if_false, Bool.false_eq_true] at e
          cases e
          exact .inr ⟨rfl, h'⟩
  have nh : ∀ {s : Sl} {d : Iv.D}, isOw s = false → ¬ held s d := fun {s d} h hd => by
    have := isOw_held.mpr ⟨d, hd⟩
    rw [h] at this; cases this
  refine ⟨⟨fun b o e hb => a.st.keep b o e fun z => hb ((own_start hl).mp z), a.st.trk, a.st.up, fun b z => (a.st.new b z).imp id fun y => y.imp id (own_start hl).mp⟩, ⟨?_, a.r.trk, fun i d e => ?_, fun i s d e hd => ?_, fun i j s s' d d' p ea ha eb hb qa qb => ?_, fun i c fs e => ?_⟩, fun i h => ?_, fun i s e h => ?_⟩
  · rw [maskO_len]; exact r.len
  · rcases at_ e with ⟨s0, _, _, e1, q⟩ | ⟨e1, _⟩
    · rw [← q]; exact a.r.sh i d e1
    · obtain ⟨v, hv, rr⟩ := r.sh i d e1
      exact ⟨v, hv, RD.mono kp d v rr⟩
  · rcases at_ e with ⟨s0, _, _, e1, q⟩ | ⟨_, e1⟩
    · rw [← q]; exact a.r.ow i s d e1 hd
    · exact absurd hd (nh e1)
  · rcases at_ ea with ⟨_, _, _, e1, q1⟩ | ⟨_, e1⟩
    · rcases at_ eb with ⟨_, _, _, e2, q2⟩ | ⟨_, e2⟩
      · rw [← q1] at qa
        rw [← q2] at qb
        exact a.r.dis i j s s' d d' p e1 ha e2 hb qa qb
      · exact absurd hb (nh e2)
    · exact absurd ha (nh e1)
  · rcases at_ e with ⟨_, _, _, e1, _⟩ | ⟨e1, _⟩
    · obtain ⟨_, _, z⟩ := a.r.ex i c fs e1; exact z.elim
    · obtain ⟨_, _, z⟩ := r.ex i c fs e1; exact z.elim
  · obtain ⟨s, d, e, hd⟩ := owAt_held h
    rcases at_ e with ⟨s0, q, hs, _, _⟩ | ⟨_, e1⟩
    · obtain ⟨d', hd'⟩ := isOw_held.mp hs
      exact held_owAt q hd'
    · exact absurd hd (nh e1)
  · rw [maskO_at, e]
    have hi : i < as.length := (List.getElem?_eq_some_iff.mp e).1
    by_cases ho : isOw s = true
    · have e2 : (rho0 as n)[i]? = some s := by unfold rho0; rw [List.getElem?_append_left hi]; exact e
      obtain ⟨e3, _⟩ := a.fx i s e2 h
      rw [e3]; simp [ho]
    · cases ρ'[i]? with
      | none => rfl
      | some s' => simp [ho]
end

/-- a def of the module, as the text has it -/
structure FnSt (gi : GI) (V : Env) (K : PySem.W.Frag) (mg : Str → Option Value) (x : String) (f : Addr) (fd : PySem.FuncData) (ps : List Str) : Prop where
  ex : ∃ (fn : Fn) (st : Stmt) (qual : Str) (N : List Str), V.fn x = some fn ∧ L2.Fun K (Str.ofString x) qual st f fd ∧ L2.FnScope N ps (L2.defScope st) ∧ ps.length = fn.np ∧ N.length = fn.nn ∧ fn.np ≤ fn.nn ∧ chkSs gi N (L2.defScope st) fn.body (L2.defBody st) = true
  mg : mg (Str.ofString x) = some (.ref f)
/-- the module behind the top -/
structure Md (gi : GI) (V : Env) (XC : String → Addr) (w : World) (K : PySem.W.Frag) (mg : Str → Option Value) : Prop where
  fr : ∀ x, gi.frs.contains x = true → mg (Str.ofString x) = none
  gl : ∀ x, gi.gls.contains x = true → ∃ d v u, V.glob x = some d ∧ mg (Str.ofString x) = some u ∧ RelV v u ∧ ∀ U H, RD K U H d v
  gd : ∀ x, gi.gds.contains x = true → ∃ (l : List (Tx × D)) (a : Addr), V.gdct x = some l ∧ mg (Str.ofString x) = some (.ref a) ∧ ∀ s d, l.lookup s = some d → ∃ v, L2.KDct K w a (sx s) v ∧ ∀ U H, RD K U H d v
  ex : ∀ c, gi.cls.contains c = true → ∃ (bmB : List Value) (B newId initId : String), PySem.ExcBaseFacts B newId initId bmB ∧ PySem.W.excIn K (XC c) bmB newId = true ∧ mg (Str.ofString c) = some (.ref (XC c)) ∧ PySem.W.keepIn K (.ref (XC c)) = true ∧
    PySem.W.subIn K (.ref (XC c)) (.type "BaseException") = some true ∧ PySem.W.typeIn K (.ref (XC c)) = some (.type "type") ∧ L2.ExcC K (XC c)
  sb : ∀ c c' b, V.sub c c' = some b → PySem.W.exmOne K (.ref (XC c)) (.ref (XC c')) = some b ∧ PySem.W.kitOne K (.ref (XC c)) (.ref (XC c')) = some b ∧ L2.ExcC K (XC c)
  fn : ∀ x, gi.fns.contains x = true → ∃ (f : Addr) (fd : PySem.FuncData) (ps : List Str), FnSt gi V K mg x f fd ps ∧ L2.Binds K fd ps []
  kw : ∀ q, gi.kws.contains q = true → ∃ (f : Addr) (fd : PySem.FuncData) (ps : List Str), FnSt gi V K mg q.1 f fd ps ∧ ∀ (s : Shared) (us ws : List Value), us.length = q.2.1 → ws.length = q.2.2.1.length → PySem.BindsTo s fd ⟨us, (q.2.2.1.map Str.ofString).zip ws⟩ (ps.zip (us ++ pickL q.2.2.2 ws))
section
variable {gi : GI} {V : Env} {XC : String → Addr} {P : Program} {w : World} {K : PySem.W.Frag} {mg : Str → Option Value} {base : Heap}
theorem run_ok (M : Md gi V XC w K mg) : ∀ (n : Nat) (x : String) (f : Addr) (fd : PySem.FuncData) (ps : List Str), FnSt gi V K mg x f fd ps → L2.FnOk P w K mg base (L2.CX P w) n f fd ps (spF K XC (run V n) x)
  | 0, x, f, fd, ps, F => ⟨fun vs H Q E h => by obtain ⟨as, U, r, o⟩ := h; exact o.elim, fun A outer s H args us vs Q E hr e0 hb hv h => by obtain ⟨as, U, r, o⟩ := h; exact o.elim⟩
  | n + 1, x, f, fd, ps, F => by
    have ih := run_ok M n
    have C : Ctx gi V (run V n) XC n P w K mg base := ⟨M.fr, M.gl, M.gd, fun x hx => by
      obtain ⟨f, fd, ps, F, b⟩ := M.fn x hx
      obtain ⟨_, _, _, _, _, Fu, _⟩ := F.ex
      exact ⟨f, fd, ps, F.mg, Fu.kp, b, ih x f fd ps F⟩, M.ex, M.sb, fun q hq => by
      obtain ⟨f, fd, ps, F, b⟩ := M.kw q hq
      obtain ⟨_, _, _, _, _, Fu, _⟩ := F.ex
      exact ⟨f, fd, ps, F.mg, Fu.kp, ih q.1 f fd ps F, b⟩⟩
    obtain ⟨fn, st, qual, N, hfn, Fu, S, hnp, hnn, hle, hchk⟩ := F.ex
    have spl : ∀ {vs : List L2.V} {H : Hp} {Q : VK} {E : XK}, spF K XC (run V (n + 1)) x vs H Q E → ∃ (as : Rho) (U : Addr → Prop), R noEx K U H (vs.map some) as ∧ as.length = fn.np ∧ vs.length = fn.np ∧ COk K XC (vs.map some) U H as (finish as (exs V (run V n) (as.map isOw) false fn.body (rho0 as (fn.nn - fn.np)))) Q E := fun {vs H Q E} h => by
      obtain ⟨as, U, r, o⟩ := h
      have o2 : COk K XC (vs.map some) U H as (if as.length = fn.np then finish as (exs V (run V n) (as.map isOw) false fn.body (as ++ List.replicate (fn.nn - fn.np) .no)) else .stuck) Q E := by
        have e : run V (n + 1) x as = (if as.length = fn.np then finish as (exs V (run V n) (as.map isOw) false fn.body (as ++ List.replicate (fn.nn - fn.np) .no)) else .stuck) := by
          show (match V.fn x with | none => COut.stuck | some fn => _) = _
          rw [hfn]
        rw [← e]; exact o
      by_cases hl : as.length = fn.np
      · rw [if_pos hl] at o2
        have := r.len
        simp at this
        exact ⟨as, U, r, hl, by omega, o2⟩
      · rw [if_neg hl] at o2; exact o2.elim
    refine Fu.okX S (fun vs H Q E h => by obtain ⟨_, _, _, _, h2, _⟩ := spl h; rw [h2, hnp]) fun cdv A outer s H vs Q E hr hsp => ?_
    obtain ⟨as, U, r, hl, hv, o⟩ := spl hsp
    have hn : N.length = as.length + (fn.nn - fn.np) := by omega
    let X := L2.cxOf (L2.CX P w) P w K mg base N qual (L2.defScope st) f cdv A outer s H E
    have Gx : Gs noEx XC false n N (L2.defScope st) (fun cls d _ H => E cls d H) X := ⟨⟨L2.takes_of rfl rfl rfl rfl, rfl, rfl, S.nd, fun _ => rfl, fun _ => hr, by have h2 : X.A.units + 16 * n + 200 < PySem.cLine := hr.un; omega, fun _ _ _ _ _ z => z, fun _ _ _ _ z => z.elim⟩, fun _ => L2.passes_of rfl, rfl, rfl, fun _ => rfl⟩
    refine ⟨_, sSs (pn := as.map isOw) fn.body (L2.defBody st) Gx C hchk, ?_⟩
    have r0 := r.start hn
    let B : BT := fun σ' U' H' ρ' => AdvS noEx K (as.map isOw) (L2.start N vs) U H (rho0 as (fn.nn - fn.np)) σ' U' H' ρ'
    have hp : hpn (as.map isOw) (rho0 as (fn.nn - fn.np)) := fun i h => by
      obtain ⟨s, d, e, hd⟩ := owAt_held h
      obtain ⟨_, e⟩ := rho0_at e (held_no hd)
      rw [List.getD_eq_getElem?_getD, List.getElem?_map, e]
      exact isOw_held.mpr ⟨d, hd⟩
    refine ⟨H, B, rho0 as (fn.nn - fn.np), U, ⟨⟨fun b a => AdvS.trans b a, fun b => b.r⟩, _, U, _, hp, fun σ U H ρ b => b⟩, AdvS.refl r0, ?_⟩
    show SOk K XC (fun cls d _ H => E cls d H) B (exs V (run V n) (as.map isOw) false fn.body (rho0 as (fn.nn - fn.np))) _
    cases e : exs V (run V n) (as.map isOw) false fn.body (rho0 as (fn.nn - fn.np)) with
    | stuck => rw [e] at o; exact o
    | exc c fs ρ' =>
      rw [e] at o
      exact fun σ' U' H' cls d b rx => o U' H' cls d (mask_adv r hn b) rx
    | ok fl ρ' =>
      rw [e] at o
      intro σ' U' H' b
      have m := mask_adv r hn b
      cases fl with
      | nx => exact o U' H' m .non (show RD K U' H' .non .non by unfold RD; rfl)
      | bk => exact o.elim
      | ct => exact o.elim
      | rt a =>
        intro v rf
        refine o U' H' m v ?_
        cases a with
        | val d => exact rf
        | fr d => exact rf
        | rf i => exact rf.elim
end
end Iv

set_option linter.all false
set_option maxRecDepth 100000
set_option autoImplicit false
set_option Elab.async false
set_option maxHeartbeats 4000000
/-! Iv, part 24: what the top leaves, read by a Hook; the law's end. -/
namespace Iv
open PySem (Str Addr Value Obj Heap World Program Expr Stmt Scope Pos Shared Tok NameKind Operator CmpOp PyData)
open L2 (V Hp HO St upd SqL SqT Rd RelV Vals VK WX Takes Sp XK)

/-- a def of the module: its compiled term, its text, its names -/
structure FnE where
  name : String
  fn : Fn
  st : Stmt
  N : List Str
/-- what is asked of the module's top -/
structure HS where
  frs : List String
  gls : List (String × D)
  gds : List (String × List (Tx × D))
  cls : List String
  subs : List (String × String × Bool)
  fns : List FnE
def FnE.x (e : FnE) : Str := Str.ofString e.name
def FnE.ps (e : FnE) : List Str := e.fn.ps.map Str.ofString
def FnE.def_ (e : FnE) : He.DefD := ⟨(e.x, none), e.x, e.x, L2.defArgs e.st, L2.defBody e.st, L2.defScope e.st, [], []⟩

/-! ### values of the written part -/
section
variable (K : PySem.W.Frag)
mutual
def vB : D → Value → Bool
  | .non, .none => true
  | .bl b, .bool c => b == c
  | .int i, .int j _ => i == j
  | .str s, .str y _ => sx s == y && s.all fun c => decide (c < 1114112)
  | .tup l, .ref a => (match K.lookup a with
    | some ⟨.type c, _, .seq its _, _⟩ => c == "tuple" && decide (its.size ≤ PySem.sizeLine) && vBL l its.toList
    | _ => false)
  | .lst l, .ref a => (match K.lookup a with
    | some ⟨.type c, none, .seq its _, _⟩ => c == "list" && decide (its.size ≤ PySem.sizeLine) && vBL l its.toList
    | _ => false)
  | _, _ => false
def vBL : List D → List Value → Bool
  | [], [] => true
  | d :: l, u :: us => vB d u && vBL l us
  | _, _ => false
end
end
section
variable {K : PySem.W.Frag}
mutual
theorem vB_ok : ∀ (d : D) (u : Value), vB K d u = true → ∃ v, RelV v u ∧ ∀ U H, RD K U H d v
  | .non, u, h => by
    cases u <;> first | (exact ⟨.non, rfl, fun U H => by unfold RD; rfl⟩) | (simp [vB] at h)
  | .bl b, u, h => by
    cases u with
    | bool c =>
      simp only [vB, beq_iff_eq] at h
      subst h
      exact ⟨.bl b, rfl, fun U H => by unfold RD; rfl⟩
    | _ => simp [vB] at h
  | .int i, u, h => by
    cases u with
    | int j t =>
      simp only [vB, beq_iff_eq] at h
      subst h
      exact ⟨.int i, ⟨t, rfl⟩, fun U H => by unfold RD; rfl⟩
    | _ => simp [vB] at h
  | .str s, u, h => by
    cases u with
    | str y t =>
      simp only [vB, Bool.and_eq_true, beq_iff_eq] at h
      obtain ⟨rfl, h2⟩ := h
      exact ⟨.str (sx s), ⟨t, rfl⟩, fun U H => by unfold RD; exact ⟨rfl, fun c hc => of_decide_eq_true (List.all_eq_true.mp h2 c hc)⟩⟩
    | _ => simp [vB] at h
  | .tup l, u, h => by
    cases u with
    | ref a =>
      simp only [vB] at h
      cases q : K.lookup a with
      | none => rw [q] at h; cases h
      | some o =>
        rw [q] at h
        obtain ⟨oc, od, dt, osl⟩ := o
        cases oc with
        | type c =>
          cases dt with
          | seq its n =>
            simp only [Bool.and_eq_true, beq_iff_eq, decide_eq_true_eq] at h
            obtain ⟨⟨rfl, h2⟩, h3⟩ := h
            obtain ⟨vs, rv, rd⟩ := vBL_ok l its.toList h3
            exact ⟨.ref a, rfl, fun U H => by unfold RD; exact ⟨a, vs, rfl, .inr fun H' => .inr ⟨_, its, n, q, rfl, rfl, h2, rv⟩, rd U H⟩⟩
          | _ => cases h
        | _ => cases h
    | _ => simp [vB] at h
  | .lst l, u, h => by
    cases u with
    | ref a =>
      simp only [vB] at h
      cases q : K.lookup a with
      | none => rw [q] at h; cases h
      | some o =>
        rw [q] at h
        obtain ⟨oc, od, dt, osl⟩ := o
        cases oc with
        | type c =>
          cases od with
          | some _ => cases dt <;> cases h
          | none =>
            cases dt with
            | seq its n =>
              simp only [Bool.and_eq_true, beq_iff_eq, decide_eq_true_eq] at h
              obtain ⟨⟨rfl, h2⟩, h3⟩ := h
              obtain ⟨vs, rv, rd⟩ := vBL_ok l its.toList h3
              exact ⟨.ref a, rfl, fun U H => by unfold RD; exact ⟨a, vs, rfl, .inr fun H' => .inr ⟨_, its, n, q, rfl, rfl, rfl, h2, rv⟩, rd U H⟩⟩
            | _ => cases h
        | _ => cases h
    | _ => simp [vB] at h
  | .dct l, u, h => by cases u <;> simp [vB] at h
  | .set l, u, h => by cases u <;> simp [vB] at h
  | .dtn l, u, h => by cases u <;> simp [vB] at h
theorem vBL_ok : ∀ (l : List D) (us : List Value), vBL K l us = true → ∃ vs, Vals vs us ∧ ∀ U H, RL K U H l vs
  | [], us, h => by
    cases us with
    | nil => exact ⟨[], .nil, fun U H => RL.nil⟩
    | cons _ _ => simp [vBL] at h
  | d :: l, us, h => by
    cases us with
    | nil => simp [vBL] at h
    | cons u us =>
      simp only [vBL, Bool.and_eq_true] at h
      obtain ⟨v, r1, r2⟩ := vB_ok d u h.1
      obtain ⟨vs, s1, s2⟩ := vBL_ok l us h.2
      exact ⟨v :: vs, .cons r1 s1, fun U H => RL.cons (r2 U H) (s2 U H)⟩
end
end

/-! ### facts -/
section
variable (K : PySem.W.Frag)
def gaS (x : String) : Addr := He.ga K (Str.ofString x)
def glB (p : String × D) : Bool := match PySem.W.nsIn K PySem.mainGlobals (Str.ofString p.1) with
  | some (some u) => vB K p.2 u
  | _ => false
def keyStr : Value → Option Str
  | .str x _ => some x
  | _ => none
def gdB (p : String × List (Tx × D)) : Bool := He.eqO (PySem.W.nsIn K PySem.mainGlobals (Str.ofString p.1)) (some (some (.ref (gaS K p.1)))) && (match K.lookup (gaS K p.1) with
  | some ⟨.type c, none, .dict es _, sl⟩ => c == "dict" && sl.isEmpty && decide (es.toList.map (fun e => keyStr e.key) = p.2.map fun q => some (sx q.1)) && p.2.all fun q => (match PySem.W.nsIn K (gaS K p.1) (sx q.1) with
    | some (some u) => vB K q.2 u
    | _ => false)
  | _ => false)
def hashes (p : String × List (Tx × D)) : List Int := match K.lookup (gaS K p.1) with
  | some ⟨_, _, .dict es _, _⟩ => es.toList.map (·.hash)
  | _ => []
def clB (c : String) : Bool := let a := gaS K c
  He.eqO (PySem.W.nsIn K PySem.mainGlobals (Str.ofString c)) (some (some (.ref a))) && PySem.W.excIn K a He.veBase "ValueError.__new__" && PySem.W.keepIn K (.ref a) && decide (PySem.W.subIn K (.ref a) (.type "BaseException") = some true) && decide (PySem.W.typeIn K (.ref a) = some (.type "type")) &&
  (He.eqO (PySem.W.findIn K (.ref a) "__getattribute__") (some (some (.builtin "BaseException.__getattribute__"))) && He.eqO (PySem.W.findIn K (.ref a) "__getattr__") (some none) && PySem.W.hasDictIn K a && He.eqO (PySem.W.findIn K (.ref a) "__class__") (some (some (.builtin "object.__class__"))) &&
  He.eqO (PySem.W.specialIn K (.builtin "object.__class__") "__get__") (some (some (.builtin "getset_descriptor.__get__"))) && decide (PySem.W.takesIn K (.builtin "object.__class__") = some true) && decide (PySem.W.mroIn K a (.type "object") = some true))
def sbB (p : String × String × Bool) : Bool := clB K p.1 && decide (PySem.W.exmOne K (.ref (gaS K p.1)) (.ref (gaS K p.2.1)) = some p.2.2) && decide (PySem.W.kitOne K (.ref (gaS K p.1)) (.ref (gaS K p.2.1)) = some p.2.2)
def fnG (e : FnE) : Bool := He.eqO (PySem.W.nsIn K PySem.mainGlobals e.x) (some (some (.ref (gaS K e.name)))) && (e.def_).ok K
end
abbrev AlI : Type := Bool × List He.FnW × List (List Int)
def obsI (S : HS) (K : PySem.W.Frag) : AlI :=
  ((S.frs.all fun x => He.eqO (PySem.W.nsIn K PySem.mainGlobals (Str.ofString x)) (some none)) && S.gls.all (glB K) && S.gds.all (gdB K) && S.cls.all (clB K) && S.subs.all (sbB K) && S.fns.all (fnG K),
    S.fns.map fun e => He.fnW K e.def_.at_, S.gds.map (hashes K))
def valI (S : HS) (w : World) : AlI := (true, S.fns.map fun e => e.def_.val, S.gds.map fun p => p.2.map fun q => PySem.PyData.keyHash w.params (sx q.1))
def SaysI (S : HS) (w : World) (K : PySem.W.Frag) : Prop := obsI S K = valI S w
def obsIG (n : Nat) (S : HS) (g : Addr → Option Obj) : AlI := obsI S (He.frG g (He.asD g n))
def hookI (n : Nat) (S : HS) : PySem.W.Hook where
  α := AlI
  obs := fun s => obsIG n S s.heap.get?
  val := valI S
  says := fun w h => ∃ K : PySem.W.Frag, K.In h ∧ SaysI S w K
  of := fun _ _ e => ⟨_, He.frG_in, e⟩
  keeps := fun _ _ _ ⟨K, hK, c⟩ k => ⟨K, PySem.W.Frag.In.keeps hK k, c⟩
theorem obsIG_eq {n : Nat} {S : HS} {g : Addr → Option Obj} {s : Shared} (h : ∀ a, g a = s.heap.get? a) : obsIG n S g = (hookI n S).obs s := by
  have e : g = s.heap.get? := funext h
  rw [e] <;> rfl

/-- what binds a def's arguments -/
def BindOk (e : FnE) : Prop := ∀ (kV doc pm : Value) (an : Option Addr) (cdv ct : Value) (us : List Value), us.length = e.ps.length → PySem.bindArgs (PySem.W.fnOf e.x e.x (L2.defArgs e.st) (L2.defBody e.st) (L2.defScope e.st) .none kV doc pm an cdv ct) ⟨us, []⟩ = pure (e.ps.zip us)
def KwOk (e : FnE) (q : String × Nat × List String × List Nat) : Prop := ∀ (kV doc pm : Value) (an : Option Addr) (cdv ct : Value) (us ws : List Value), us.length = q.2.1 → ws.length = q.2.2.1.length →
  PySem.bindArgs (PySem.W.fnOf e.x e.x (L2.defArgs e.st) (L2.defBody e.st) (L2.defScope e.st) .none kV doc pm an cdv ct) ⟨us, (q.2.2.1.map Str.ofString).zip ws⟩ = pure (e.ps.zip (us ++ pickL q.2.2.2 ws))
/-- the compiled term stands for the text -/
def ChkOk (gi : GI) (e : FnE) : Bool := C8.scC e.N e.ps (L2.defScope e.st) && e.fn.ps.length == e.fn.np && e.N.length == e.fn.nn && decide (e.fn.np ≤ e.fn.nn) && chkSs gi e.N (L2.defScope e.st) e.fn.body (L2.defBody e.st)
/-- the module's environment for the interpreter -/
def envOf (S : HS) : Env where
  glob := fun x => S.gls.lookup x
  gdct := fun x => S.gds.lookup x
  fn := fun x => (S.fns.find? fun e => e.name == x).map (·.fn)
  sub := fun c c' => (S.subs.find? fun p => p.1 == c && p.2.1 == c').map (·.2.2)
/-- what the names are -/
structure Fit (S : HS) (gi : GI) : Prop where
  frs : ∀ x, gi.frs.contains x = true → x ∈ S.frs
  gls : ∀ x, gi.gls.contains x = true → ∃ d, S.gls.lookup x = some d
  gds : ∀ x, gi.gds.contains x = true → ∃ l, S.gds.lookup x = some l
  cls : ∀ x, gi.cls.contains x = true → x ∈ S.cls
  fns : ∀ x, gi.fns.contains x = true → ∃ e, S.fns.find? (fun e => e.name == x) = some e
  kws : ∀ q, gi.kws.contains q = true → ∃ e, S.fns.find? (fun e => e.name == q.1) = some e ∧ KwOk e q
  chk : ∀ e ∈ S.fns, ChkOk gi e = true
  bnd : ∀ e ∈ S.fns, BindOk e
theorem mem_of_lookup {α β : Type} [BEq α] [LawfulBEq α] {x : α} {b : β} : ∀ {l : List (α × β)}, l.lookup x = some b → (x, b) ∈ l
  | [], h => by cases h
  | (a, c) :: l, h => by
    rw [List.lookup_cons] at h
    cases e : x == a with
    | true => rw [e] at h; cases h; rw [beq_iff_eq.mp e]; exact List.mem_cons_self
    | false => rw [e] at h; exact List.mem_cons_of_mem _ (mem_of_lookup h)
theorem eqOk {a b : Option (Option Value)} (h : He.eqO a b = true) : a = b := He.eqO_ok h
section
variable {S : HS} {gi : GI} {w : World} {K : PySem.W.Frag} {h : Heap} {mg : Str → Option Value}
theorem says_all (c : SaysI S w K) : (S.frs.all fun x => He.eqO (PySem.W.nsIn K PySem.mainGlobals (Str.ofString x)) (some none)) = true ∧ S.gls.all (glB K) = true ∧ S.gds.all (gdB K) = true ∧ S.cls.all (clB K) = true ∧ S.subs.all (sbB K) = true ∧ S.fns.all (fnG K) = true := by
  have c1 : ((S.frs.all fun x => He.eqO (PySem.W.nsIn K PySem.mainGlobals (Str.ofString x)) (some none)) && S.gls.all (glB K) && S.gds.all (gdB K) && S.cls.all (clB K) && S.subs.all (sbB K) && S.fns.all (fnG K)) = true := congrArg (fun z : AlI => z.1) c
  simp only [Bool.and_eq_true] at c1
  obtain ⟨⟨⟨⟨⟨h1, h2⟩, h3⟩, h4⟩, h5⟩, h6⟩ := c1
  exact ⟨h1, h2, h3, h4, h5, h6⟩
theorem keysLit {P : PySem.Params} : ∀ {es : List PySem.DictEntry} {l : List (Tx × D)}, es.map (fun e => keyStr e.key) = l.map (fun q => some (sx q.1)) → es.map (·.hash) = l.map (fun q => PySem.PyData.keyHash P (sx q.1)) → PySem.W.KeysLit P es
  | [], _, _, _ => trivial
  | e :: es, [], h, _ => by cases h
  | e :: es, q :: l, h1, h2 => by
    simp only [List.map_cons, List.cons.injEq] at h1 h2
    refine ⟨?_, keysLit h1.2 h2.2⟩
    cases k : e.key with
    | str x t =>
      rw [k] at h1
      have : x = sx q.1 := by have z := h1.1; simp only [keyStr] at z; cases z; rfl
      subst this
      exact ⟨_, t, rfl, h2.1⟩
    | _ => rw [k] at h1; exact absurd h1.1 (by simp [keyStr])
def gaX (K : PySem.W.Frag) : String → Addr := gaS K
theorem excC_ok {c : String} (h : clB K c = true) : L2.ExcC K (gaS K c) := by
  unfold clB at h
  simp only [Bool.and_eq_true, decide_eq_true_eq] at h
  obtain ⟨⟨⟨⟨⟨a1, a2⟩, a3⟩, a4⟩, a5⟩, ⟨⟨⟨⟨⟨b1, b2⟩, b3⟩, b4⟩, b5⟩, b6⟩, b7⟩ := h
  exact ⟨eqOk b1, eqOk b2, a4, b3, eqOk b4, eqOk b5, b6, b7⟩
theorem fnSt_of (F : Fit S gi) (c : SaysI S w K) (X : K.In h) (G : h.Ns PySem.mainGlobals mg) {e : FnE} {x : String} (he : S.fns.find? (fun e => e.name == x) = some e) :
    ∃ (f : Addr) (fd : PySem.FuncData), FnSt gi (envOf S) K mg x f fd e.ps ∧ L2.Fun K e.x e.x e.st f fd ∧ fd.defaults = .none := by
  have hm : e ∈ S.fns := List.mem_of_find?_eq_some he
  have hx : e.name = x := by have := List.find?_some he; simpa using this
  subst hx
  have hf := List.all_eq_true.mp (says_all c).2.2.2.2.2 e hm
  unfold fnG at hf
  obtain ⟨g1, g2⟩ := Bool.and_eq_true_iff.mp hf
  have vals : S.fns.map (fun e => He.fnW K e.def_.at_) = S.fns.map fun e => e.def_.val := congrArg (fun z : AlI => z.2.1) c
  have ev : He.fnW K e.def_.at_ = e.def_.val := by
    obtain ⟨i, hi⟩ := List.getElem?_of_mem hm
    have e2 : (S.fns.map fun e => He.fnW K e.def_.at_)[i]? = (S.fns.map fun e => e.def_.val)[i]? := by rw [vals]
    rw [List.getElem?_map, List.getElem?_map, hi] at e2
    exact Option.some.inj e2
  obtain ⟨fd, ⟨oc, od, dV, kV, doc, pm, an, cdv, ct, osl, efd, lk, hcd, hdV, hkV⟩, kp⟩ := He.DefD.funD ev g2
  have hd : dV = .none := by
    rcases hdV with ⟨_, z⟩ | ⟨z, _⟩
    · exact z
    · exact absurd rfl z
  subst hd
  have at_ : He.fAd K e.def_.at_ = gaS K e.name := rfl
  rw [at_] at lk kp
  have Fu : L2.Fun K e.x e.x e.st (gaS K e.name) fd := ⟨⟨oc, od, kV, doc, pm, an, cdv, ct, osl, efd, lk, hcd⟩, kp⟩
  have hc := F.chk e hm
  unfold ChkOk at hc
  simp only [Bool.and_eq_true, beq_iff_eq, decide_eq_true_eq] at hc
  obtain ⟨⟨⟨⟨c1, c2⟩, c3⟩, c4⟩, c5⟩ := hc
  have S1 := C8.fnScope_by c1
  refine ⟨gaS K e.name, fd, ⟨⟨e.fn, e.st, e.x, e.N, ?_, Fu, ⟨S1.kind, S1.co, S1.gen, S1.nd, S1.pre, S1.par, S1.nofree⟩, ?_, c3, c4, c5⟩, PySem.W.mg_of X G (eqOk g1)⟩, Fu, by rw [efd] <;> rfl⟩
  · show (S.fns.find? fun e' => e'.name == e.name).map (·.fn) = some e.fn
    rw [he]; rfl
  · unfold FnE.ps; rw [List.length_map, c2]
theorem md_of (F : Fit S gi) (c : SaysI S w K) (X : K.In h) (G : h.Ns PySem.mainGlobals mg) : Md gi (envOf S) (gaS K) w K mg where
  fr := fun x hx => PySem.W.mg_none_of X G (eqOk (List.all_eq_true.mp (says_all c).1 x (F.frs x hx)))
  gl := fun x hx => by
    obtain ⟨d, hd⟩ := F.gls x hx
    have hb := List.all_eq_true.mp (says_all c).2.1 _ (mem_of_lookup hd)
    unfold glB at hb
    split at hb
    · rename_i u e
      obtain ⟨v, r1, r2⟩ := vB_ok d u hb
      exact ⟨d, v, u, hd, PySem.W.mg_of X G e, r1, r2⟩
    · cases hb
  gd := fun x hx => by
    obtain ⟨l, hl⟩ := F.gds x hx
    have hm := mem_of_lookup hl
    have hb := List.all_eq_true.mp (says_all c).2.2.1 _ hm
    unfold gdB at hb
    obtain ⟨g1, hb⟩ := Bool.and_eq_true_iff.mp hb
    have hh : S.gds.map (hashes K) = S.gds.map fun p => p.2.map fun q => PySem.PyData.keyHash w.params (sx q.1) := congrArg (fun z : AlI => z.2.2) c
    have hv : hashes K (x, l) = l.map fun q => PySem.PyData.keyHash w.params (sx q.1) := by
      obtain ⟨i, hi⟩ := List.getElem?_of_mem hm
      have e2 : (S.gds.map (hashes K))[i]? = (S.gds.map fun p => p.2.map fun q => PySem.PyData.keyHash w.params (sx q.1))[i]? := by rw [hh]
      rw [List.getElem?_map, List.getElem?_map, hi] at e2
      exact Option.some.inj e2
    refine ⟨l, gaS K x, hl, PySem.W.mg_of X G (eqOk g1), fun s d hs => ?_⟩
    unfold hashes at hv
    cases q : K.lookup (gaS K x) with
    | none => rw [q] at hb; cases hb
    | some o =>
      rw [q] at hb hv
      obtain ⟨oc, od, dt, osl⟩ := o
      cases oc with
      | type cc =>
        cases od with
        | some _ => cases dt <;> cases hb
        | none =>
          cases dt with
          | dict es n =>
            simp only [Bool.and_eq_true, beq_iff_eq, decide_eq_true_eq] at hb
            obtain ⟨⟨⟨rfl, h2⟩, h3⟩, h4⟩ := hb
            have h5 := List.all_eq_true.mp h4 (s, d) (mem_of_lookup hs)
            have hsl : osl = #[] := by simpa using h2
            subst hsl
            simp only at h5
            split at h5
            · rename_i u e
              obtain ⟨v, r1, r2⟩ := vB_ok d u h5
              exact ⟨v, ⟨es, n, u, q, keysLit h3 hv, e, r1⟩, r2⟩
            · cases h5
          | _ => cases hb
      | _ => cases od <;> cases dt <;> cases hb
  ex := fun x hx => by
    have hb := List.all_eq_true.mp (says_all c).2.2.2.1 x (F.cls x hx)
    have E := excC_ok hb
    unfold clB at hb
    simp only [Bool.and_eq_true, decide_eq_true_eq] at hb
    obtain ⟨⟨⟨⟨⟨a1, a2⟩, a3⟩, a4⟩, a5⟩, _⟩ := hb
    exact ⟨He.veBase, "ValueError", "ValueError.__new__", "ValueError.__init__", PySem.F.excBase_ValueError, a2, PySem.W.mg_of X G (eqOk a1), a3, a4, a5, E⟩
  sb := fun c1 c2 b hs => by
    have hs2 : (S.subs.find? fun p => p.1 == c1 && p.2.1 == c2).map (·.2.2) = some b := hs
    obtain ⟨p, hp, rfl⟩ := Option.map_eq_some_iff.mp hs2
    have hm := List.mem_of_find?_eq_some hp
    have hn := List.find?_some hp
    simp only [Bool.and_eq_true, beq_iff_eq] at hn
    obtain ⟨rfl, rfl⟩ := hn
    have hb := List.all_eq_true.mp (says_all c).2.2.2.2.1 _ hm
    unfold sbB at hb
    simp only [Bool.and_eq_true, decide_eq_true_eq] at hb
    exact ⟨hb.1.2, hb.2, excC_ok hb.1.1⟩
  fn := fun x hx => by
    obtain ⟨e, he⟩ := F.fns x hx
    obtain ⟨f, fd, h1, h2, _⟩ := fnSt_of F c X G he
    exact ⟨f, fd, e.ps, h1, h2.binds (F.bnd e (List.mem_of_find?_eq_some he))⟩
  kw := fun q hq => by
    obtain ⟨e, he, hk⟩ := F.kws q hq
    obtain ⟨f, fd, h1, h2, _⟩ := fnSt_of F c X G he
    refine ⟨f, fd, e.ps, h1, fun s us ws n1 n2 => ?_⟩
    obtain ⟨oc, od, kV, doc, pm, an, cdv, ct, osl, rfl, _, _⟩ := h2.ex
    exact .of_eq (hk kV doc pm an cdv ct us ws n1 n2)
/-- a law of the module: its end, from what the interpreter says of it -/
theorem law_end {l : PySem.W.OpenLaw} {q : Program} {loose : List Str} {XP : (Str → Option Value) → Heap → Prop} {d : PySem.DefRec} {n hk : Nat} {x : Str} {e : FnE} (F : Fit S gi)
    (hn : l.most = some n) (hn2 : n ≤ PySem.sizeLine) (hdf : d.params.defaults = []) (hr : L2.Room 12 PySem.callerA)
    (hname : d.name = Str.ofString "law") (he : S.fns.find? (fun e => e.name == "law") = some e) (hps : e.ps = [x])
    (pure_ : ∀ ns : List Int, ns.length ≤ n → (∀ z ∈ ns, PySem.Builtin.Int.intBits z ≤ 1048576) → ∃ outs, run (envOf S) 12 "law" [.sh (.lst (ns.map D.int))] = .ok (.val (.bl true)) outs) :
    PySem.W.WalkO q loose XP (hookI hk S).says l.row.toRowW d [] (fun f vs => PySem.call f vs) := by
  refine Att.attach_callB hn hdf fun w s₀ s₁ mg mb fa o pm cd doc a vs ns G Y ho hd hcd hmg hobj hints hlen hbits hg => ?_
  obtain ⟨K, KX, c⟩ := Y
  have M := md_of (mg := mg) F c KX G.T.g
  obtain ⟨f, fd, h1, h2, _⟩ := fnSt_of F c KX G.T.g he
  have hfa : f = fa := by
    have z := h1.mg
    rw [← hname, hmg] at z
    cases z; rfl
  subst hfa
  have B := h2.binds (F.bnd e (List.mem_of_find?_eq_some he))
  have Fn := fun base => run_ok (P := l.prog) (base := base) M 12 "law" f fd e.ps h1
  rw [hps] at Fn
  refine L2.law_call KX G.T.g G.T.b G.T.builtins G.T.nolimit hg hobj hints (Nat.le_trans hlen hn2) hr (fun base _ _ => Fn base) (fun s u => ?_) (fun H hO hS => ?_) fun H e s' h => ?_
  · obtain ⟨oc, od, kV, doc, pm, an, cdv, ct, osl, rfl, _, _⟩ := h2.ex
    have z := F.bnd e (List.mem_of_find?_eq_some he) kV doc pm an cdv ct [u] (by rw [hps]; rfl)
    rw [hps] at z
    exact .of_eq z
  · obtain ⟨outs, hrun⟩ := pure_ ns hlen hbits
    have rl : ∀ (U : Addr → Prop) (H : Hp), RL K U H (ns.map D.int) (ns.map L2.V.int) := fun U H => by
      clear hrun hS hlen hbits hints pure_
      induction ns with
      | nil => exact RL.nil
      | cons i r ih => exact RL.cons RD.int ih
    have fin : ∀ U : Addr → Prop, R noEx K U H ([L2.V.ref a].map some) [.sh (.lst (ns.map D.int))] → spF K (gaS K) (run (envOf S) 12) "law" [.ref a] H (fun v _ => v = .bl true) fun _ _ _ => False := fun U r => by
      refine ⟨_, U, r, ?_⟩
      rw [hrun]
      intro U' H' _ v rv
      have rv : RD K U' H' (.bl true) v := rv
      unfold RD at rv
      exact rv
    have mk : ∀ U : Addr → Prop, (∀ b, U b → ∃ o, H b = some o) → ShL K U H a (ns.map L2.V.int) → R noEx K U H ([L2.V.ref a].map some) [.sh (.lst (ns.map D.int))] := fun U ht hsh => by
      refine ⟨rfl, ht, fun i d e => ?_, fun i s d e hd => ?_, fun i j s s' d d' p ea ha => ?_, fun i c fs e => ?_⟩
      · cases i with
        | zero =>
          cases e
          exact ⟨_, rfl, by unfold RD; exact ⟨a, _, rfl, hsh, rl U H⟩⟩
        | succ i => simp at e
      · cases i with
        | zero => cases e; exact absurd hd (sh_nh d)
        | succ i => simp at e
      · cases i with
        | zero => cases ea; exact absurd ha (sh_nh d)
        | succ i => simp at ea
      · cases i with
        | zero => cases e
        | succ i => simp at e
    rcases hS with hS | ⟨o, its, k, z⟩
    · exact fin (fun b => b = a) (mk _ (fun b hb => by
        subst hb
        rcases hS with q | ⟨o, q⟩ <;> exact ⟨_, q⟩) (.inl ⟨rfl, hS⟩))
    · exact fin (fun _ => False) (mk _ (fun b hb => hb.elim) (.inr fun H' => .inr ⟨o, its, k, z⟩))
  · obtain ⟨_, _, _, _, _, _, _, _, _, _, _, _, z⟩ := h
    exact z
end
/-! ### for the generator -/
def giOf (S : HS) (kws : List (String × Nat × List String × List Nat)) : GI := ⟨S.fns.map (·.name), S.gls.map (·.1), S.gds.map (·.1), kws, S.frs, S.cls⟩
theorem alln {α : Type} {P : α → Prop} : ∀ e ∈ ([] : List α), P e := fun _ h => nomatch h
theorem allc {α : Type} {P : α → Prop} {a : α} {l : List α} (h : P a) (r : ∀ e ∈ l, P e) : ∀ e ∈ a :: l, P e := fun e he => (List.mem_cons.mp he).elim (fun z => z ▸ h) (r e)
theorem lookup_of_mem {β : Type} {x : String} : ∀ {l : List (String × β)}, (l.map (·.1)).contains x = true → ∃ d, l.lookup x = some d
  | [], h => by simp at h
  | (a, b) :: l, h => by
    rw [List.lookup_cons]
    cases e : x == a with
    | true => exact ⟨b, rfl⟩
    | false =>
      have : (l.map (·.1)).contains x = true := by
        simp only [List.map_cons, List.contains_cons, e, Bool.false_or] at h
        exact h
      exact lookup_of_mem this
theorem find_of_mem {x : String} : ∀ {l : List FnE}, (l.map (·.name)).contains x = true → ∃ e, l.find? (fun e => e.name == x) = some e
  | [], h => by simp at h
  | a :: l, h => by
    rw [List.find?_cons]
    cases e : a.name == x with
    | true => exact ⟨a, rfl⟩
    | false =>
      have : (l.map (·.name)).contains x = true := by
        have e2 : (x == a.name) = false := by
          have n : a.name ≠ x := by simpa using e
          simpa using Ne.symm n
        simp only [List.map_cons, List.contains_cons, e2, Bool.false_or] at h
        exact h
      exact find_of_mem this
theorem fit_of {S : HS} {kws : List (String × Nat × List String × List Nat)} (hk : ∀ q ∈ kws, ∃ e, S.fns.find? (fun e => e.name == q.1) = some e ∧ KwOk e q) (hc : ∀ e ∈ S.fns, ChkOk (giOf S kws) e = true) (hb : ∀ e ∈ S.fns, BindOk e) : Fit S (giOf S kws) where
  frs := fun x h => by simpa [giOf] using h
  gls := fun x h => lookup_of_mem h
  gds := fun x h => lookup_of_mem h
  cls := fun x h => by simpa [giOf] using h
  fns := fun x h => find_of_mem h
  kws := fun q h => hk q (by simpa [giOf] using h)
  chk := hc
  bnd := hb
end Iv

set_option linter.all false
set_option maxRecDepth 100000
set_option autoImplicit false
set_option Elab.async false
set_option maxHeartbeats 1000000
/-! Iv, pure part: the pool of draws, which all laws have. -/
namespace Iv
/-- a def's run, opened -/
theorem run_eq {V : Env} {n : Nat} {f : String} {fn : Fn} {as : Rho} (h : V.fn f = some fn) (hl : as.length = fn.np) : Iv.run V (n + 1) f as = finish as (exs V (Iv.run V n) (as.map isOw) false fn.body (as ++ List.replicate (fn.nn - fn.np) .no)) := by
  show (match V.fn f with | none => COut.stuck | some fn => _) = _
  rw [h]
  exact if_pos hl
theorem bnd_ok' {α β : Type} {m : M α} {a : α} {ρ ρ' : Rho} (e : m ρ = .ok a ρ') (f : α → M β) : bnd m f ρ = f a ρ' := by unfold bnd; rw [e]
def bPool : List CS :=
  [.asg (.var 2) (.cst (.int 1)), .for_ (.tup [(.var 3), (.var 4)]) "enumerate" [(.slc (.var 0) none (some (.cst (.int 63))))] [.asg (.var 2) (.bin .Mod (.bi "int" [(.bin .Add (.bin .Add (.bin .Mult (.var 2) (.cst (.int 31))) (.bin .Mult (.var 4) (.bin .Add (.bin .Mult (.cst (.int 2)) (.var 3)) (.cst (.int 3))))) (.var 3))]) (.cst (.int 2147483587)))], .asg (.var 4) (.bin .Add (.bin .Mult (.var 2) (.cst (.int 7))) (.var 1)), .ite (.cmp .Lt (.var 1) (.bi "len" [(.var 0)])) [.asg (.var 4) (.bi "abs" [(.idx (.var 0) (.var 1))])] [], .asg (.var 5) (.bin .Mod (.bi "int" [(.bin .Add (.bin .Add (.bin .Add (.bin .Mult (.var 4) (.cst (.int 48271))) (.bin .Mult (.var 2) (.cst (.int 69621)))) (.bin .Mult (.var 1) (.cst (.int 7919)))) (.cst (.int 5)))]) (.cst (.int 2147483647))), .ite (.cmp .Lt (.var 4) (.bin .Pow (.cst (.int 10)) (.cst (.int 18)))) [.asg (.var 4) (.cst (.int 0))] [], .ret (.lst [(.var 4), (.var 5), (.var 1)])]
def fPool : Fn := ⟨2, 6, ["script", "k"], bPool⟩
def bPull : List CS :=
  [.six (.var 0) (.cst (.int 2)) (.bin .Add (.idx (.var 0) (.cst (.int 2))) (.cst (.int 1))), .ite (.cmp .Gt (.idx (.var 0) (.cst (.int 0))) (.cst (.int 0))) [.asg (.var 2) (.bin .Mod (.bi "int" [(.idx (.var 0) (.cst (.int 0)))]) (.var 1)), .six (.var 0) (.cst (.int 0)) (.bin .FloorDiv (.bi "int" [(.idx (.var 0) (.cst (.int 0)))]) (.var 1)), .ret (.var 2)] [], .six (.var 0) (.cst (.int 1)) (.bin .Mod (.bi "int" [(.bin .Add (.bin .Add (.bin .Mult (.idx (.var 0) (.cst (.int 1))) (.cst (.int 16807))) (.bin .Mult (.bin .Mult (.idx (.var 0) (.cst (.int 2))) (.idx (.var 0) (.cst (.int 2)))) (.cst (.int 40692)))) (.cst (.int 977)))]) (.cst (.int 2147483629))), .ret (.bin .Mod (.bin .FloorDiv (.bi "int" [(.bin .Mod (.bin .Mult (.idx (.var 0) (.cst (.int 1))) (.cst (.int 1583458089))) (.cst (.int 2147483587)))]) (.cst (.int 11))) (.var 1))]
def fPull : Fn := ⟨2, 3, ["pool", "limit"], bPull⟩
/-! ### the pool -/
def poolD (a b c : Int) : D := .lst [.int a, .int b, .int c]
structure PoolOk (m : Nat) (a b c : Int) : Prop where
  a1 : a.natAbs.log2 ≤ 2000000
  b1 : 0 ≤ b
  b2 : b < 2147483647
  c1 : 0 ≤ c
  c2 : c ≤ m
theorem log2_le {n k : Nat} (h : n < 2 ^ k) (hk : 0 < k) : n.log2 < k := by
  by_cases h0 : n = 0
  · subst h0; simpa using hk
  · exact (Nat.log2_lt h0).mpr h
theorem small_log {x : Int} {k : Nat} (h : x.natAbs < 2 ^ k) (hk : 0 < k) : x.natAbs.log2 < k := log2_le h hk
theorem mul_ok {x y : Int} (h1 : x.natAbs.log2 < 50000000) (h2 : y.natAbs.log2 < 50000000) : mulOk x y = true := by
  unfold mulOk
  exact decide_eq_true (by omega)
theorem small50 {x : Int} (h : x.natAbs < 2 ^ 64) : x.natAbs.log2 < 50000000 := Nat.lt_of_lt_of_le (small_log h (by decide)) (by decide)
theorem fdiv_log {a L : Int} (ha : 0 < a) (hL : 0 < L) : (a.fdiv L).natAbs.log2 ≤ a.natAbs.log2 := by
  rw [Int.fdiv_eq_ediv_of_nonneg _ (by omega)]
  have h1 : 0 ≤ a / L := Int.ediv_nonneg (by omega) (by omega)
  have h2 : a / L ≤ a := Int.ediv_le_self _ (by omega)
  have h3 : (a / L).natAbs ≤ a.natAbs := by omega
  by_cases h0 : (a / L).natAbs = 0
  · rw [h0]; exact Nat.zero_le _
  · exact (Nat.le_log2 (by omega)).mpr (Nat.le_trans (Nat.log2_self_le h0) h3)
theorem pull_ok {V : Env} (hV : V.fn "_law_pull" = some fPull) {n m : Nat} {a b c L : Int} (P : PoolOk m a b c) (hm : m ≤ 100000) (hL : 1 ≤ L) (hL2 : L ≤ 1000000000000000) :
    ∃ r a' b' c', Iv.run V (n + 1) "_law_pull" [.ow (poolD a b c), .sh (.int L)] = .ok (.val (.int r)) [.ow (poolD a' b' c'), .sh (.int L)] ∧ 0 ≤ r ∧ r < L ∧ PoolOk (m + 1) a' b' c' := by
  rw [run_eq (fn := fPull) hV rfl]
  obtain ⟨a1, b1, b2, c1, c2⟩ := P
  have hd : divOk L = true := by
    unfold divOk
    rw [Bool.and_eq_true]
    refine ⟨decide_eq_true (by omega), decide_eq_true ?_⟩
    exact Nat.lt_of_lt_of_le (small_log (k := 64) (by omega) (by decide)) (by decide)
  have hd11 : divOk 11 = true := by decide
  have hL0 : decide (L ≠ 0) = true := decide_eq_true (by omega)
  by_cases ha : 0 < a
  · refine ⟨a.fmod L, a.fdiv L, b, c + 1, ?_, ?_, ?_, ⟨Nat.le_trans (fdiv_log ha (by omega)) a1, b1, b2, by omega, by push_cast; omega⟩⟩
    · simp [fPull, bPull, poolD, exs, ex, ev, evA, bnd, ret, grd, getv, slot, rd, opt, truthD, tst, rdL, biD, coldBi, idxD, ixN, setD, mput, putSl, cmpD, ltD, binD, guardO, asgT, asgV, putF, fixS, stv, retA, finish, maskO, isOw, ha, hd, hL0, isVarT, fail]
    · rw [Int.fmod_eq_emod_of_nonneg _ (by omega)]; exact Int.emod_nonneg _ (by omega)
    · rw [Int.fmod_eq_emod_of_nonneg _ (by omega)]; exact Int.emod_lt_of_pos _ (by omega)
  · have n0 : ∀ x M : Int, 0 < M → 0 ≤ x.fmod M ∧ x.fmod M < M := fun x M hM => by
      rw [Int.fmod_eq_emod_of_nonneg _ (by omega)]
      exact ⟨Int.emod_nonneg _ (by omega), Int.emod_lt_of_pos _ hM⟩
    let b' := (b * 16807 + (c + 1) * (c + 1) * 40692 + 977).fmod 2147483629
    obtain ⟨e1, e2⟩ := n0 (b * 16807 + (c + 1) * (c + 1) * 40692 + 977) 2147483629 (by decide)
    have m1 : mulOk b 16807 = true := mul_ok (small50 (by omega)) (by decide)
    have m2 : mulOk (c + 1) (c + 1) = true := mul_ok (small50 (by omega)) (small50 (by omega))
    have hc : 0 ≤ (c + 1) * (c + 1) ∧ (c + 1) * (c + 1) ≤ 100001 * 100001 := ⟨Int.mul_nonneg (by omega) (by omega), Int.mul_le_mul (by omega) (by omega) (by omega) (by decide)⟩
    have m3 : mulOk ((c + 1) * (c + 1)) 40692 = true := mul_ok (small50 (by omega)) (by decide)
    have m4 : mulOk b' 1583458089 = true := mul_ok (small50 (by show ((b * 16807 + (c + 1) * (c + 1) * 40692 + 977).fmod 2147483629).natAbs < _; omega)) (by decide)
    refine ⟨(((b' * 1583458089).fmod 2147483587).fdiv 11).fmod L, a, b', c + 1, ?_, (n0 _ L (by omega)).1, (n0 _ L (by omega)).2, ⟨a1, e1, by show (b * 16807 + (c + 1) * (c + 1) * 40692 + 977).fmod 2147483629 < _; omega, by omega, by push_cast; omega⟩⟩
    show _ = COut.ok (.val (.int (((((b * 16807 + (c + 1) * (c + 1) * 40692 + 977).fmod 2147483629) * 1583458089).fmod 2147483587).fdiv 11 |>.fmod L))) [.ow (.lst [.int a, .int ((b * 16807 + (c + 1) * (c + 1) * 40692 + 977).fmod 2147483629), .int (c + 1)]), .sh (.int L)]
    have m4 : mulOk ((b * 16807 + (c + 1) * (c + 1) * 40692 + 977).fmod 2147483629) 1583458089 = true := m4
    simp [fPull, bPull, poolD, exs, ex, ev, evA, bnd, ret, grd, getv, slot, rd, opt, truthD, tst, rdL, biD, coldBi, idxD, ixN, setD, mput, putSl, cmpD, ltD, binD, guardO, asgT, asgV, putF, fixS, stv, retA, finish, maskO, isOw, ha, hd, hL0, hd11, m1, m2, m3, m4, isVarT, fail]
theorem fixS_sh {d : D} : fixS (.sh d) = false := rfl
theorem fixS_ow {d : D} : fixS (.ow d) = false := rfl
theorem fixS_no : fixS .no = false := rfl
theorem fmod_rng (x : Int) {M : Int} (hM : 0 < M) : 0 ≤ x.fmod M ∧ x.fmod M < M := by
  rw [Int.fmod_eq_emod_of_nonneg _ (by omega)]
  exact ⟨Int.emod_nonneg _ (by omega), Int.emod_lt_of_pos _ hM⟩
section
variable {V : Env}
def bodyPool : List CS := [.asg (.var 2) (.bin .Mod (.bi "int" [(.bin .Add (.bin .Add (.bin .Mult (.var 2) (.cst (.int 31))) (.bin .Mult (.var 4) (.bin .Add (.bin .Mult (.cst (.int 2)) (.var 3)) (.cst (.int 3))))) (.var 3))]) (.cst (.int 2147483587)))]
theorem loop_pool {n : Nat} (sc k : D) : ∀ (l : List Int) (j : Nat) (t : Int) (s3 s4 : Sl), (∀ z ∈ l, z.natAbs.log2 ≤ 1048576) → j + l.length ≤ 1000 → 0 ≤ t → t < 2147483587 → fixS s3 = false → fixS s4 = false →
    ∃ t' s3' s4', forL (fun d => asgT [false, false] (.tup [.var 3, .var 4]) (.val d)) (exs V (Iv.run V n) [false, false] false bodyPool) (enumL j (l.map D.int)) [.sh sc, .sh k, .sh (.int t), s3, s4, .no] = .ok .nx [.sh sc, .sh k, .sh (.int t'), s3', s4', .no] ∧ 0 ≤ t' ∧ t' < 2147483587 ∧ fixS s4' = false
  | [], j, t, s3, s4, _, _, h1, h2, _, f4 => ⟨t, s3, s4, rfl, h1, h2, f4⟩
  | z :: l, j, t, s3, s4, hb, hl, h1, h2, f3, f4 => by
    simp only [List.length_cons] at hl
    obtain ⟨r1, r2⟩ := fmod_rng (t * 31 + z * (2 * (j : Int) + 3) + (j : Int)) (M := 2147483587) (by decide)
    obtain ⟨t', s3', s4', e, q1, q2, q3⟩ := loop_pool (n := n) sc k l (j + 1) _ (.sh (.int j)) (.sh (.int z)) (fun y hy => hb y (List.mem_cons_of_mem _ hy)) (by omega) r1 r2 rfl rfl
    refine ⟨t', s3', s4', ?_, q1, q2, q3⟩
    have m1 : mulOk t 31 = true := mul_ok (small50 (by omega)) (by decide)
    have m2 : mulOk 2 (j : Int) = true := mul_ok (by decide) (small50 (by omega))
    have hz := hb z List.mem_cons_self
    have m3 : mulOk z (2 * (j : Int) + 3) = true := mul_ok (by omega) (small50 (by omega))
    rw [← e]
    simp [forL, enumL, bodyPool, exs, ex, ev, evA, bnd, ret, grd, getv, slot, rd, opt, truthD, rdL, biD, coldBi, putSl, binD, guardO, asgT, asgTs, asgV, putF, f3, f4, seqOf, stv, m1, m2, m3, isVarT, fail, fixS_sh]
def sPool : CS := .for_ (.tup [(.var 3), (.var 4)]) "enumerate" [(.slc (.var 0) none (some (.cst (.int 63))))] bodyPool
def restPool : List CS := [.asg (.var 4) (.bin .Add (.bin .Mult (.var 2) (.cst (.int 7))) (.var 1)), .ite (.cmp .Lt (.var 1) (.bi "len" [(.var 0)])) [.asg (.var 4) (.bi "abs" [(.idx (.var 0) (.var 1))])] [], .asg (.var 5) (.bin .Mod (.bi "int" [(.bin .Add (.bin .Add (.bin .Add (.bin .Mult (.var 4) (.cst (.int 48271))) (.bin .Mult (.var 2) (.cst (.int 69621)))) (.bin .Mult (.var 1) (.cst (.int 7919)))) (.cst (.int 5)))]) (.cst (.int 2147483647))), .ite (.cmp .Lt (.var 4) (.bin .Pow (.cst (.int 10)) (.cst (.int 18)))) [.asg (.var 4) (.cst (.int 0))] [], .ret (.lst [(.var 4), (.var 5), (.var 1)])]
theorem b_eqP : bPool = .asg (.var 2) (.cst (.int 1)) :: sPool :: restPool := rfl
theorem intBits_log {z : Int} (h : PySem.Builtin.Int.intBits z ≤ 1048576) : z.natAbs.log2 ≤ 1048576 := by
  unfold PySem.Builtin.Int.intBits at h
  split at h
  · rename_i e; simp at e; subst e; decide
  · omega
theorem pool_ok (hV : V.fn "_law_pool" = some fPool) {n : Nat} (ns : List Int) (k : Nat) (hk : k ≤ 12) (hl : ns.length ≤ 63) (hb : ∀ z ∈ ns, z.natAbs.log2 ≤ 1048576) :
    ∃ a b, Iv.run V (n + 1) "_law_pool" [.sh (.lst (ns.map D.int)), .sh (.int k)] = .ok (.fr (poolD a b k)) [.sh (.lst (ns.map D.int)), .sh (.int k)] ∧ PoolOk 12 a b k := by
  rw [run_eq (fn := fPool) hV rfl]
  obtain ⟨t, s3, s4, e, t1, t2, f4⟩ := loop_pool (n := n) (.lst (ns.map D.int)) (.int k) (ns.take 63) 0 1 .no .no (fun z hz => hb z (List.mem_of_mem_take hz)) (by simp; omega) (by decide) (by decide) rfl rfl
  have cut : cutL (ns.map D.int) none (some 63) = (ns.take 63).map D.int := by
    unfold cutL slN
    simp
  have ex_sPool : ex V (Iv.run V n) [false, false] false sPool [.sh (.lst (ns.map D.int)), .sh (.int k), .sh (.int 1), .no, .no, .no] = .ok .nx [.sh (.lst (ns.map D.int)), .sh (.int k), .sh (.int t), s3, s4, .no] := by
    have e0 : ex V (Iv.run V n) [false, false] false sPool [.sh (.lst (ns.map D.int)), .sh (.int k), .sh (.int 1), .no, .no, .no] = Out.mapR (fun r => r) (forL (fun d => asgT [false, false] (.tup [.var 3, .var 4]) (.val d)) (exs V (Iv.run V n) [false, false] false bodyPool) (enumL 0 (cutL (ns.map D.int) none (some 63))) [.sh (.lst (ns.map D.int)), .sh (.int k), .sh (.int 1), .no, .no, .no]) := rfl
    rw [e0, cut, e]
    rfl
  have n1 : mulOk t 7 = true := mul_ok (small50 (by omega)) (by decide)
  have n2 : mulOk t 69621 = true := mul_ok (small50 (by omega)) (by decide)
  have n3 : mulOk (k : Int) 7919 = true := mul_ok (small50 (by omega)) (by decide)
  have n4 : powOk 10 18 = true := by decide
  have fin : ∀ (cell : Int), cell.natAbs.log2 ≤ 1048576 → ∃ a b : Int, a = (if cell < 1000000000000000000 then 0 else cell) ∧ b = (cell * 48271 + t * 69621 + (k : Int) * 7919 + 5).fmod 2147483647 ∧ PoolOk 12 a b k ∧ mulOk cell 48271 = true := fun cell hc => by
    obtain ⟨r1, r2⟩ := fmod_rng (cell * 48271 + t * 69621 + (k : Int) * 7919 + 5) (M := 2147483647) (by decide)
    refine ⟨_, _, rfl, rfl, ⟨?_, r1, r2, by omega, by omega⟩, mul_ok (by omega) (by decide)⟩
    split
    · decide
    · omega
  by_cases hkl : k < ns.length
  · have hz := hb (ns[k]) (List.getElem_mem hkl)
    have hix : ixN ns.length (k : Int) = some k := by
      unfold ixN
      rw [if_pos (by omega), if_pos (by omega)]; simp
    have hat : ns[k]? = some ns[k] := by simp [hkl]
    obtain ⟨a, b, ea, eb, P, n5⟩ := fin (if ns[k] < 0 then -ns[k] else ns[k]) (by split <;> simpa using hz)
    refine ⟨a, b, ?_, P⟩
    subst ea eb
    generalize hcell : (if ns[k] < 0 then -ns[k] else ns[k]) = cell at *
    by_cases hc : cell < 1000000000000000000
    · simp [fPool, b_eqP, restPool, exs, ex_sPool, ex, ev, evA, evO, evS, bnd, ret, grd, getv, slot, rd, rdL, opt, truthD, tst, biD, coldBi, idxD, hix, hat, cmpD, ltD, binD, guardO, n1, n2, n3, n4, n5, asgT, asgV, putF, putSl, stv, isVarT, fixS_sh, fixS_no, f4, fixS_ow, retA, finish, maskO, isOw, fail, poolD, sizeLine, hkl, hcell, hc]
    · simp [fPool, b_eqP, restPool, exs, ex_sPool, ex, ev, evA, evO, evS, bnd, ret, grd, getv, slot, rd, rdL, opt, truthD, tst, biD, coldBi, idxD, hix, hat, cmpD, ltD, binD, guardO, n1, n2, n3, n4, n5, asgT, asgV, putF, putSl, stv, isVarT, fixS_sh, fixS_no, f4, fixS_ow, retA, finish, maskO, isOw, fail, poolD, sizeLine, hkl, hcell, hc]
  · obtain ⟨a, b, ea, eb, P, n5⟩ := fin (t * 7 + (k : Int)) (Nat.le_of_lt (Nat.lt_of_lt_of_le (small_log (k := 64) (by omega) (by decide)) (by decide)))
    refine ⟨a, b, ?_, P⟩
    subst ea eb
    have hix : True := trivial
    have hat : True := trivial
    by_cases hc : (t * 7 + (k : Int)) < 1000000000000000000
    · simp [fPool, b_eqP, restPool, exs, ex_sPool, ex, ev, evA, evO, evS, bnd, ret, grd, getv, slot, rd, rdL, opt, truthD, tst, biD, coldBi, idxD, hix, hat, cmpD, ltD, binD, guardO, n1, n2, n3, n4, n5, asgT, asgV, putF, putSl, stv, isVarT, fixS_sh, fixS_no, f4, fixS_ow, retA, finish, maskO, isOw, fail, poolD, sizeLine, hkl, hc]
    · simp [fPool, b_eqP, restPool, exs, ex_sPool, ex, ev, evA, evO, evS, bnd, ret, grd, getv, slot, rd, rdL, opt, truthD, tst, biD, coldBi, idxD, hix, hat, cmpD, ltD, binD, guardO, n1, n2, n3, n4, n5, asgT, asgV, putF, putSl, stv, isVarT, fixS_sh, fixS_no, f4, fixS_ow, retA, finish, maskO, isOw, fail, poolD, sizeLine, hkl, hc]
end
end Iv

set_option linter.all false
set_option maxRecDepth 100000
set_option autoImplicit false
set_option Elab.async false
set_option maxHeartbeats 1000000
/-! Iv, pure part: comprehensions and loops. -/
namespace Iv
theorem set_same {α : Type} : ∀ (l : List α) (i : Nat) (a : α), l[i]? = some a → l.set i a = l
  | [], _, _, h => by simp at h
  | x :: l, 0, a, h => by simp at h; subst h; rfl
  | x :: l, i + 1, a, h => by simp at h ⊢; exact set_same l i a h
theorem getP_wipe : ∀ (vs : List Nat) (ρ : Rho) (i : Nat), (wipeR vs ρ)[i]? = if i ∈ vs then (ρ[i]?).map (fun _ => .no) else ρ[i]?
  | [], ρ, i => by simp [wipeR]
  | v :: vs, ρ, i => by
    show (wipeR vs (ρ.set v .no))[i]? = _
    rw [getP_wipe vs (ρ.set v .no) i]
    have e : (ρ.set v .no)[i]? = if v = i then (ρ[i]?).map (fun _ => .no) else ρ[i]? := by
      by_cases h : v = i
      · subst h
        rw [if_pos rfl]
        by_cases hv : v < ρ.length
        · rw [List.getElem?_set_self hv]; simp [hv]
        · rw [List.getElem?_eq_none (by rw [List.length_set]; omega), List.getElem?_eq_none (by omega)]; rfl
      · rw [if_neg h, List.getElem?_set_ne h]
    rw [e]
    by_cases h : v = i
    · subst h
      by_cases m : v ∈ vs <;> simp [m] <;> cases ρ[v]? <;> rfl
    · by_cases m : i ∈ vs
      · simp [m, h]
      · simp [m, h, Ne.symm h]
theorem getP_back : ∀ (vs : List Nat) (ρ ρ' : Rho) (i : Nat), ρ'.length = ρ.length → (backR vs ρ ρ')[i]? = if i ∈ vs then ρ[i]? else ρ'[i]?
  | [], ρ, ρ', i, _ => by simp [backR]
  | v :: vs, ρ, ρ', i, hl => by
    show (backR vs ρ (match ρ[v]? with | some s => ρ'.set v s | none => ρ'))[i]? = _
    have hl2 : (match ρ[v]? with | some s => ρ'.set v s | none => ρ').length = ρ.length := by
      cases ρ[v]? <;> simp [hl]
    rw [getP_back vs ρ _ i hl2]
    by_cases m : i ∈ vs
    · rw [if_pos m, if_pos (List.mem_cons_of_mem _ m)]
    · rw [if_neg m]
      by_cases h : i = v
      · subst h
        rw [if_pos List.mem_cons_self]
        cases q : ρ[i]? with
        | none =>
          have : ρ.length ≤ i := by simpa using q
          show ρ'[i]? = none
          exact List.getElem?_eq_none (by omega)
        | some s =>
          have := (List.getElem?_eq_some_iff.mp q).1
          rw [List.getElem?_set_self (by omega)]
      · rw [if_neg (by simp [m, h])]
        cases q : ρ[v]? with
        | none => rfl
        | some s => rw [List.getElem?_set_ne (Ne.symm h)]
theorem lenP_wipe : ∀ (vs : List Nat) (ρ : Rho), (wipeR vs ρ).length = ρ.length
  | [], ρ => rfl
  | v :: vs, ρ => by
    show (wipeR vs (ρ.set v .no)).length = _
    rw [lenP_wipe vs, List.length_set]
theorem back_wipe (vs : List Nat) (ρ : Rho) : backR vs ρ (wipeR vs ρ) = ρ := by
  apply List.ext_getElem?
  intro i
  rw [getP_back vs ρ _ i (lenP_wipe vs ρ), getP_wipe]
  by_cases m : i ∈ vs
  · rw [if_pos m]
  · rw [if_neg m, if_neg m]
theorem mapAt_at' {f : Sl → Sl} (hf : ∀ s, f (f s) = f s) : ∀ (is : List Nat) (ρ : Rho) (i : Nat), (mapAt f is ρ)[i]? = if i ∈ is then (ρ[i]?).map f else ρ[i]?
  | [], ρ, i => by simp [mapAt]
  | k :: is, ρ, i => by
    have e : mapAt f (k :: is) ρ = mapAt f is (match ρ[k]? with | some s => ρ.set k (f s) | none => ρ) := rfl
    rw [e, mapAt_at' hf is]
    have at_ : (match ρ[k]? with | some s => ρ.set k (f s) | none => ρ)[i]? = if i = k then (ρ[i]?).map f else ρ[i]? := by
      cases q : ρ[k]? with
      | none =>
        by_cases h : i = k
        · subst h; simp [q]
        · simp [h]
      | some s =>
        by_cases h : i = k
        · subst h
          have hi : i < ρ.length := (List.getElem?_eq_some_iff.mp q).1
          simp only [if_true, q, Option.map_some]
          rw [List.getElem?_set_self hi]
        · simp only [h, if_false]
          rw [List.getElem?_set_ne (Ne.symm h)]
    rw [at_]
    by_cases h1 : i = k
    · subst h1
      by_cases h2 : i ∈ is
      · simp only [h2, if_true, List.mem_cons, true_or, Option.map_map]
        cases ρ[i]? with
        | none => rfl
        | some s => simp [hf]
      · simp [h2]
    · by_cases h2 : i ∈ is <;> simp [h1, h2]
theorem unlock_lock (as : List A) (ρ : Rho) : mapAt unlockS (toLock as ρ) (mapAt lockS (toLock as ρ) ρ) = ρ := by
  apply List.ext_getElem?
  intro i
  rw [mapAt_at' (fun s => by cases s <;> rfl), mapAt_at' (fun s => by cases s <;> rfl)]
  by_cases m : i ∈ toLock as ρ
  · rw [if_pos m]
    have m0 := m
    unfold toLock at m
    obtain ⟨_, h2⟩ := List.mem_filter.mp m
    cases e : ρ[i]? with
    | none => rw [e] at h2; cases h2
    | some s =>
      rw [e] at h2
      cases s with
      | ow d => simp [if_pos m0, lockS, unlockS]
      | _ => cases h2
  · rw [if_neg m, if_neg m]
/-- a comprehension's items, each by a function; the block keeps what is not its own -/
theorem compL_map {own : List Nat} {asg : D → M Unit} {test : M Bool} {e : M D} {f : D → D} {ρ : Rho} : ∀ (items acc : List D),
    (∀ d ∈ items, ∃ ρ1 ρ2 ρ3, asg d (wipeR own ρ) = .ok () ρ1 ∧ test ρ1 = .ok true ρ2 ∧ e ρ2 = .ok (f d) ρ3 ∧ wipeR own ρ3 = wipeR own ρ) → acc.length + items.length < sizeLine →
    ∀ ρ', wipeR own ρ' = wipeR own ρ → compL own asg test e items acc ρ' = .ok (acc ++ items.map f) (wipeR own ρ)
  | [], acc, _, _, ρ', hw => by simp [compL, hw]
  | d :: r, acc, h, hl, ρ', hw => by
    obtain ⟨ρ1, ρ2, ρ3, e1, e2, e3, e4⟩ := h d List.mem_cons_self
    simp only [List.length_cons] at hl
    have ih := compL_map (own := own) (asg := asg) (test := test) (e := e) (f := f) r (acc ++ [f d]) (fun d hd => h d (List.mem_cons_of_mem _ hd)) (by simp; omega) ρ3 e4
    have hlt : acc.length < sizeLine := by omega
    simp [compL, bnd, hw, e1, e2, e3, grd, hlt, ih]
theorem ev_comp {V : Env} {Φ : String → Rho → COut} {e : CE} {t : Tgt} {k : String} {s cs : List CE} {own : List Nat} {n : Nat} {ρ : Rho} {as : List A} {ds items : List D} (f : D → D)
    (hn : ρ.length = n) (ha : evA V Φ false s ρ = .ok as ρ) (hr : ((refs as).all fun i => !(own.contains i)) = true) (hd : rdL as ρ = .ok ds ρ) (hi : itemsOf k ds = some items) (hl : items.length < sizeLine)
    (hp : ∀ d ∈ items, ∃ ρ1 ρ2 ρ3, asgT (pnOf own n) t (.val d) (wipeR own (mapAt lockS (toLock as ρ) ρ)) = .ok () ρ1 ∧ evTs V Φ false cs ρ1 = .ok true ρ2 ∧ bnd (ev V Φ false e) stv ρ2 = .ok (f d) ρ3 ∧ wipeR own ρ3 = wipeR own (mapAt lockS (toLock as ρ) ρ)) :
    ev V Φ false (.comp e t k s cs own n) ρ = .ok (.fr (.lst (items.map f))) ρ := by
  have h1 := compL_map (own := own) (asg := fun d => asgT (pnOf own n) t (.val d)) (test := evTs V Φ false cs) (e := bnd (ev V Φ false e) stv) (f := f) (ρ := mapAt lockS (toLock as ρ) ρ) items [] hp (by simpa using hl) (wipeR own (mapAt lockS (toLock as ρ) ρ)) (by
    apply List.ext_getElem?
    intro i
    simp only [getP_wipe]
    by_cases m : i ∈ own
    · simp only [if_pos m]; cases (mapAt lockS (toLock as ρ) ρ)[i]? <;> rfl
    · simp only [if_neg m])
  have e0 : ev V Φ false (.comp e t k s cs own n) ρ = bnd (grd (!false)) (fun _ => bnd (lenIs n) fun _ => bnd (evA V Φ false s) fun as => bnd (grd ((refs as).all fun i => !(own.contains i))) fun _ => bnd (rdL as) fun ds => bnd (opt (itemsOf k ds)) fun items =>
    bnd (locked as (within own (compL own (fun d => asgT (pnOf own n) t (.val d)) (evTs V Φ false cs) (bnd (ev V Φ false e) stv) items []))) fun out => ret (.fr (.lst out))) ρ := rfl
  have h2 : compL own (fun d => asgT (pnOf own n) t (.val d)) (evTs V Φ false cs) (bnd (ev V Φ false e) stv) items [] (wipeR own (mapAt lockS (toLock as ρ) ρ)) = .ok (items.map f) (wipeR own (mapAt lockS (toLock as ρ) ρ)) := by simpa using h1
  have h5 : locked as (within own (compL own (fun d => asgT (pnOf own n) t (.val d)) (evTs V Φ false cs) (bnd (ev V Φ false e) stv) items [])) ρ = .ok (items.map f) ρ := by
    unfold locked within
    rw [h2]
    simp only [Out.mapR, back_wipe, unlock_lock]
  have g1 : grd (!false) ρ = .ok () ρ := rfl
  have g2 : lenIs n ρ = .ok () ρ := by unfold lenIs; rw [if_pos hn]
  have g3 : grd ((refs as).all fun i => !(own.contains i)) ρ = .ok () ρ := by unfold grd; rw [if_pos hr]
  have g4 : opt (itemsOf k ds) ρ = .ok items ρ := by rw [hi]; rfl
  rw [e0, bnd_ok' g1, bnd_ok' g2, bnd_ok' ha, bnd_ok' g3, bnd_ok' hd, bnd_ok' g4, bnd_ok' h5]
  rfl
/-- a loop whose turns go on -/
theorem forL_all {asg : D → M Unit} {body : M Fl} (I : Rho → Prop) : ∀ (items : List D), (∀ d ∈ items, ∀ ρ, I ρ → ∃ ρ1 ρ2, asg d ρ = .ok () ρ1 ∧ body ρ1 = .ok .nx ρ2 ∧ I ρ2) → ∀ ρ, I ρ → ∃ ρ', forL asg body items ρ = .ok .nx ρ' ∧ I ρ'
  | [], _, ρ, h => ⟨ρ, rfl, h⟩
  | d :: r, h, ρ, hI => by
    obtain ⟨ρ1, ρ2, e1, e2, h2⟩ := h d List.mem_cons_self ρ hI
    obtain ⟨ρ', e3, h3⟩ := forL_all I r (fun d hd => h d (List.mem_cons_of_mem _ hd)) ρ2 h2
    exact ⟨ρ', by simp [forL, bnd, e1, e2, e3], h3⟩
/-- a loop that ends with a value where a test holds -/
theorem forL_any {asg : D → M Unit} {body : M Fl} (I : Rho → Prop) (p : D → Bool) (a : A) : ∀ (items : List D), (∀ d ∈ items, ∀ ρ, I ρ → ∃ ρ1 ρ2, asg d ρ = .ok () ρ1 ∧ body ρ1 = .ok (if p d = true then .rt a else .nx) ρ2 ∧ I ρ2) →
    ∀ ρ, I ρ → ∃ ρ', forL asg body items ρ = .ok (if items.any p = true then .rt a else .nx) ρ' ∧ I ρ'
  | [], _, ρ, h => ⟨ρ, rfl, h⟩
  | d :: r, h, ρ, hI => by
    obtain ⟨ρ1, ρ2, e1, e2, h2⟩ := h d List.mem_cons_self ρ hI
    by_cases hp : p d = true
    · rw [if_pos hp] at e2
      exact ⟨ρ2, by simp [forL, bnd, e1, e2, hp, ret], h2⟩
    · rw [if_neg hp] at e2
      obtain ⟨ρ', e3, h3⟩ := forL_any I p a r (fun d hd => h d (List.mem_cons_of_mem _ hd)) ρ2 h2
      exact ⟨ρ', by simp [forL, bnd, e1, e2, e3, hp], h3⟩
/-- a for over values that are not locked -/
theorem ex_for {V : Env} {Φ : String → Rho → COut} {pn : List Bool} {t : Tgt} {k : String} {s : List CE} {b : List CS} {ρ ρ' : Rho} {as : List A} {ds items : List D} {f : Fl} (ha : evA V Φ false s ρ = .ok as ρ) (hr : refs as = []) (hd : rdL as ρ = .ok ds ρ) (hi : itemsOf k ds = some items)
    (hf : forL (fun d => asgT pn t (.val d)) (exs V Φ pn false b) items ρ = .ok f ρ') : ex V Φ pn false (.for_ t k s b) ρ = .ok f ρ' := by
  have e0 : ex V Φ pn false (.for_ t k s b) ρ = bnd (grd (!false)) (fun _ => bnd (evA V Φ false s) fun as => bnd (rdL as) fun ds => bnd (opt (itemsOf k ds)) fun items => locked as (forL (fun d => asgT pn t (.val d)) (exs V Φ pn false b) items)) ρ := rfl
  rw [e0]
  have hl : toLock as ρ = [] := by unfold toLock; rw [hr]; rfl
  simp only [bnd, grd, ha, hd, opt, hi, locked, hl, Bool.not_false, if_true]
  show Out.mapR _ (forL (fun d => asgT pn t (.val d)) (exs V Φ pn false b) items ρ) = _
  rw [hf]
  rfl
end Iv

set_option linter.all false
set_option maxRecDepth 100000
set_option autoImplicit false
set_option Elab.async false
namespace K05
open Iv
open PySem (Str)
-- BAD in fits : dropped is_valid
-- BAD in zero_in : dropped zero_polynomial
-- BAD in plus_in : dropped added
-- BAD in times_in : dropped times_polynomial
-- BAD in at_most_in : dropped is_below
-- DROPPED added closed counted divides is_above is_ascending is_below is_lot_of_names is_monomial is_name is_normal is_part is_valid is_within joined least_parts_of multiplied normal one_polynomial parts_of times_polynomial zero_polynomial
def N_is_integer : List PySem.Str := ["value"]
def b_is_integer : List CS :=
  [.ret (.and (.isi (.var 0) ["int"]) (.not (.isi (.var 0) ["bool"])))]
def f_is_integer : Fn := ⟨1, 1, ["value"], b_is_integer⟩
def N_is_kind : List PySem.Str := ["value"]
def b_is_kind : List CS :=
  [.ret (.and (.isi (.var 0) ["str"]) (.cmp .In (.var 0) (.glo "KINDS")))]
def f_is_kind : Fn := ⟨1, 1, ["value"], b_is_kind⟩
def N_is_grid : List PySem.Str := ["value", "size", "line", "cell"]
def q_is_grid_0 : CE := (.comp (.and (.call "is_integer" [(.var 3)]) (.chn .LtE .Lt (.cst (.int 0)) (.var 3) (.var 1))) (.var 3) "" [(.var 2)] [] [3] 4)
def w_is_grid_0 : List CS := [.ite (.or (.not (.isi (.var 2) ["tuple"])) (.cmp .NotEq (.bi "len" [(.var 2)]) (.var 1))) [.ret (.cst (.bl false))] [], .ite (.not (.bi "all" [q_is_grid_0])) [.ret (.cst (.bl false))] []]
def l_is_grid_0 : CS := .for_ (.var 2) "" [(.var 0)] w_is_grid_0
def b_is_grid : List CS :=
  [.ite (.or (.not (.isi (.var 0) ["tuple"])) (.cmp .NotEq (.bi "len" [(.var 0)]) (.var 1))) [.ret (.cst (.bl false))] [], l_is_grid_0, .ret (.cst (.bl true))]
def f_is_grid : Fn := ⟨2, 4, ["value", "size"], b_is_grid⟩
def N_has_table_form : List PySem.Str := ["value", "size"]
def b_has_table_form : List CS :=
  [.ite (.or (.not (.isi (.var 0) ["tuple"])) (.cmp .NotEq (.bi "len" [(.var 0)]) (.cst (.int 3)))) [.ret (.cst (.bl false))] [], .ite (.or (.not (.isi (.idx (.var 0) (.cst (.int 0))) ["str"])) (.or (.cmp .NotEq (.idx (.var 0) (.cst (.int 0))) (.cst (.str [116, 97, 98, 108, 101]))) (.not (.isi (.idx (.var 0) (.cst (.int 1))) ["tuple"])))) [.ret (.cst (.bl false))] [], .asg (.var 1) (.bi "len" [(.idx (.var 0) (.cst (.int 1)))]), .ret (.and (.chn .LtE .LtE (.cst (.int 1)) (.var 1) (.glo "MOST_ELEMENTS")) (.and (.call "is_grid" [(.idx (.var 0) (.cst (.int 1))), (.var 1)]) (.call "is_grid" [(.idx (.var 0) (.cst (.int 2))), (.var 1)])))]
def f_has_table_form : Fn := ⟨1, 2, ["value"], b_has_table_form⟩
def N_unit_fault : List PySem.Str := ["line", "a", "cell"]
def w_unit_fault_0 : List CS := [.ite (.cmp .NotEq (.var 2) (.var 1)) [.ret (.tup [(.var 1)])] []]
def l_unit_fault_0 : CS := .for_ (.tup [(.var 1), (.var 2)]) "enumerate" [(.var 0)] w_unit_fault_0
def b_unit_fault : List CS :=
  [l_unit_fault_0, .ret (.cst .non)]
def f_unit_fault : Fn := ⟨1, 3, ["line"], b_unit_fault⟩
def N_zero_fault : List PySem.Str := ["line", "a", "cell"]
def w_zero_fault_0 : List CS := [.ite (.cmp .NotEq (.var 2) (.cst (.int 0))) [.ret (.tup [(.var 1)])] []]
def l_zero_fault_0 : CS := .for_ (.tup [(.var 1), (.var 2)]) "enumerate" [(.var 0)] w_zero_fault_0
def b_zero_fault : List CS :=
  [l_zero_fault_0, .ret (.cst .non)]
def f_zero_fault : Fn := ⟨1, 3, ["line"], b_zero_fault⟩
def N_turn_fault : List PySem.Str := ["grid", "size", "a", "b"]
def w_turn_fault_0 : List CS := [.ite (.cmp .NotEq (.idx (.idx (.var 0) (.var 2)) (.var 3)) (.idx (.idx (.var 0) (.var 3)) (.var 2))) [.ret (.tup [(.var 2), (.var 3)])] []]
def l_turn_fault_0 : CS := .for_ (.var 3) "range" [(.var 1)] w_turn_fault_0
def w_turn_fault_1 : List CS := [l_turn_fault_0]
def l_turn_fault_1 : CS := .for_ (.var 2) "range" [(.var 1)] w_turn_fault_1
def b_turn_fault : List CS :=
  [l_turn_fault_1, .ret (.cst .non)]
def f_turn_fault : Fn := ⟨2, 4, ["grid", "size"], b_turn_fault⟩
def N_group_fault : List PySem.Str := ["grid", "size", "a", "b", "c"]
def w_group_fault_0 : List CS := [.ite (.cmp .NotEq (.idx (.idx (.var 0) (.idx (.idx (.var 0) (.var 2)) (.var 3))) (.var 4)) (.idx (.idx (.var 0) (.var 2)) (.idx (.idx (.var 0) (.var 3)) (.var 4)))) [.ret (.tup [(.var 2), (.var 3), (.var 4)])] []]
def l_group_fault_0 : CS := .for_ (.var 4) "range" [(.var 1)] w_group_fault_0
def w_group_fault_1 : List CS := [l_group_fault_0]
def l_group_fault_1 : CS := .for_ (.var 3) "range" [(.var 1)] w_group_fault_1
def w_group_fault_2 : List CS := [l_group_fault_1]
def l_group_fault_2 : CS := .for_ (.var 2) "range" [(.var 1)] w_group_fault_2
def b_group_fault : List CS :=
  [l_group_fault_2, .ret (.cst .non)]
def f_group_fault : Fn := ⟨2, 5, ["grid", "size"], b_group_fault⟩
def N_spread_fault : List PySem.Str := ["plus_grid", "times_grid", "size", "a", "b", "c", "left"]
def w_spread_fault_0 : List CS := [.asg (.var 6) (.idx (.idx (.var 1) (.var 3)) (.idx (.idx (.var 0) (.var 4)) (.var 5))), .ite (.cmp .NotEq (.var 6) (.idx (.idx (.var 0) (.idx (.idx (.var 1) (.var 3)) (.var 4))) (.idx (.idx (.var 1) (.var 3)) (.var 5)))) [.ret (.tup [(.var 3), (.var 4), (.var 5)])] []]
def l_spread_fault_0 : CS := .for_ (.var 5) "range" [(.var 2)] w_spread_fault_0
def w_spread_fault_1 : List CS := [l_spread_fault_0]
def l_spread_fault_1 : CS := .for_ (.var 4) "range" [(.var 2)] w_spread_fault_1
def w_spread_fault_2 : List CS := [l_spread_fault_1]
def l_spread_fault_2 : CS := .for_ (.var 3) "range" [(.var 2)] w_spread_fault_2
def b_spread_fault : List CS :=
  [l_spread_fault_2, .ret (.cst .non)]
def f_spread_fault : Fn := ⟨3, 7, ["plus_grid", "times_grid", "size"], b_spread_fault⟩
def N_table_fault : List PySem.Str := ["value", "size", "faults", "word", "place"]
def w_table_fault_0 : List CS := [.ite (.cmp .IsNot (.var 4) (.cst .non)) [.ret (.tup [(.var 3), (.var 4)])] []]
def l_table_fault_0 : CS := .for_ (.tup [(.var 3), (.var 4)]) "" [(.var 2)] w_table_fault_0
def b_table_fault : List CS :=
  [.ite (.not (.call "has_table_form" [(.var 0)])) [.ret (.tup [(.cst (.str [102, 111, 114, 109]))])] [], .asg (.var 1) (.bi "len" [(.idx (.var 0) (.cst (.int 1)))]), .asg (.var 2) (.lst [(.tup [(.cst (.str [112, 108, 117, 115, 32, 122, 101, 114, 111])), (.call "unit_fault" [(.idx (.idx (.var 0) (.cst (.int 1))) (.cst (.int 0)))])]), (.tup [(.cst (.str [112, 108, 117, 115, 32, 116, 117, 114, 110, 101, 100])), (.call "turn_fault" [(.idx (.var 0) (.cst (.int 1))), (.var 1)])]), (.tup [(.cst (.str [112, 108, 117, 115, 32, 103, 114, 111, 117, 112, 101, 100])), (.call "group_fault" [(.idx (.var 0) (.cst (.int 1))), (.var 1)])]), (.tup [(.cst (.str [116, 105, 109, 101, 115, 32, 111, 110, 101])), (.call "unit_fault" [(.idx (.idx (.var 0) (.cst (.int 2))) (.bi "min" [(.cst (.int 1)), (.bin .Sub (.var 1) (.cst (.int 1)))]))])]), (.tup [(.cst (.str [116, 105, 109, 101, 115, 32, 116, 117, 114, 110, 101, 100])), (.call "turn_fault" [(.idx (.var 0) (.cst (.int 2))), (.var 1)])]), (.tup [(.cst (.str [116, 105, 109, 101, 115, 32, 103, 114, 111, 117, 112, 101, 100])), (.call "group_fault" [(.idx (.var 0) (.cst (.int 2))), (.var 1)])]), (.tup [(.cst (.str [116, 105, 109, 101, 115, 32, 122, 101, 114, 111])), (.call "zero_fault" [(.idx (.idx (.var 0) (.cst (.int 2))) (.cst (.int 0)))])]), (.tup [(.cst (.str [100, 105, 115, 116, 114, 105, 98, 117, 116, 101, 115])), (.call "spread_fault" [(.idx (.var 0) (.cst (.int 1))), (.idx (.var 0) (.cst (.int 2))), (.var 1)])])]), l_table_fault_0, .ret (.cst .non)]
def f_table_fault : Fn := ⟨1, 5, ["value"], b_table_fault⟩
def N_is_semiring : List PySem.Str := ["value"]
def b_is_semiring : List CS :=
  [.ite (.or (.not (.isi (.var 0) ["tuple"])) (.or (.not (.var 0)) (.not (.isi (.idx (.var 0) (.cst (.int 0))) ["str"])))) [.ret (.cst (.bl false))] [], .ite (.cmp .In (.idx (.var 0) (.cst (.int 0))) (.tup [(.cst (.str [116, 114, 117, 116, 104])), (.cst (.str [99, 111, 117, 110, 116])), (.cst (.str [99, 111, 115, 116]))])) [.ret (.cmp .Eq (.bi "len" [(.var 0)]) (.cst (.int 1)))] [], .ite (.cmp .Eq (.idx (.var 0) (.cst (.int 0))) (.cst (.str [108, 101, 118, 101, 108]))) [.ret (.and (.cmp .Eq (.bi "len" [(.var 0)]) (.cst (.int 2))) (.and (.call "is_integer" [(.idx (.var 0) (.cst (.int 1)))]) (.chn .LtE .LtE (.cst (.int 1)) (.idx (.var 0) (.cst (.int 1))) (.cst (.int 9)))))] [], .ite (.cmp .Eq (.idx (.var 0) (.cst (.int 0))) (.cst (.str [102, 114, 101, 101]))) [.ret (.and (.cmp .Eq (.bi "len" [(.var 0)]) (.cst (.int 2))) (.call "is_kind" [(.idx (.var 0) (.cst (.int 1)))]))] [], .ret (.and (.cmp .Eq (.idx (.var 0) (.cst (.int 0))) (.cst (.str [116, 97, 98, 108, 101]))) (.cmp .Is (.call "table_fault" [(.var 0)]) (.cst .non)))]
def f_is_semiring : Fn := ⟨1, 1, ["value"], b_is_semiring⟩
def N_check_semiring : List PySem.Str := ["semiring"]
def b_check_semiring : List CS :=
  [.ite (.not (.call "is_semiring" [(.var 0)])) [.raise "InvalidSemiring" none] []]
def f_check_semiring : Fn := ⟨1, 1, ["semiring"], b_check_semiring⟩
def N_fits : List PySem.Str := ["semiring", "value", "word"]
def b_fits : List CS :=
  [.asg (.var 2) (.idx (.var 0) (.cst (.int 0))), .ite (.cmp .Eq (.var 2) (.cst (.str [116, 114, 117, 116, 104]))) [.ret (.isi (.var 1) ["bool"])] [], .ite (.cmp .Eq (.var 2) (.cst (.str [102, 114, 101, 101]))) [.ret .bad] [], .ite (.and (.cmp .Eq (.var 2) (.cst (.str [99, 111, 115, 116]))) (.cmp .Is (.var 1) (.cst .non))) [.ret (.cst (.bl true))] [], .ite (.or (.not (.call "is_integer" [(.var 1)])) (.cmp .Lt (.var 1) (.cst (.int 0)))) [.ret (.cst (.bl false))] [], .ite (.cmp .Eq (.var 2) (.cst (.str [108, 101, 118, 101, 108]))) [.ret (.cmp .LtE (.var 1) (.idx (.var 0) (.cst (.int 1))))] [], .ite (.cmp .Eq (.var 2) (.cst (.str [116, 97, 98, 108, 101]))) [.ret (.cmp .Lt (.var 1) (.bi "len" [(.idx (.var 0) (.cst (.int 1)))]))] [], .ret (.cst (.bl true))]
def f_fits : Fn := ⟨2, 3, ["semiring", "value"], b_fits⟩
def N_check_weight : List PySem.Str := ["semiring", "weight"]
def b_check_weight : List CS :=
  [.ite (.not (.call "fits" [(.var 0), (.var 1)])) [.raise "InvalidWeight" none] []]
def f_check_weight : Fn := ⟨2, 2, ["semiring", "weight"], b_check_weight⟩
def N_zero_in : List PySem.Str := ["semiring", "word"]
def b_zero_in : List CS :=
  [.asg (.var 1) (.idx (.var 0) (.cst (.int 0))), .ite (.cmp .Eq (.var 1) (.cst (.str [116, 114, 117, 116, 104]))) [.ret (.cst (.bl false))] [], .ite (.cmp .Eq (.var 1) (.cst (.str [99, 111, 115, 116]))) [.ret (.cst .non)] [], .ite (.cmp .Eq (.var 1) (.cst (.str [102, 114, 101, 101]))) [.ret .bad] [], .ret (.cst (.int 0))]
def f_zero_in : Fn := ⟨1, 2, ["semiring"], b_zero_in⟩
def N_plus_in : List PySem.Str := ["semiring", "weight", "other", "word"]
def b_plus_in : List CS :=
  [.asg (.var 3) (.idx (.var 0) (.cst (.int 0))), .ite (.cmp .Eq (.var 3) (.cst (.str [116, 114, 117, 116, 104]))) [.ret (.or (.var 1) (.var 2))] [], .ite (.cmp .Eq (.var 3) (.cst (.str [99, 111, 117, 110, 116]))) [.ret (.bin .Add (.var 1) (.var 2))] [], .ite (.cmp .Eq (.var 3) (.cst (.str [99, 111, 115, 116]))) [.ite (.cmp .Is (.var 1) (.cst .non)) [.ret (.var 2)] [], .ite (.cmp .Is (.var 2) (.cst .non)) [.ret (.var 1)] [], .ret (.bi "min" [(.var 1), (.var 2)])] [], .ite (.cmp .Eq (.var 3) (.cst (.str [108, 101, 118, 101, 108]))) [.ret (.bi "max" [(.var 1), (.var 2)])] [], .ite (.cmp .Eq (.var 3) (.cst (.str [116, 97, 98, 108, 101]))) [.ret (.idx (.idx (.idx (.var 0) (.cst (.int 1))) (.var 1)) (.var 2))] [], .ret .bad]
def f_plus_in : Fn := ⟨3, 4, ["semiring", "weight", "other"], b_plus_in⟩
def N_times_in : List PySem.Str := ["semiring", "weight", "other", "word"]
def b_times_in : List CS :=
  [.asg (.var 3) (.idx (.var 0) (.cst (.int 0))), .ite (.cmp .Eq (.var 3) (.cst (.str [116, 114, 117, 116, 104]))) [.ret (.and (.var 1) (.var 2))] [], .ite (.cmp .Eq (.var 3) (.cst (.str [99, 111, 117, 110, 116]))) [.ret (.bin .Mult (.var 1) (.var 2))] [], .ite (.cmp .Eq (.var 3) (.cst (.str [99, 111, 115, 116]))) [.ite (.or (.cmp .Is (.var 1) (.cst .non)) (.cmp .Is (.var 2) (.cst .non))) [.ret (.cst .non)] [], .ret (.bin .Add (.var 1) (.var 2))] [], .ite (.cmp .Eq (.var 3) (.cst (.str [108, 101, 118, 101, 108]))) [.ret (.bi "min" [(.var 1), (.var 2)])] [], .ite (.cmp .Eq (.var 3) (.cst (.str [116, 97, 98, 108, 101]))) [.ret (.idx (.idx (.idx (.var 0) (.cst (.int 2))) (.var 1)) (.var 2))] [], .ret .bad]
def f_times_in : Fn := ⟨3, 4, ["semiring", "weight", "other"], b_times_in⟩
def N_at_most_in : List PySem.Str := ["semiring", "weight", "other", "word"]
def b_at_most_in : List CS :=
  [.asg (.var 3) (.idx (.var 0) (.cst (.int 0))), .ite (.cmp .Eq (.var 3) (.cst (.str [116, 114, 117, 116, 104]))) [.ret (.or (.var 2) (.not (.var 1)))] [], .ite (.cmp .Eq (.var 3) (.cst (.str [99, 111, 115, 116]))) [.ite (.cmp .Is (.var 1) (.cst .non)) [.ret (.cst (.bl true))] [], .ret (.and (.cmp .IsNot (.var 2) (.cst .non)) (.cmp .LtE (.var 2) (.var 1)))] [], .ite (.cmp .Eq (.var 3) (.cst (.str [116, 97, 98, 108, 101]))) [.ret (.cmp .In (.var 2) (.idx (.idx (.var 0) (.cst (.int 1))) (.var 1)))] [], .ite (.cmp .Eq (.var 3) (.cst (.str [102, 114, 101, 101]))) [.ret .bad] [], .ret (.cmp .LtE (.var 1) (.var 2))]
def f_at_most_in : Fn := ⟨3, 4, ["semiring", "weight", "other"], b_at_most_in⟩
def N_zero_of : List PySem.Str := ["semiring"]
def b_zero_of : List CS :=
  [.expr (.call "check_semiring" [(.var 0)]), .ret (.call "zero_in" [(.var 0)])]
def f_zero_of : Fn := ⟨1, 1, ["semiring"], b_zero_of⟩
def N_check_two : List PySem.Str := ["semiring", "weight", "other_weight"]
def b_check_two : List CS :=
  [.expr (.call "check_semiring" [(.var 0)]), .expr (.call "check_weight" [(.var 0), (.var 1)]), .expr (.call "check_weight" [(.var 0), (.var 2)])]
def f_check_two : Fn := ⟨3, 3, ["semiring", "weight", "other_weight"], b_check_two⟩
def N_plus : List PySem.Str := ["semiring", "weight", "other_weight"]
def b_plus : List CS :=
  [.expr (.call "check_two" [(.var 0), (.var 1), (.var 2)]), .ret (.call "plus_in" [(.var 0), (.var 1), (.var 2)])]
def f_plus : Fn := ⟨3, 3, ["semiring", "weight", "other_weight"], b_plus⟩
def N_times : List PySem.Str := ["semiring", "weight", "other_weight"]
def b_times : List CS :=
  [.expr (.call "check_two" [(.var 0), (.var 1), (.var 2)]), .ret (.call "times_in" [(.var 0), (.var 1), (.var 2)])]
def f_times : Fn := ⟨3, 3, ["semiring", "weight", "other_weight"], b_times⟩
def N_at_most : List PySem.Str := ["semiring", "weight", "other_weight"]
def b_at_most : List CS :=
  [.expr (.call "check_two" [(.var 0), (.var 1), (.var 2)]), .ret (.call "at_most_in" [(.var 0), (.var 1), (.var 2)])]
def f_at_most : Fn := ⟨3, 3, ["semiring", "weight", "other_weight"], b_at_most⟩
def N_has_list : List PySem.Str := ["semiring"]
def b_has_list : List CS :=
  [.ret (.cmp .In (.idx (.var 0) (.cst (.int 0))) (.tup [(.cst (.str [116, 114, 117, 116, 104])), (.cst (.str [108, 101, 118, 101, 108])), (.cst (.str [116, 97, 98, 108, 101]))]))]
def f_has_list : Fn := ⟨1, 1, ["semiring"], b_has_list⟩
def N_weights_in : List PySem.Str := ["semiring"]
def b_weights_in : List CS :=
  [.ite (.cmp .Eq (.idx (.var 0) (.cst (.int 0))) (.cst (.str [116, 114, 117, 116, 104]))) [.ret (.tup [(.cst (.bl false)), (.cst (.bl true))])] [], .ite (.cmp .Eq (.idx (.var 0) (.cst (.int 0))) (.cst (.str [108, 101, 118, 101, 108]))) [.ret (.trng (.bin .Add (.idx (.var 0) (.cst (.int 1))) (.cst (.int 1))))] [], .ret (.trng (.bi "len" [(.idx (.var 0) (.cst (.int 1)))]))]
def f_weights_in : Fn := ⟨1, 1, ["semiring"], b_weights_in⟩
def N_all_weights : List PySem.Str := ["semiring"]
def b_all_weights : List CS :=
  [.expr (.call "check_semiring" [(.var 0)]), .ite (.not (.call "has_list" [(.var 0)])) [.raise "InvalidSemiring" none] [], .ret (.call "weights_in" [(.var 0)])]
def f_all_weights : Fn := ⟨1, 1, ["semiring"], b_all_weights⟩
def N_table_identities : List PySem.Str := ["semiring", "size", "one", "found", "a"]
def q_table_identities_0 : CE := (.comp (.cmp .Eq (.idx (.idx (.idx (.var 0) (.cst (.int 1))) (.var 4)) (.var 4)) (.var 4)) (.var 4) "range" [(.var 1)] [] [4] 5)
def q_table_identities_1 : CE := (.comp (.cmp .Eq (.idx (.idx (.idx (.var 0) (.cst (.int 2))) (.var 4)) (.var 4)) (.var 4)) (.var 4) "range" [(.var 1)] [] [4] 5)
def q_table_identities_2 : CE := (.comp (.cmp .Eq (.idx (.idx (.idx (.var 0) (.cst (.int 1))) (.var 4)) (.var 2)) (.var 2)) (.var 4) "range" [(.var 1)] [] [4] 5)
def b_table_identities : List CS :=
  [.asg (.var 1) (.bi "len" [(.idx (.var 0) (.cst (.int 1)))]), .asg (.var 2) (.bi "min" [(.cst (.int 1)), (.bin .Sub (.var 1) (.cst (.int 1)))]), .asg (.var 3) (.lst []), .ite (.bi "all" [q_table_identities_0]) [.expr (.mth (.var 3) "append" [(.cst (.str [115, 117, 109]))])] [], .ite (.bi "all" [q_table_identities_1]) [.expr (.mth (.var 3) "append" [(.cst (.str [115, 113, 117, 97, 114, 101]))])] [], .ite (.bi "all" [q_table_identities_2]) [.expr (.mth (.var 3) "append" [(.cst (.str [97, 98, 115, 111, 114, 98]))])] [], .ret (.bi "tuple" [(.var 3)])]
def f_table_identities : Fn := ⟨1, 5, ["semiring"], b_table_identities⟩
def N_identities_in : List PySem.Str := ["semiring", "word"]
def b_identities_in : List CS :=
  [.asg (.var 1) (.idx (.var 0) (.cst (.int 0))), .ite (.cmp .Eq (.var 1) (.cst (.str [99, 111, 117, 110, 116]))) [.ret (.tup [])] [], .ite (.cmp .Eq (.var 1) (.cst (.str [99, 111, 115, 116]))) [.ret (.tup [(.cst (.str [115, 117, 109])), (.cst (.str [97, 98, 115, 111, 114, 98]))])] [], .ite (.cmp .Eq (.var 1) (.cst (.str [102, 114, 101, 101]))) [.ret (.gix "FREE_IDENTITIES" (.idx (.var 0) (.cst (.int 1))))] [], .ite (.cmp .Eq (.var 1) (.cst (.str [116, 97, 98, 108, 101]))) [.ret (.call "table_identities" [(.var 0)])] [], .ret (.glo "ALL_IDENTITIES")]
def f_identities_in : Fn := ⟨1, 2, ["semiring"], b_identities_in⟩
def N_identities : List PySem.Str := ["semiring"]
def b_identities : List CS :=
  [.expr (.call "check_semiring" [(.var 0)]), .ret (.call "identities_in" [(.var 0)])]
def f_identities : Fn := ⟨1, 1, ["semiring"], b_identities⟩
def N_law_pool : List PySem.Str := ["script", "k", "total", "at", "cell", "mixed"]
def w_law_pool_0 : List CS := [.asg (.var 2) (.bin .Mod (.bi "int" [(.bin .Add (.bin .Add (.bin .Mult (.var 2) (.cst (.int 31))) (.bin .Mult (.var 4) (.bin .Add (.bin .Mult (.cst (.int 2)) (.var 3)) (.cst (.int 3))))) (.var 3))]) (.cst (.int 2147483587)))]
def l_law_pool_0 : CS := .for_ (.tup [(.var 3), (.var 4)]) "enumerate" [(.slc (.var 0) none (some (.cst (.int 63))))] w_law_pool_0
def b_law_pool : List CS :=
  [.asg (.var 2) (.cst (.int 1)), l_law_pool_0, .asg (.var 4) (.bin .Add (.bin .Mult (.var 2) (.cst (.int 7))) (.var 1)), .ite (.cmp .Lt (.var 1) (.bi "len" [(.var 0)])) [.asg (.var 4) (.bi "abs" [(.idx (.var 0) (.var 1))])] [], .asg (.var 5) (.bin .Mod (.bi "int" [(.bin .Add (.bin .Add (.bin .Add (.bin .Mult (.var 4) (.cst (.int 48271))) (.bin .Mult (.var 2) (.cst (.int 69621)))) (.bin .Mult (.var 1) (.cst (.int 7919)))) (.cst (.int 5)))]) (.cst (.int 2147483647))), .ite (.cmp .Lt (.var 4) (.bin .Pow (.cst (.int 10)) (.cst (.int 18)))) [.asg (.var 4) (.cst (.int 0))] [], .ret (.lst [(.var 4), (.var 5), (.var 1)])]
def f_law_pool : Fn := ⟨2, 6, ["script", "k"], b_law_pool⟩
def N_law_pull : List PySem.Str := ["pool", "limit", "drawn"]
def b_law_pull : List CS :=
  [.six (.var 0) (.cst (.int 2)) (.bin .Add (.idx (.var 0) (.cst (.int 2))) (.cst (.int 1))), .ite (.cmp .Gt (.idx (.var 0) (.cst (.int 0))) (.cst (.int 0))) [.asg (.var 2) (.bin .Mod (.bi "int" [(.idx (.var 0) (.cst (.int 0)))]) (.var 1)), .six (.var 0) (.cst (.int 0)) (.bin .FloorDiv (.bi "int" [(.idx (.var 0) (.cst (.int 0)))]) (.var 1)), .ret (.var 2)] [], .six (.var 0) (.cst (.int 1)) (.bin .Mod (.bi "int" [(.bin .Add (.bin .Add (.bin .Mult (.idx (.var 0) (.cst (.int 1))) (.cst (.int 16807))) (.bin .Mult (.bin .Mult (.idx (.var 0) (.cst (.int 2))) (.idx (.var 0) (.cst (.int 2)))) (.cst (.int 40692)))) (.cst (.int 977)))]) (.cst (.int 2147483629))), .ret (.bin .Mod (.bin .FloorDiv (.bi "int" [(.bin .Mod (.bin .Mult (.idx (.var 0) (.cst (.int 1))) (.cst (.int 1583458089))) (.cst (.int 2147483587)))]) (.cst (.int 11))) (.var 1))]
def f_law_pull : Fn := ⟨2, 3, ["pool", "limit"], b_law_pull⟩
def N_law_cell : List PySem.Str := ["which", "size", "a", "b", "rank", "low", "sets", "squares", "k"]
def q_law_cell_0 : CE := (.comp (.var 8) (.var 8) "range" [(.cst (.int 1)), (.var 1)] [] [8] 9)
def b_law_cell : List CS :=
  [.ite (.cmp .Eq (.var 0) (.cst (.int 0))) [.asg (.var 4) (.bin .Add (.lst [(.cst (.int 0)), (.var 1)]) q_law_cell_0), .ret (.ite (.cmp .Eq (.var 2) (.var 3)) (.tup [(.var 2), (.var 2)]) (.ite (.cmp .Gt (.idx (.var 4) (.var 2)) (.idx (.var 4) (.var 3))) (.tup [(.var 2), (.var 3)]) (.tup [(.var 3), (.var 2)])))] [], .ite (.cmp .Eq (.var 0) (.cst (.int 1))) [.ret (.tup [(.bin .Mod (.bi "int" [(.bin .Add (.var 2) (.var 3))]) (.var 1)), (.bin .Mod (.bi "int" [(.bin .Mult (.var 2) (.var 3))]) (.var 1))])] [], .ite (.cmp .Eq (.var 0) (.cst (.int 2))) [.ret (.tup [(.bi "min" [(.bin .Add (.var 2) (.var 3)), (.bin .Sub (.var 1) (.cst (.int 1)))]), (.bi "min" [(.bin .Mult (.var 2) (.var 3)), (.bin .Sub (.var 1) (.cst (.int 1)))])])] [], .ite (.or (.cmp .Eq (.var 0) (.cst (.int 3))) (.cmp .Eq (.var 0) (.cst (.int 4)))) [.asg (.var 5) (.ite (.cmp .Gt (.bi "min" [(.var 2), (.var 3)]) (.cst (.int 0))) (.bi "min" [(.var 2), (.var 3)]) (.bi "max" [(.var 2), (.var 3)])), .ite (.cmp .Eq (.bi "min" [(.var 2), (.var 3)]) (.cst (.int 0))) [.ret (.tup [(.var 5), (.cst (.int 0))])] [], .ite (.cmp .Lt (.bin .Sub (.bin .Add (.var 2) (.var 3)) (.cst (.int 1))) (.var 1)) [.ret (.tup [(.var 5), (.bin .Sub (.bin .Add (.var 2) (.var 3)) (.cst (.int 1)))])] [], .ret (.tup [(.var 5), (.ite (.cmp .Eq (.var 0) (.cst (.int 3))) (.cst (.int 0)) (.bin .Sub (.var 1) (.cst (.int 1))))])] [], .ite (.cmp .Eq (.var 0) (.cst (.int 5))) [.ret (.tup [(.bi "max" [(.var 2), (.var 3)]), (.ite (.cmp .Gt (.bi "min" [(.var 2), (.var 3)]) (.cst (.int 0))) (.bi "max" [(.var 2), (.var 3)]) (.cst (.int 0)))])] [], .ite (.cmp .Eq (.var 0) (.cst (.int 6))) [.asg (.var 6) (.lst [(.cst (.int 0)), (.cst (.int 3)), (.cst (.int 1)), (.cst (.int 2))]), .ret (.tup [(.mth (.var 6) "index" [(.bin .BitOr (.idx (.var 6) (.var 2)) (.idx (.var 6) (.var 3)))]), (.mth (.var 6) "index" [(.bin .BitAnd (.idx (.var 6) (.var 2)) (.idx (.var 6) (.var 3)))])])] [], .asg (.var 7) (.lst [(.lst [(.cst (.int 0)), (.cst (.int 0)), (.cst (.int 0)), (.cst (.int 0))]), (.lst [(.cst (.int 0)), (.cst (.int 1)), (.cst (.int 2)), (.cst (.int 3))]), (.lst [(.cst (.int 0)), (.cst (.int 2)), (.cst (.int 0)), (.cst (.int 2))]), (.lst [(.cst (.int 0)), (.cst (.int 3)), (.cst (.int 2)), (.cst (.int 1))])]), .ite (.cmp .Eq (.var 0) (.cst (.int 8))) [.asg (.var 7) (.lst [(.lst [(.cst (.int 0)), (.cst (.int 0)), (.cst (.int 0)), (.cst (.int 0))]), (.lst [(.cst (.int 0)), (.cst (.int 1)), (.cst (.int 2)), (.cst (.int 3))]), (.lst [(.cst (.int 0)), (.cst (.int 2)), (.cst (.int 3)), (.cst (.int 1))]), (.lst [(.cst (.int 0)), (.cst (.int 3)), (.cst (.int 1)), (.cst (.int 2))])])] [], .ret (.tup [(.bin .BitXor (.var 2) (.var 3)), (.idx (.idx (.var 7) (.var 2)) (.var 3))])]
def f_law_cell : Fn := ⟨4, 9, ["which", "size", "a", "b"], b_law_cell⟩
def N_law_table : List PySem.Str := ["pool", "which", "size", "turned", "k", "sums", "products", "a", "cells", "b", "cell"]
def w_law_table_0 : List CS := [.expr (.mth (.var 3) "insert" [(.bin .Add (.cst (.int 2)) (.call "_law_pull" [(.var 0), (.bin .Sub (.var 4) (.cst (.int 1)))])), (.var 4)])]
def l_law_table_0 : CS := .for_ (.var 4) "range" [(.cst (.int 2)), (.var 2)] w_law_table_0
def q_law_table_0 : CE := (.comp (.call "_law_cell" [(.var 1), (.var 2), (.idx (.var 3) (.var 7)), (.idx (.var 3) (.var 9))]) (.var 9) "range" [(.var 2)] [] [9] 11)
def q_law_table_1 : CE := (.comp (.mth (.var 3) "index" [(.idx (.var 10) (.cst (.int 0)))]) (.var 10) "" [(.var 8)] [] [10] 11)
def q_law_table_2 : CE := (.comp (.mth (.var 3) "index" [(.idx (.var 10) (.cst (.int 1)))]) (.var 10) "" [(.var 8)] [] [10] 11)
def w_law_table_1 : List CS := [.asg (.var 8) q_law_table_0, .expr (.mth (.var 5) "append" [(.bi "tuple" [q_law_table_1])]), .expr (.mth (.var 6) "append" [(.bi "tuple" [q_law_table_2])])]
def l_law_table_1 : CS := .for_ (.var 7) "range" [(.var 2)] w_law_table_1
def b_law_table : List CS :=
  [.asg (.var 1) (.call "_law_pull" [(.var 0), (.cst (.int 9))]), .asg (.var 2) (.cst (.int 4)), .ite (.cmp .Lt (.var 1) (.cst (.int 6))) [.asg (.var 2) (.bin .Add (.cst (.int 1)) (.call "_law_pull" [(.var 0), (.cst (.int 6))]))] [], .ite (.and (.cmp .Eq (.var 1) (.cst (.int 0))) (.cmp .Lt (.var 2) (.cst (.int 2)))) [.asg (.var 2) (.cst (.int 2))] [], .asg (.var 3) (.lst [(.cst (.int 0)), (.cst (.int 1))]), l_law_table_0, .asg (.var 5) (.lst []), .asg (.var 6) (.lst []), l_law_table_1, .ret (.tup [(.cst (.str [116, 97, 98, 108, 101])), (.bi "tuple" [(.var 5)]), (.bi "tuple" [(.var 6)])])]
def f_law_table : Fn := ⟨1, 11, ["pool"], b_law_table⟩
def N_law_large : List PySem.Str := ["pool", "number", "k"]
def w_law_large_0 : List CS := [.asg (.var 1) (.bin .Add (.bin .Mult (.var 1) (.bin .Pow (.cst (.int 10)) (.cst (.int 6)))) (.call "_law_pull" [(.var 0), (.bin .Pow (.cst (.int 10)) (.cst (.int 6)))]))]
def l_law_large_0 : CS := .for_ (.var 2) "range" [(.call "_law_pull" [(.var 0), (.cst (.int 9))])] w_law_large_0
def b_law_large : List CS :=
  [.asg (.var 1) (.call "_law_pull" [(.var 0), (.cst (.int 10))]), .ite (.cmp .Eq (.call "_law_pull" [(.var 0), (.cst (.int 3))]) (.cst (.int 0))) [l_law_large_0] [], .ret (.var 1)]
def f_law_large : Fn := ⟨1, 3, ["pool"], b_law_large⟩
def N_law_weight : List PySem.Str := ["pool", "semiring"]
def b_law_weight : List CS :=
  [.ite (.cmp .Eq (.idx (.var 1) (.cst (.int 0))) (.cst (.str [116, 114, 117, 116, 104]))) [.ret (.cmp .Eq (.call "_law_pull" [(.var 0), (.cst (.int 2))]) (.cst (.int 1)))] [], .ite (.cmp .Eq (.idx (.var 1) (.cst (.int 0))) (.cst (.str [108, 101, 118, 101, 108]))) [.ret (.call "_law_pull" [(.var 0), (.bin .Add (.idx (.var 1) (.cst (.int 1))) (.cst (.int 1)))])] [], .ite (.cmp .Eq (.idx (.var 1) (.cst (.int 0))) (.cst (.str [116, 97, 98, 108, 101]))) [.ret (.call "_law_pull" [(.var 0), (.bi "len" [(.idx (.var 1) (.cst (.int 1)))])])] [], .ite (.and (.cmp .Eq (.idx (.var 1) (.cst (.int 0))) (.cst (.str [99, 111, 115, 116]))) (.cmp .Eq (.call "_law_pull" [(.var 0), (.cst (.int 5))]) (.cst (.int 0)))) [.ret (.cst .non)] [], .ret (.call "_law_large" [(.var 0)])]
def f_law_weight : Fn := ⟨2, 2, ["pool", "semiring"], b_law_weight⟩
def N_law_below : List PySem.Str := ["semiring", "row", "found", "a", "b", "told"]
def w_law_below_0 : List CS := [.asg (.var 5) (.call "at_most" [(.var 0), (.var 3), (.var 4)]), .ite (.not (.isi (.var 5) ["bool"])) [.ret (.cst .non)] [], .sixT (.var 2) [(.bi "str" [(.var 3)]), (.bi "str" [(.var 4)])] (.var 5)]
def l_law_below_0 : CS := .for_ (.var 4) "" [(.var 1)] w_law_below_0
def w_law_below_1 : List CS := [l_law_below_0]
def l_law_below_1 : CS := .for_ (.var 3) "" [(.var 1)] w_law_below_1
def b_law_below : List CS :=
  [.asg (.var 2) .dctN, l_law_below_1, .ret (.var 2)]
def f_law_below : Fn := ⟨2, 6, ["semiring", "row"], b_law_below⟩
def N_law_order : List PySem.Str := ["semiring", "row", "below", "zero", "a", "b", "c"]
def w_law_order_0 : List CS := [.ite (.and (.idx (.var 2) (.tup [(.bi "str" [(.var 4)]), (.bi "str" [(.var 5)])])) (.and (.idx (.var 2) (.tup [(.bi "str" [(.var 5)]), (.bi "str" [(.var 6)])])) (.not (.idx (.var 2) (.tup [(.bi "str" [(.var 4)]), (.bi "str" [(.var 6)])]))))) [.ret (.cst (.bl false))] [], .ite (.idx (.var 2) (.tup [(.bi "str" [(.var 4)]), (.bi "str" [(.var 5)])])) [.ite (.not (.call "at_most" [(.var 0), (.call "plus" [(.var 0), (.var 4), (.var 6)]), (.call "plus" [(.var 0), (.var 5), (.var 6)])])) [.ret (.cst (.bl false))] [], .ite (.not (.call "at_most" [(.var 0), (.call "times" [(.var 0), (.var 4), (.var 6)]), (.call "times" [(.var 0), (.var 5), (.var 6)])])) [.ret (.cst (.bl false))] []] []]
def l_law_order_0 : CS := .for_ (.var 6) "" [(.var 1)] w_law_order_0
def w_law_order_1 : List CS := [l_law_order_0]
def l_law_order_1 : CS := .for_ (.var 5) "" [(.var 1)] w_law_order_1
def w_law_order_2 : List CS := [.ite (.or (.not (.idx (.var 2) (.tup [(.bi "str" [(.var 4)]), (.bi "str" [(.var 4)])]))) (.not (.call "at_most" [(.var 0), (.var 3), (.var 4)]))) [.ret (.cst (.bl false))] [], l_law_order_1]
def l_law_order_2 : CS := .for_ (.var 4) "" [(.var 1)] w_law_order_2
def b_law_order : List CS :=
  [.asg (.var 2) (.call "_law_below" [(.var 0), (.var 1)]), .ite (.cmp .Is (.var 2) (.cst .non)) [.ret (.cst (.bl false))] [], .asg (.var 3) (.call "zero_of" [(.var 0)]), l_law_order_2, .ret (.cst (.bl true))]
def f_law_order : Fn := ⟨2, 7, ["semiring", "row"], b_law_order⟩
def N_law_by_sums : List PySem.Str := ["semiring", "row", "summed", "a", "b", "told", "some", "c"]
def w_law_by_sums_0 : List CS := [.ite (.cmp .Eq (.call "plus" [(.var 0), (.var 3), (.var 7)]) (.var 4)) [.asg (.var 6) (.cst (.bl true))] []]
def l_law_by_sums_0 : CS := .for_ (.var 7) "" [(.var 1)] w_law_by_sums_0
def w_law_by_sums_1 : List CS := [.asg (.var 5) (.call "at_most" [(.var 0), (.var 3), (.var 4)]), .asg (.var 6) (.cst (.bl false)), l_law_by_sums_0, .ite (.or (.cmp .NotEq (.var 5) (.var 6)) (.and (.var 2) (.cmp .NotEq (.var 5) (.cmp .Eq (.call "plus" [(.var 0), (.var 3), (.var 4)]) (.var 4))))) [.ret (.cst (.bl false))] []]
def l_law_by_sums_1 : CS := .for_ (.var 4) "" [(.var 1)] w_law_by_sums_1
def w_law_by_sums_2 : List CS := [l_law_by_sums_1]
def l_law_by_sums_2 : CS := .for_ (.var 3) "" [(.var 1)] w_law_by_sums_2
def b_law_by_sums : List CS :=
  [.asg (.var 2) (.cmp .In (.cst (.str [115, 117, 109])) (.call "identities" [(.var 0)])), l_law_by_sums_2, .ret (.cst (.bl true))]
def f_law_by_sums : Fn := ⟨2, 8, ["semiring", "row"], b_law_by_sums⟩
def N_law : List PySem.Str := ["script", "k", "pool", "semiring", "row", "start", "plain", "at"]
def q_law_0 : CE := (.comp (.call "_law_weight" [(.var 2), (.var 6)]) (.var 7) "range" [(.cst (.int 4))] [] [7] 8)
def w_law_0 : List CS := [.asg (.var 2) (.call "_law_pool" [(.var 0), (.var 1)]), .asg (.var 3) (.idx (.lst [(.tup [(.cst (.str [116, 114, 117, 116, 104]))]), (.tup [(.cst (.str [108, 101, 118, 101, 108])), (.bin .Add (.cst (.int 1)) (.call "_law_pull" [(.var 2), (.cst (.int 6))]))])]) (.call "_law_pull" [(.var 2), (.cst (.int 2))])), .ite (.cmp .Gt (.call "_law_pull" [(.var 2), (.cst (.int 4))]) (.cst (.int 0))) [.asg (.var 3) (.call "_law_table" [(.var 2)])] [], .asg (.var 4) (.bi "list" [(.call "all_weights" [(.var 3)])]), .ite (.or (.cmp .Gt (.bi "len" [(.var 4)]) (.cst (.int 7))) (.cmp .Lt (.bi "len" [(.var 4)]) (.cst (.int 1)))) [.ret (.cst (.bl false))] [], .asg (.var 5) (.call "_law_pull" [(.var 2), (.bi "len" [(.var 4)])]), .ite (.or (.not (.call "_law_order" [(.var 3), (.slc (.bin .Add (.slc (.var 4) (some (.var 5)) none) (.slc (.var 4) none (some (.var 5)))) none (some (.cst (.int 3))))])) (.not (.call "_law_by_sums" [(.var 3), (.var 4)]))) [.ret (.cst (.bl false))] [], .asg (.var 6) (.idx (.lst [(.tup [(.cst (.str [99, 111, 115, 116]))]), (.tup [(.cst (.str [99, 111, 117, 110, 116]))])]) (.call "_law_pull" [(.var 2), (.cst (.int 2))])), .ite (.not (.call "_law_order" [(.var 6), q_law_0])) [.ret (.cst (.bl false))] []]
def l_law_0 : CS := .for_ (.var 1) "range" [(.bi "max" [(.cst (.int 1)), (.bi "min" [(.bi "len" [(.var 0)]), (.cst (.int 4))])])] w_law_0
def b_law : List CS :=
  [l_law_0, .ret (.cst (.bl true))]
def f_law : Fn := ⟨1, 8, ["script"], b_law⟩
def top (i : Nat) : PySem.Stmt := PySem.Challenge.pw_sourceweights_k05_order_of_weights.main.body.getD i (.Pass ⟨0, 0, 0, 0⟩)
def e_is_integer : FnE := ⟨"is_integer", f_is_integer, top 3, N_is_integer⟩
def e_is_kind : FnE := ⟨"is_kind", f_is_kind, top 34, N_is_kind⟩
def e_is_grid : FnE := ⟨"is_grid", f_is_grid, top 39, N_is_grid⟩
def e_has_table_form : FnE := ⟨"has_table_form", f_has_table_form, top 40, N_has_table_form⟩
def e_unit_fault : FnE := ⟨"unit_fault", f_unit_fault, top 41, N_unit_fault⟩
def e_zero_fault : FnE := ⟨"zero_fault", f_zero_fault, top 42, N_zero_fault⟩
def e_turn_fault : FnE := ⟨"turn_fault", f_turn_fault, top 43, N_turn_fault⟩
def e_group_fault : FnE := ⟨"group_fault", f_group_fault, top 44, N_group_fault⟩
def e_spread_fault : FnE := ⟨"spread_fault", f_spread_fault, top 45, N_spread_fault⟩
def e_table_fault : FnE := ⟨"table_fault", f_table_fault, top 46, N_table_fault⟩
def e_is_semiring : FnE := ⟨"is_semiring", f_is_semiring, top 47, N_is_semiring⟩
def e_check_semiring : FnE := ⟨"check_semiring", f_check_semiring, top 48, N_check_semiring⟩
def e_fits : FnE := ⟨"fits", f_fits, top 49, N_fits⟩
def e_check_weight : FnE := ⟨"check_weight", f_check_weight, top 50, N_check_weight⟩
def e_zero_in : FnE := ⟨"zero_in", f_zero_in, top 51, N_zero_in⟩
def e_plus_in : FnE := ⟨"plus_in", f_plus_in, top 52, N_plus_in⟩
def e_times_in : FnE := ⟨"times_in", f_times_in, top 53, N_times_in⟩
def e_at_most_in : FnE := ⟨"at_most_in", f_at_most_in, top 54, N_at_most_in⟩
def e_zero_of : FnE := ⟨"zero_of", f_zero_of, top 55, N_zero_of⟩
def e_check_two : FnE := ⟨"check_two", f_check_two, top 56, N_check_two⟩
def e_plus : FnE := ⟨"plus", f_plus, top 57, N_plus⟩
def e_times : FnE := ⟨"times", f_times, top 58, N_times⟩
def e_at_most : FnE := ⟨"at_most", f_at_most, top 59, N_at_most⟩
def e_has_list : FnE := ⟨"has_list", f_has_list, top 60, N_has_list⟩
def e_weights_in : FnE := ⟨"weights_in", f_weights_in, top 61, N_weights_in⟩
def e_all_weights : FnE := ⟨"all_weights", f_all_weights, top 62, N_all_weights⟩
def e_table_identities : FnE := ⟨"table_identities", f_table_identities, top 63, N_table_identities⟩
def e_identities_in : FnE := ⟨"identities_in", f_identities_in, top 64, N_identities_in⟩
def e_identities : FnE := ⟨"identities", f_identities, top 65, N_identities⟩
def e_law_pool : FnE := ⟨"_law_pool", f_law_pool, top 67, N_law_pool⟩
def e_law_pull : FnE := ⟨"_law_pull", f_law_pull, top 68, N_law_pull⟩
def e_law_cell : FnE := ⟨"_law_cell", f_law_cell, top 69, N_law_cell⟩
def e_law_table : FnE := ⟨"_law_table", f_law_table, top 70, N_law_table⟩
def e_law_large : FnE := ⟨"_law_large", f_law_large, top 71, N_law_large⟩
def e_law_weight : FnE := ⟨"_law_weight", f_law_weight, top 72, N_law_weight⟩
def e_law_below : FnE := ⟨"_law_below", f_law_below, top 73, N_law_below⟩
def e_law_order : FnE := ⟨"_law_order", f_law_order, top 74, N_law_order⟩
def e_law_by_sums : FnE := ⟨"_law_by_sums", f_law_by_sums, top 75, N_law_by_sums⟩
def e_law : FnE := ⟨"law", f_law, top 76, N_law⟩
def c_ALL_IDENTITIES : D := .tup [.str [115, 117, 109], .str [115, 113, 117, 97, 114, 101], .str [97, 98, 115, 111, 114, 98]]
def c_KINDS : D := .tup [.str [97, 108, 108], .str [115, 117, 109], .str [112, 114, 111, 100, 117, 99, 116], .str [98, 111, 116, 104], .str [99, 111, 118, 101, 114], .str [97, 98, 115, 111, 114, 98], .str [108, 97, 116, 116, 105, 99, 101]]
def c_MOST_ELEMENTS : D := .int 6
def c_FREE_IDENTITIES : List (Tx × D) := [([97, 108, 108], .tup []), ([115, 117, 109], .tup [.str [115, 117, 109]]), ([112, 114, 111, 100, 117, 99, 116], .tup []), ([98, 111, 116, 104], .tup [.str [115, 117, 109]]), ([99, 111, 118, 101, 114], .tup [.str [115, 117, 109], .str [115, 113, 117, 97, 114, 101]]), ([97, 98, 115, 111, 114, 98], .tup [.str [115, 117, 109], .str [97, 98, 115, 111, 114, 98]]), ([108, 97, 116, 116, 105, 99, 101], .tup [.str [115, 117, 109], .str [115, 113, 117, 97, 114, 101], .str [97, 98, 115, 111, 114, 98]])]
def S : HS := ⟨["abs", "all", "bool", "enumerate", "int", "isinstance", "len", "list", "max", "min", "range", "str", "tuple"], [("ALL_IDENTITIES", c_ALL_IDENTITIES), ("KINDS", c_KINDS), ("MOST_ELEMENTS", c_MOST_ELEMENTS)], [("FREE_IDENTITIES", c_FREE_IDENTITIES)], ["InvalidSemiring", "InvalidWeight"], [("InvalidSemiring", "InvalidSemiring", true), ("InvalidSemiring", "InvalidWeight", false), ("InvalidWeight", "InvalidSemiring", false), ("InvalidWeight", "InvalidWeight", true)], [e_is_integer, e_is_kind, e_is_grid, e_has_table_form, e_unit_fault, e_zero_fault, e_turn_fault, e_group_fault, e_spread_fault, e_table_fault, e_is_semiring, e_check_semiring, e_fits, e_check_weight, e_zero_in, e_plus_in, e_times_in, e_at_most_in, e_zero_of, e_check_two, e_plus, e_times, e_at_most, e_has_list, e_weights_in, e_all_weights, e_table_identities, e_identities_in, e_identities, e_law_pool, e_law_pull, e_law_cell, e_law_table, e_law_large, e_law_weight, e_law_below, e_law_order, e_law_by_sums, e_law]⟩
def kws : List (String × Nat × List String × List Nat) := []
abbrev gi : GI := giOf S kws
abbrev V : Env := envOf S
theorem k_is_integer : ChkOk gi e_is_integer = true := by decide +kernel
theorem b_ok_is_integer : BindOk e_is_integer := fun kV doc pm an cdv ct us hl => match us, hl with | [_], _ => rfl
theorem k_is_kind : ChkOk gi e_is_kind = true := by decide +kernel
theorem b_ok_is_kind : BindOk e_is_kind := fun kV doc pm an cdv ct us hl => match us, hl with | [_], _ => rfl
theorem k_is_grid : ChkOk gi e_is_grid = true := by decide +kernel
theorem b_ok_is_grid : BindOk e_is_grid := fun kV doc pm an cdv ct us hl => match us, hl with | [_, _], _ => rfl
theorem k_has_table_form : ChkOk gi e_has_table_form = true := by decide +kernel
theorem b_ok_has_table_form : BindOk e_has_table_form := fun kV doc pm an cdv ct us hl => match us, hl with | [_], _ => rfl
theorem k_unit_fault : ChkOk gi e_unit_fault = true := by decide +kernel
theorem b_ok_unit_fault : BindOk e_unit_fault := fun kV doc pm an cdv ct us hl => match us, hl with | [_], _ => rfl
theorem k_zero_fault : ChkOk gi e_zero_fault = true := by decide +kernel
theorem b_ok_zero_fault : BindOk e_zero_fault := fun kV doc pm an cdv ct us hl => match us, hl with | [_], _ => rfl
theorem k_turn_fault : ChkOk gi e_turn_fault = true := by decide +kernel
theorem b_ok_turn_fault : BindOk e_turn_fault := fun kV doc pm an cdv ct us hl => match us, hl with | [_, _], _ => rfl
theorem k_group_fault : ChkOk gi e_group_fault = true := by decide +kernel
theorem b_ok_group_fault : BindOk e_group_fault := fun kV doc pm an cdv ct us hl => match us, hl with | [_, _], _ => rfl
theorem k_spread_fault : ChkOk gi e_spread_fault = true := by decide +kernel
theorem b_ok_spread_fault : BindOk e_spread_fault := fun kV doc pm an cdv ct us hl => match us, hl with | [_, _, _], _ => rfl
theorem k_table_fault : ChkOk gi e_table_fault = true := by decide +kernel
theorem b_ok_table_fault : BindOk e_table_fault := fun kV doc pm an cdv ct us hl => match us, hl with | [_], _ => rfl
theorem k_is_semiring : ChkOk gi e_is_semiring = true := by decide +kernel
theorem b_ok_is_semiring : BindOk e_is_semiring := fun kV doc pm an cdv ct us hl => match us, hl with | [_], _ => rfl
theorem k_check_semiring : ChkOk gi e_check_semiring = true := by decide +kernel
theorem b_ok_check_semiring : BindOk e_check_semiring := fun kV doc pm an cdv ct us hl => match us, hl with | [_], _ => rfl
theorem k_fits : ChkOk gi e_fits = true := by decide +kernel
theorem b_ok_fits : BindOk e_fits := fun kV doc pm an cdv ct us hl => match us, hl with | [_, _], _ => rfl
theorem k_check_weight : ChkOk gi e_check_weight = true := by decide +kernel
theorem b_ok_check_weight : BindOk e_check_weight := fun kV doc pm an cdv ct us hl => match us, hl with | [_, _], _ => rfl
theorem k_zero_in : ChkOk gi e_zero_in = true := by decide +kernel
theorem b_ok_zero_in : BindOk e_zero_in := fun kV doc pm an cdv ct us hl => match us, hl with | [_], _ => rfl
theorem k_plus_in : ChkOk gi e_plus_in = true := by decide +kernel
theorem b_ok_plus_in : BindOk e_plus_in := fun kV doc pm an cdv ct us hl => match us, hl with | [_, _, _], _ => rfl
theorem k_times_in : ChkOk gi e_times_in = true := by decide +kernel
theorem b_ok_times_in : BindOk e_times_in := fun kV doc pm an cdv ct us hl => match us, hl with | [_, _, _], _ => rfl
theorem k_at_most_in : ChkOk gi e_at_most_in = true := by decide +kernel
theorem b_ok_at_most_in : BindOk e_at_most_in := fun kV doc pm an cdv ct us hl => match us, hl with | [_, _, _], _ => rfl
theorem k_zero_of : ChkOk gi e_zero_of = true := by decide +kernel
theorem b_ok_zero_of : BindOk e_zero_of := fun kV doc pm an cdv ct us hl => match us, hl with | [_], _ => rfl
theorem k_check_two : ChkOk gi e_check_two = true := by decide +kernel
theorem b_ok_check_two : BindOk e_check_two := fun kV doc pm an cdv ct us hl => match us, hl with | [_, _, _], _ => rfl
theorem k_plus : ChkOk gi e_plus = true := by decide +kernel
theorem b_ok_plus : BindOk e_plus := fun kV doc pm an cdv ct us hl => match us, hl with | [_, _, _], _ => rfl
theorem k_times : ChkOk gi e_times = true := by decide +kernel
theorem b_ok_times : BindOk e_times := fun kV doc pm an cdv ct us hl => match us, hl with | [_, _, _], _ => rfl
theorem k_at_most : ChkOk gi e_at_most = true := by decide +kernel
theorem b_ok_at_most : BindOk e_at_most := fun kV doc pm an cdv ct us hl => match us, hl with | [_, _, _], _ => rfl
theorem k_has_list : ChkOk gi e_has_list = true := by decide +kernel
theorem b_ok_has_list : BindOk e_has_list := fun kV doc pm an cdv ct us hl => match us, hl with | [_], _ => rfl
theorem k_weights_in : ChkOk gi e_weights_in = true := by decide +kernel
theorem b_ok_weights_in : BindOk e_weights_in := fun kV doc pm an cdv ct us hl => match us, hl with | [_], _ => rfl
theorem k_all_weights : ChkOk gi e_all_weights = true := by decide +kernel
theorem b_ok_all_weights : BindOk e_all_weights := fun kV doc pm an cdv ct us hl => match us, hl with | [_], _ => rfl
theorem k_table_identities : ChkOk gi e_table_identities = true := by decide +kernel
theorem b_ok_table_identities : BindOk e_table_identities := fun kV doc pm an cdv ct us hl => match us, hl with | [_], _ => rfl
theorem k_identities_in : ChkOk gi e_identities_in = true := by decide +kernel
theorem b_ok_identities_in : BindOk e_identities_in := fun kV doc pm an cdv ct us hl => match us, hl with | [_], _ => rfl
theorem k_identities : ChkOk gi e_identities = true := by decide +kernel
theorem b_ok_identities : BindOk e_identities := fun kV doc pm an cdv ct us hl => match us, hl with | [_], _ => rfl
theorem k_law_pool : ChkOk gi e_law_pool = true := by decide +kernel
theorem b_ok_law_pool : BindOk e_law_pool := fun kV doc pm an cdv ct us hl => match us, hl with | [_, _], _ => rfl
theorem k_law_pull : ChkOk gi e_law_pull = true := by decide +kernel
theorem b_ok_law_pull : BindOk e_law_pull := fun kV doc pm an cdv ct us hl => match us, hl with | [_, _], _ => rfl
theorem k_law_cell : ChkOk gi e_law_cell = true := by decide +kernel
theorem b_ok_law_cell : BindOk e_law_cell := fun kV doc pm an cdv ct us hl => match us, hl with | [_, _, _, _], _ => rfl
theorem k_law_table : ChkOk gi e_law_table = true := by decide +kernel
theorem b_ok_law_table : BindOk e_law_table := fun kV doc pm an cdv ct us hl => match us, hl with | [_], _ => rfl
theorem k_law_large : ChkOk gi e_law_large = true := by decide +kernel
theorem b_ok_law_large : BindOk e_law_large := fun kV doc pm an cdv ct us hl => match us, hl with | [_], _ => rfl
theorem k_law_weight : ChkOk gi e_law_weight = true := by decide +kernel
theorem b_ok_law_weight : BindOk e_law_weight := fun kV doc pm an cdv ct us hl => match us, hl with | [_, _], _ => rfl
theorem k_law_below : ChkOk gi e_law_below = true := by decide +kernel
theorem b_ok_law_below : BindOk e_law_below := fun kV doc pm an cdv ct us hl => match us, hl with | [_, _], _ => rfl
theorem k_law_order : ChkOk gi e_law_order = true := by decide +kernel
theorem b_ok_law_order : BindOk e_law_order := fun kV doc pm an cdv ct us hl => match us, hl with | [_, _], _ => rfl
theorem k_law_by_sums : ChkOk gi e_law_by_sums = true := by decide +kernel
theorem b_ok_law_by_sums : BindOk e_law_by_sums := fun kV doc pm an cdv ct us hl => match us, hl with | [_, _], _ => rfl
theorem k_law : ChkOk gi e_law = true := by decide +kernel
theorem b_ok_law : BindOk e_law := fun kV doc pm an cdv ct us hl => match us, hl with | [_], _ => rfl
theorem fit : Fit S gi := fit_of (alln) (allc k_is_integer (allc k_is_kind (allc k_is_grid (allc k_has_table_form (allc k_unit_fault (allc k_zero_fault (allc k_turn_fault (allc k_group_fault (allc k_spread_fault (allc k_table_fault (allc k_is_semiring (allc k_check_semiring (allc k_fits (allc k_check_weight (allc k_zero_in (allc k_plus_in (allc k_times_in (allc k_at_most_in (allc k_zero_of (allc k_check_two (allc k_plus (allc k_times (allc k_at_most (allc k_has_list (allc k_weights_in (allc k_all_weights (allc k_table_identities (allc k_identities_in (allc k_identities (allc k_law_pool (allc k_law_pull (allc k_law_cell (allc k_law_table (allc k_law_large (allc k_law_weight (allc k_law_below (allc k_law_order (allc k_law_by_sums (allc k_law (alln)))))))))))))))))))))))))))))))))))))))) (allc b_ok_is_integer (allc b_ok_is_kind (allc b_ok_is_grid (allc b_ok_has_table_form (allc b_ok_unit_fault (allc b_ok_zero_fault (allc b_ok_turn_fault (allc b_ok_group_fault (allc b_ok_spread_fault (allc b_ok_table_fault (allc b_ok_is_semiring (allc b_ok_check_semiring (allc b_ok_fits (allc b_ok_check_weight (allc b_ok_zero_in (allc b_ok_plus_in (allc b_ok_times_in (allc b_ok_at_most_in (allc b_ok_zero_of (allc b_ok_check_two (allc b_ok_plus (allc b_ok_times (allc b_ok_at_most (allc b_ok_has_list (allc b_ok_weights_in (allc b_ok_all_weights (allc b_ok_table_identities (allc b_ok_identities_in (allc b_ok_identities (allc b_ok_law_pool (allc b_ok_law_pull (allc b_ok_law_cell (allc b_ok_law_table (allc b_ok_law_large (allc b_ok_law_weight (allc b_ok_law_below (allc b_ok_law_order (allc b_ok_law_by_sums (allc b_ok_law (alln))))))))))))))))))))))))))))))))))))))))
def names : List PySem.Str := [PySem.Str.ofString "LETTERS", PySem.Str.ofString "DIGITS", PySem.Str.ofString "is_integer", PySem.Str.ofString "is_name", PySem.Str.ofString "is_ascending", PySem.Str.ofString "COUNTED", PySem.Str.ofString "POWERED", PySem.Str.ofString "is_monomial", PySem.Str.ofString "is_lot_of_names", PySem.Str.ofString "is_part", PySem.Str.ofString "parts_of", PySem.Str.ofString "is_valid", PySem.Str.ofString "joined", PySem.Str.ofString "multiplied", PySem.Str.ofString "divides", PySem.Str.ofString "is_within", PySem.Str.ofString "closed", PySem.Str.ofString "is_normal", PySem.Str.ofString "is_above", PySem.Str.ofString "least_parts_of", PySem.Str.ofString "normal", PySem.Str.ofString "counted", PySem.Str.ofString "added", PySem.Str.ofString "times_polynomial", PySem.Str.ofString "zero_polynomial", PySem.Str.ofString "is_below", PySem.Str.ofString "WeightError", PySem.Str.ofString "InvalidSemiring", PySem.Str.ofString "InvalidWeight", PySem.Str.ofString "KINDS", PySem.Str.ofString "is_kind", PySem.Str.ofString "MOST_ELEMENTS", PySem.Str.ofString "ALL_IDENTITIES", PySem.Str.ofString "FREE_IDENTITIES", PySem.Str.ofString "is_grid", PySem.Str.ofString "has_table_form", PySem.Str.ofString "unit_fault", PySem.Str.ofString "zero_fault", PySem.Str.ofString "turn_fault", PySem.Str.ofString "group_fault", PySem.Str.ofString "spread_fault", PySem.Str.ofString "table_fault", PySem.Str.ofString "is_semiring", PySem.Str.ofString "check_semiring", PySem.Str.ofString "fits", PySem.Str.ofString "check_weight", PySem.Str.ofString "zero_in", PySem.Str.ofString "plus_in", PySem.Str.ofString "times_in", PySem.Str.ofString "at_most_in", PySem.Str.ofString "zero_of", PySem.Str.ofString "check_two", PySem.Str.ofString "plus", PySem.Str.ofString "times", PySem.Str.ofString "at_most", PySem.Str.ofString "has_list", PySem.Str.ofString "weights_in", PySem.Str.ofString "all_weights", PySem.Str.ofString "table_identities", PySem.Str.ofString "identities_in", PySem.Str.ofString "identities", PySem.Str.ofString "_law_pool", PySem.Str.ofString "_law_pull", PySem.Str.ofString "_law_cell", PySem.Str.ofString "_law_table", PySem.Str.ofString "_law_large", PySem.Str.ofString "_law_weight", PySem.Str.ofString "_law_below", PySem.Str.ofString "_law_order", PySem.Str.ofString "_law_by_sums"]
def lawAt : Nat := 76
end K05

set_option linter.all false
set_option maxRecDepth 100000
set_option autoImplicit false
set_option Elab.async false
set_option maxHeartbeats 0
namespace K05
open Iv
abbrev R : PySem.W.OpenRow := PySem.W.OpenLaw.row PySem.Challenge.rw_sourceweights_k05_order_of_weights
def ob (s : PySem.W.SharedT) : AlI := obsIG 4 S (HandSHeadRun.getT s)
theorem ob_eq (s : PySem.W.SharedT) : ob s = (hookI 4 S).obs s.abs := obsIG_eq (HandSHeadRun.getT_eq s)
theorem run_f (w : PySem.World) : HandSHeadRun.RunEq R (PySem.W.view R.prog [lawAt]) (hookI 4 S) ob 3000 names (w.withFollow "special-get-raises" false) := by
  intro os
  kernel_rfl
theorem run_t (w : PySem.World) : HandSHeadRun.RunEq R (PySem.W.view R.prog [lawAt]) (hookI 4 S) ob 3000 names (w.withFollow "special-get-raises" true) := by
  intro os
  kernel_rfl
theorem run (w : PySem.World) : HandSHeadRun.RunEq R (PySem.W.view R.prog [lawAt]) (hookI 4 S) ob 3000 names w :=
  PySem.W.byRow2 "special-get-raises" (P := fun w => HandSHeadRun.RunEq R (PySem.W.view R.prog [lawAt]) (hookI 4 S) ob 3000 names w) run_f run_t w
end K05

set_option linter.all false
set_option maxRecDepth 100000
set_option autoImplicit false
set_option Elab.async false
set_option maxHeartbeats 1000000
namespace K05
open Iv
/-! ### tables -/
def rowD (r : List Nat) : D := .tup (r.map fun (x : Nat) => .int x)
def gridD (g : List (List Nat)) : D := .tup (g.map rowD)
def rw_ (g : List (List Nat)) (a : Nat) : List Nat := g.getD a []
def at2 (g : List (List Nat)) (a b : Nat) : Nat := (rw_ g a).getD b 0
structure GridOk (n : Nat) (g : List (List Nat)) : Prop where
  len : g.length = n
  row : ∀ r ∈ g, r.length = n
  lt : ∀ r ∈ g, ∀ x ∈ r, x < n
theorem ixN_nat {n i : Nat} (h : i < n) : ixN n (i : Int) = some i := by
  unfold ixN
  rw [if_pos (by omega), if_pos (by omega)]; simp
section
variable {n : Nat} {g : List (List Nat)}
theorem GridOk.rowAt (h : GridOk n g) {a : Nat} (ha : a < n) : g[a]? = some (rw_ g a) ∧ (rw_ g a) ∈ g := by
  unfold rw_
  have hl : a < g.length := by rw [h.len]; exact ha
  rw [List.getD_eq_getElem?_getD, List.getElem?_eq_getElem hl]
  exact ⟨rfl, List.getElem_mem hl⟩
theorem GridOk.at_lt (h : GridOk n g) {a b : Nat} (ha : a < n) (hb : b < n) : at2 g a b < n := by
  obtain ⟨_, m⟩ := h.rowAt ha
  have hl : b < (rw_ g a).length := by rw [h.row _ m]; exact hb
  unfold at2
  rw [List.getD_eq_getElem?_getD (l := rw_ g a), List.getElem?_eq_getElem hl]
  exact h.lt _ m _ (List.getElem_mem hl)
theorem idx_grid (h : GridOk n g) {a : Nat} (ha : a < n) : idxD (gridD g) (.int a) = some (rowD (rw_ g a)) := by
  have hl : a < (g.map rowD).length := by rw [List.length_map, h.len]; exact ha
  show (ixN (g.map rowD).length (a : Int)).bind _ = _
  rw [ixN_nat hl]
  show (g.map rowD)[a]? = _
  rw [List.getElem?_map, (h.rowAt ha).1]; rfl
theorem idx_row (h : GridOk n g) {a b : Nat} (ha : a < n) (hb : b < n) : idxD (rowD (rw_ g a)) (.int b) = some (.int (at2 g a b)) := by
  obtain ⟨_, m⟩ := h.rowAt ha
  have hl : b < (rw_ g a).length := by rw [h.row _ m]; exact hb
  have hl2 : b < ((rw_ g a).map fun (x : Nat) => D.int x).length := by rw [List.length_map]; exact hl
  show (ixN ((rw_ g a).map fun (x : Nat) => D.int x).length (b : Int)).bind _ = _
  rw [ixN_nat hl2]
  show ((rw_ g a).map fun (x : Nat) => D.int x)[b]? = _
  rw [List.getElem?_map]
  unfold at2
  rw [List.getD_eq_getElem?_getD (l := rw_ g a), List.getElem?_eq_getElem hl]
  rfl
end
/-! ### integers, grids -/
def isInt : D → Bool
  | .int _ => true
  | _ => false
theorem is_integer_ok {m : Nat} {s : Sl} {d : D} (h : s = .sh d ∨ s = .ow d) : Iv.run V (m + 1) "is_integer" [s] = .ok (.val (.bl (isInt d))) [s] := by
  rw [run_eq (fn := f_is_integer) rfl rfl]
  rcases h with rfl | rfl <;> cases d <;> rfl
def bG : CE := .comp (.and (.call "is_integer" [(.var 3)]) (.chn .LtE .Lt (.cst (.int 0)) (.var 3) (.var 1))) (.var 3) "" [(.var 2)] [] [3] 4
theorem row_all {m : Nat} {n : Nat} {r : List Nat} (hr : ∀ x ∈ r, x < n) (hl : r.length < sizeLine) (s0 : Sl) :
    ev V (Iv.run V (m + 1)) false bG [s0, .sh (.int n), .sh (rowD r), .no] = .ok (.fr (.lst (r.map fun _ => D.bl true))) [s0, .sh (.int n), .sh (rowD r), .no] := by
  have e : (r.map fun (_ : Nat) => D.bl true) = (r.map fun (x : Nat) => D.int x).map fun _ => D.bl true := by rw [List.map_map]; rfl
  rw [e]
  refine ev_comp (as := [.val (rowD r)]) (ds := [rowD r]) (items := r.map fun (x : Nat) => D.int x) (fun _ => .bl true) rfl rfl rfl rfl rfl (by simpa using hl) (fun d hd => ?_)
  obtain ⟨x, hx, rfl⟩ := List.mem_map.mp hd
  refine ⟨[s0, .sh (.int n), .sh (rowD r), .sh (.int x)], [s0, .sh (.int n), .sh (rowD r), .sh (.int x)], [s0, .sh (.int n), .sh (rowD r), .sh (.int x)], rfl, rfl, ?_, rfl⟩
  have k := is_integer_ok (m := m) (s := .sh (.int x)) (d := .int x) (.inl rfl)
  have h1 : (x : Int) < (n : Int) := by have := hr x hx; omega
  simp [exs, ex, ev, evA, evS, evO, evTs, bnd, ret, grd, getv, slot, rd, rdL, opt, truthD, tst, biD, coldBi, callM, slsOf, slOf, refs, nodupN, pickL, idxD, ixN, inD, memD, putOuts, owAt, cmpD, ltD, leD, D.cmpable, D.pln, D.plnL, D.dep, D.depL, D.pe, D.peL, D.isNon, guardO, isiD, tyNames, binD, asgT, asgTs, seqOf, asgV, putF, putSl, stv, isVarT, fixS_sh, fixS_no, fixS_ow, retA, finish, maskO, isOw, sizeLine, fail, k, isInt, h1]
theorem all_true : ∀ (r : List Nat), allBl (r.map fun _ => D.bl true) = some (r.map fun _ => true)
  | [] => rfl
  | x :: r => by
    simp only [List.map_cons, allBl, all_true r, Option.map_some]
def bodyG : List CS := [.ite (.or (.not (.isi (.var 2) ["tuple"])) (.cmp .NotEq (.bi "len" [(.var 2)]) (.var 1))) [.ret (.cst (.bl false))] [], .ite (.not (.bi "all" [bG])) [.ret (.cst (.bl false))] []]
def sG : CS := .for_ (.var 2) "" [(.var 0)] bodyG
theorem b_eqG : b_is_grid = [.ite (.or (.not (.isi (.var 0) ["tuple"])) (.cmp .NotEq (.bi "len" [(.var 0)]) (.var 1))) [.ret (.cst (.bl false))] [], sG, .ret (.cst (.bl true))] := rfl
theorem is_grid_ok {m n : Nat} {g : List (List Nat)} (h : GridOk n g) (hn : n ≤ 6) : Iv.run V (m + 2) "is_grid" [.sh (gridD g), .sh (.int n)] = .ok (.val (.bl true)) [.sh (gridD g), .sh (.int n)] := by
  rw [run_eq (fn := f_is_grid) rfl rfl]
  obtain ⟨ρ', e, s, rfl, hs⟩ := forL_all (asg := fun d => asgT [false, false] (.var 2) (.val d)) (body := exs V (Iv.run V (m + 1)) [false, false] false bodyG) (fun ρ => ∃ s, ρ = [.sh (gridD g), .sh (.int n), s, .no] ∧ fixS s = false) (g.map rowD) (fun d hd ρ ⟨s, e, hs⟩ => by
    subst e
    obtain ⟨r, hr, rfl⟩ := List.mem_map.mp hd
    have k := row_all (m := m) (n := n) (r := r) (h.lt r hr) (by rw [h.row r hr]; unfold sizeLine; omega) (.sh (gridD g))
    refine ⟨[.sh (gridD g), .sh (.int n), .sh (rowD r), .no], [.sh (gridD g), .sh (.int n), .sh (rowD r), .no], ?_, ?_, .sh (rowD r), rfl, rfl⟩
    · simp [exs, ex, ev, evA, evS, evO, evTs, bnd, ret, grd, getv, slot, rd, rdL, opt, truthD, tst, biD, coldBi, callM, slsOf, slOf, refs, nodupN, pickL, idxD, ixN, inD, memD, putOuts, owAt, cmpD, ltD, leD, D.cmpable, D.pln, D.plnL, D.dep, D.depL, D.pe, D.peL, D.isNon, guardO, isiD, tyNames, binD, asgT, asgTs, seqOf, asgV, putF, putSl, stv, isVarT, fixS_sh, fixS_no, fixS_ow, retA, finish, maskO, isOw, sizeLine, fail, hs]
    · have hi : isiD (rowD r) ["tuple"] = true := rfl
      have hl : biD "len" [rowD r] = some (.val (.int n)) := by
        show some (A.val (.int ((r.map fun (x : Nat) => D.int x).length : Int))) = _
        rw [List.length_map, h.row r hr]
      have ha : biD "all" [.lst (r.map fun _ => D.bl true)] = some (.val (.bl true)) := by
        show (allBl _).map _ = _
        rw [all_true]
        simp
      simp [bodyG, exs, ex, ev, evA, bnd, ret, grd, getv, slot, rd, rdL, opt, truthD, tst, coldBi, hi, hl, ha, k, cmpD, D.cmpable, D.pln, D.dep, D.pe, guardO])
    [.sh (gridD g), .sh (.int n), .no, .no] ⟨.no, rfl, rfl⟩
  have ef : ex V (Iv.run V (m + 1)) [false, false] false sG [.sh (gridD g), .sh (.int n), .no, .no] = .ok .nx [.sh (gridD g), .sh (.int n), s, .no] :=
    ex_for (as := [.val (gridD g)]) (ds := [gridD g]) (items := g.map rowD) rfl rfl rfl rfl e
  have hi : isiD (gridD g) ["tuple"] = true := rfl
  have hl : biD "len" [gridD g] = some (.val (.int n)) := by
    show some (A.val (.int ((g.map rowD).length : Int))) = _
    rw [List.length_map, h.len]
  have hb : f_is_grid.body = b_is_grid := rfl
  have hr : List.replicate (f_is_grid.nn - f_is_grid.np) Sl.no = [.no, .no] := rfl
  rw [hb, hr, b_eqG]

  show finish _ (exs V (Iv.run V (m + 1)) [false, false] false _ [.sh (gridD g), .sh (.int n), .no, .no]) = _
  simp [exs, ef, ev, evA, ex, bnd, ret, grd, getv, slot, rd, rdL, opt, truthD, tst, coldBi, hi, hl, cmpD, D.cmpable, D.pln, D.dep, D.pe, guardO, retA, finish, maskO, isOw]
end K05

set_option linter.all false
set_option maxRecDepth 100000
set_option autoImplicit false
set_option Elab.async false
set_option maxHeartbeats 1000000
namespace K05
open Iv
theorem exs_nx {Φ : String → Rho → COut} {pn : List Bool} {s : CS} {r : List CS} {ρ ρ' : Rho} (e : ex V Φ pn false s ρ = .ok .nx ρ') : exs V Φ pn false (s :: r) ρ = exs V Φ pn false r ρ' := by
  show bnd (ex V Φ pn false s) _ ρ = _
  rw [bnd_ok' e]
theorem rng_mem : ∀ (n : Nat) (lo : Int) {d : D}, d ∈ rngL lo n → ∃ k : Nat, k < n ∧ d = .int (lo + k)
  | 0, _, _, h => by cases h
  | n + 1, lo, d, h => by
    rcases List.mem_cons.mp h with rfl | h
    · exact ⟨0, by omega, by simp⟩
    · obtain ⟨k, hk, rfl⟩ := rng_mem n (lo + 1) h
      exact ⟨k + 1, by omega, by congr 1; push_cast; omega⟩
theorem rngOk_nat {n : Nat} (h : n ≤ 1000) : rngOk (n : Int) = true := by
  unfold rngOk
  apply decide_eq_true
  omega
theorem for_rng {Φ : String → Rho → COut} {pn : List Bool} {i j n : Nat} {body : List CS} (I : Rho → Prop) (hn : n ≤ 1000) (hj : ∀ ρ, I ρ → ρ[j]? = some (.sh (.int n)))
    (h : ∀ k : Nat, k < n → ∀ ρ, I ρ → ∃ ρ1 ρ2, asgT pn (.var i) (.val (.int k)) ρ = .ok () ρ1 ∧ exs V Φ pn false body ρ1 = .ok .nx ρ2 ∧ I ρ2) (ρ : Rho) (hI : I ρ) : ∃ ρ', ex V Φ pn false (.for_ (.var i) "range" [(.var j)] body) ρ = .ok .nx ρ' ∧ I ρ' := by
  obtain ⟨ρ', e, h'⟩ := forL_all (asg := fun d => asgT pn (.var i) (.val d)) (body := exs V Φ pn false body) I (rngL 0 n) (fun d hd ρ hI => by
    obtain ⟨k, hk, rfl⟩ := rng_mem n 0 hd
    have := h k hk ρ hI
    simpa using this) ρ hI
  refine ⟨ρ', ex_for (as := [.val (.int n)]) (ds := [.int n]) (items := rngL 0 n) ?_ rfl rfl ?_ e, h'⟩
  · have := hj ρ hI
    simp [evA, ev, bnd, getv, slot, this, ret]
  · have e0 : itemsOf "range" [.int n] = guardO (rngOk (n : Int)) (rngL 0 (n : Int).toNat) := by simp only [itemsOf]
    have e1 : rngOk (n : Int) = true := rngOk_nat hn
    rw [e0, e1, Int.toNat_natCast]
    unfold guardO
    rw [if_pos rfl]
theorem enum_mem : ∀ (l : List D) (j : Nat) {d : D}, d ∈ enumL j l → ∃ (i : Nat) (x : D), l[i]? = some x ∧ d = .tup [.int ((j + i : Nat) : Int), x]
  | [], _, _, h => by cases h
  | y :: l, j, d, h => by
    rcases List.mem_cons.mp h with rfl | h
    · exact ⟨0, y, rfl, by simp⟩
    · obtain ⟨i, x, e, rfl⟩ := enum_mem l (j + 1) h
      exact ⟨i + 1, x, by simpa using e, by congr 3; omega⟩
/-! ### the faults of a table -/
def bodyU : List CS := [.ite (.cmp .NotEq (.var 2) (.var 1)) [.ret (.tup [(.var 1)])] []]
def sU : CS := .for_ (.tup [(.var 1), (.var 2)]) "enumerate" [(.var 0)] bodyU
theorem b_eqU : b_unit_fault = [sU, .ret (.cst .non)] := rfl
theorem unit_ok {m : Nat} {r : List Nat} (h : ∀ i x : Nat, r[i]? = some x → x = i) : Iv.run V (m + 1) "unit_fault" [.sh (rowD r)] = .ok (.val .non) [.sh (rowD r)] := by
  rw [run_eq (fn := f_unit_fault) rfl rfl]
  obtain ⟨ρ', e, s1, s2, rfl, h1, h2⟩ := forL_all (asg := fun d => asgT [false] (.tup [.var 1, .var 2]) (.val d)) (body := exs V (Iv.run V m) [false] false bodyU) (fun ρ => ∃ s1 s2, ρ = [.sh (rowD r), s1, s2] ∧ fixS s1 = false ∧ fixS s2 = false) (enumL 0 (r.map fun (x : Nat) => D.int x)) (fun d hd ρ ⟨s1, s2, e, h1, h2⟩ => by
    subst e
    obtain ⟨i, x, ex_, rfl⟩ := enum_mem _ 0 hd
    rw [List.getElem?_map] at ex_
    obtain ⟨y, ey, rfl⟩ := Option.map_eq_some_iff.mp ex_
    cases h i y ey
    refine ⟨[.sh (rowD r), .sh (.int i), .sh (.int i)], [.sh (rowD r), .sh (.int i), .sh (.int i)], ?_, ?_, _, _, rfl, rfl, rfl⟩
    · simp [exs, ex, ev, evA, evS, evO, evTs, bnd, ret, grd, getv, slot, rd, rdL, opt, truthD, tst, biD, coldBi, callM, slsOf, slOf, refs, nodupN, pickL, idxD, ixN, inD, memD, putOuts, owAt, cmpD, ltD, leD, D.cmpable, D.pln, D.plnL, D.dep, D.depL, D.pe, D.peL, D.isNon, guardO, isiD, tyNames, binD, asgT, asgTs, seqOf, asgV, putF, putSl, stv, isVarT, fixS_sh, fixS_no, fixS_ow, retA, finish, maskO, isOw, sizeLine, fail, h1, h2]
    · simp [bodyU, exs, ex, ev, evA, evS, evO, evTs, bnd, ret, grd, getv, slot, rd, rdL, opt, truthD, tst, biD, coldBi, callM, slsOf, slOf, refs, nodupN, pickL, idxD, ixN, inD, memD, putOuts, owAt, cmpD, ltD, leD, D.cmpable, D.pln, D.plnL, D.dep, D.depL, D.pe, D.peL, D.isNon, guardO, isiD, tyNames, binD, asgT, asgTs, seqOf, asgV, putF, putSl, stv, isVarT, fixS_sh, fixS_no, fixS_ow, retA, finish, maskO, isOw, sizeLine, fail]) [.sh (rowD r), .no, .no] ⟨_, _, rfl, rfl, rfl⟩
  have ef : ex V (Iv.run V m) [false] false sU [.sh (rowD r), .no, .no] = .ok .nx [.sh (rowD r), s1, s2] :=
    ex_for (as := [.val (rowD r)]) (ds := [rowD r]) (items := enumL 0 (r.map fun (x : Nat) => D.int x)) rfl rfl rfl rfl e
  have hb : f_unit_fault.body = b_unit_fault := rfl
  have hr : List.replicate (f_unit_fault.nn - f_unit_fault.np) Sl.no = [.no, .no] := rfl
  rw [hb, hr, b_eqU]
  show finish _ (exs V (Iv.run V m) [false] false _ [.sh (rowD r), .no, .no]) = _
  simp [exs, ef, ev, ex, bnd, ret, retA, finish, maskO, isOw]
def bodyZ : List CS := [.ite (.cmp .NotEq (.var 2) (.cst (.int 0))) [.ret (.tup [(.var 1)])] []]
def sZ : CS := .for_ (.tup [(.var 1), (.var 2)]) "enumerate" [(.var 0)] bodyZ
theorem b_eqZ : b_zero_fault = [sZ, .ret (.cst .non)] := rfl
theorem zero_ok {m : Nat} {r : List Nat} (h : ∀ i x : Nat, r[i]? = some x → x = 0) : Iv.run V (m + 1) "zero_fault" [.sh (rowD r)] = .ok (.val .non) [.sh (rowD r)] := by
  rw [run_eq (fn := f_zero_fault) rfl rfl]
  obtain ⟨ρ', e, s1, s2, rfl, h1, h2⟩ := forL_all (asg := fun d => asgT [false] (.tup [.var 1, .var 2]) (.val d)) (body := exs V (Iv.run V m) [false] false bodyZ) (fun ρ => ∃ s1 s2, ρ = [.sh (rowD r), s1, s2] ∧ fixS s1 = false ∧ fixS s2 = false) (enumL 0 (r.map fun (x : Nat) => D.int x)) (fun d hd ρ ⟨s1, s2, e, h1, h2⟩ => by
    subst e
    obtain ⟨i, x, ex_, rfl⟩ := enum_mem _ 0 hd
    rw [List.getElem?_map] at ex_
    obtain ⟨y, ey, rfl⟩ := Option.map_eq_some_iff.mp ex_
    cases h i y ey
    refine ⟨[.sh (rowD r), .sh (.int i), .sh (.int 0)], [.sh (rowD r), .sh (.int i), .sh (.int 0)], ?_, ?_, _, _, rfl, rfl, rfl⟩
    · simp [exs, ex, ev, evA, evS, evO, evTs, bnd, ret, grd, getv, slot, rd, rdL, opt, truthD, tst, biD, coldBi, callM, slsOf, slOf, refs, nodupN, pickL, idxD, ixN, inD, memD, putOuts, owAt, cmpD, ltD, leD, D.cmpable, D.pln, D.plnL, D.dep, D.depL, D.pe, D.peL, D.isNon, guardO, isiD, tyNames, binD, asgT, asgTs, seqOf, asgV, putF, putSl, stv, isVarT, fixS_sh, fixS_no, fixS_ow, retA, finish, maskO, isOw, sizeLine, fail, h1, h2]
    · simp [bodyZ, exs, ex, ev, evA, evS, evO, evTs, bnd, ret, grd, getv, slot, rd, rdL, opt, truthD, tst, biD, coldBi, callM, slsOf, slOf, refs, nodupN, pickL, idxD, ixN, inD, memD, putOuts, owAt, cmpD, ltD, leD, D.cmpable, D.pln, D.plnL, D.dep, D.depL, D.pe, D.peL, D.isNon, guardO, isiD, tyNames, binD, asgT, asgTs, seqOf, asgV, putF, putSl, stv, isVarT, fixS_sh, fixS_no, fixS_ow, retA, finish, maskO, isOw, sizeLine, fail]) [.sh (rowD r), .no, .no] ⟨_, _, rfl, rfl, rfl⟩
  have ef : ex V (Iv.run V m) [false] false sZ [.sh (rowD r), .no, .no] = .ok .nx [.sh (rowD r), s1, s2] :=
    ex_for (as := [.val (rowD r)]) (ds := [rowD r]) (items := enumL 0 (r.map fun (x : Nat) => D.int x)) rfl rfl rfl rfl e
  have hb : f_zero_fault.body = b_zero_fault := rfl
  have hr : List.replicate (f_zero_fault.nn - f_zero_fault.np) Sl.no = [.no, .no] := rfl
  rw [hb, hr, b_eqZ]
  show finish _ (exs V (Iv.run V m) [false] false _ [.sh (rowD r), .no, .no]) = _
  simp [exs, ef, ev, ex, bnd, ret, retA, finish, maskO, isOw]
end K05

set_option linter.all false
set_option maxRecDepth 100000
set_option autoImplicit false
set_option Elab.async false
set_option maxHeartbeats 1000000
namespace K05
open Iv
/-! turned -/
def bodyT2 : List CS := [.ite (.cmp .NotEq (.idx (.idx (.var 0) (.var 2)) (.var 3)) (.idx (.idx (.var 0) (.var 3)) (.var 2))) [.ret (.tup [(.var 2), (.var 3)])] []]
def bodyT1 : List CS := [.for_ (.var 3) "range" [(.var 1)] bodyT2]
def sT1 : CS := .for_ (.var 2) "range" [(.var 1)] bodyT1
theorem b_eqT : b_turn_fault = [sT1, .ret (.cst .non)] := rfl
theorem exs_one {Φ : String → Rho → COut} {pn : List Bool} {s : CS} {ρ ρ' : Rho} (e : ex V Φ pn false s ρ = .ok .nx ρ') : exs V Φ pn false [s] ρ = .ok .nx ρ' := by simp [exs, bnd, e, ret]
theorem turn_ok {m n : Nat} {g : List (List Nat)} (G : GridOk n g) (hn : n ≤ 6) (h : ∀ a b, a < n → b < n → at2 g a b = at2 g b a) : Iv.run V (m + 1) "turn_fault" [.sh (gridD g), .sh (.int n)] = .ok (.val .non) [.sh (gridD g), .sh (.int n)] := by
  rw [run_eq (fn := f_turn_fault) rfl rfl]
  obtain ⟨ρ', e, s2, s3, rfl, h2, h3⟩ := for_rng (Φ := Iv.run V m) (pn := [false, false]) (i := 2) (j := 1) (n := n) (body := bodyT1) (fun ρ => ∃ s2 s3, ρ = [.sh (gridD g), .sh (.int n), s2, s3] ∧ fixS s2 = false ∧ fixS s3 = false) (by omega) (fun ρ ⟨_, _, e, _⟩ => by subst e; rfl) (fun a ha ρ ⟨s2, s3, e, h2, h3⟩ => by
    subst e
    obtain ⟨ρ', e, s3', rfl, h3'⟩ := for_rng (Φ := Iv.run V m) (pn := [false, false]) (i := 3) (j := 1) (n := n) (body := bodyT2) (fun ρ => ∃ s3, ρ = [.sh (gridD g), .sh (.int n), .sh (.int a), s3] ∧ fixS s3 = false) (by omega) (fun ρ ⟨_, e, _⟩ => by subst e; rfl) (fun b hb ρ ⟨s3, e, h3⟩ => by
      subst e
      refine ⟨[.sh (gridD g), .sh (.int n), .sh (.int a), .sh (.int b)], [.sh (gridD g), .sh (.int n), .sh (.int a), .sh (.int b)], by simp [asgT, asgV, grd, bnd, putF, putSl, slot, h3], ?_, _, rfl, rfl⟩
      have i1 := idx_grid G ha
      have i2 := idx_grid G hb
      have i3 := idx_row G ha hb
      have i4 := idx_row G hb ha
      have i5 := h a b ha hb
      simp [bodyT2, exs, ex, ev, bnd, ret, grd, getv, slot, rd, opt, truthD, tst, i1, i2, i3, i4, i5, cmpD, D.cmpable, D.pln, D.dep, D.pe, guardO]) [.sh (gridD g), .sh (.int n), .sh (.int a), s3] ⟨_, rfl, h3⟩
    exact ⟨[.sh (gridD g), .sh (.int n), .sh (.int a), s3], _, by simp [asgT, asgV, grd, bnd, putF, putSl, slot, h2], exs_one e, _, _, rfl, rfl, h3'⟩) [.sh (gridD g), .sh (.int n), .no, .no] ⟨_, _, rfl, rfl, rfl⟩
  have ef : ex V (Iv.run V m) [false, false] false sT1 [.sh (gridD g), .sh (.int n), .no, .no] = .ok .nx [.sh (gridD g), .sh (.int n), s2, s3] := by unfold sT1; exact e
  have hb : f_turn_fault.body = b_turn_fault := rfl
  have hr : List.replicate (f_turn_fault.nn - f_turn_fault.np) Sl.no = [.no, .no] := rfl
  rw [hb, hr, b_eqT]
  show finish _ (exs V (Iv.run V m) [false, false] false _ [.sh (gridD g), .sh (.int n), .no, .no]) = _
  rw [exs_nx ef]
  simp [exs, ev, ex, bnd, ret, retA, finish, maskO, isOw]
/-! grouped -/
def bodyR3 : List CS := [.ite (.cmp .NotEq (.idx (.idx (.var 0) (.idx (.idx (.var 0) (.var 2)) (.var 3))) (.var 4)) (.idx (.idx (.var 0) (.var 2)) (.idx (.idx (.var 0) (.var 3)) (.var 4)))) [.ret (.tup [(.var 2), (.var 3), (.var 4)])] []]
def bodyR2 : List CS := [.for_ (.var 4) "range" [(.var 1)] bodyR3]
def bodyR1 : List CS := [.for_ (.var 3) "range" [(.var 1)] bodyR2]
def sR1 : CS := .for_ (.var 2) "range" [(.var 1)] bodyR1
theorem b_eqR : b_group_fault = [sR1, .ret (.cst .non)] := rfl
theorem group_ok {m n : Nat} {g : List (List Nat)} (G : GridOk n g) (hn : n ≤ 6) (h : ∀ a b c, a < n → b < n → c < n → at2 g (at2 g a b) c = at2 g a (at2 g b c)) : Iv.run V (m + 1) "group_fault" [.sh (gridD g), .sh (.int n)] = .ok (.val .non) [.sh (gridD g), .sh (.int n)] := by
  rw [run_eq (fn := f_group_fault) rfl rfl]
  obtain ⟨ρ', e, s2, s3, s4, rfl, h2, h3, h4⟩ := for_rng (Φ := Iv.run V m) (pn := [false, false]) (i := 2) (j := 1) (n := n) (body := bodyR1) (fun ρ => ∃ s2 s3 s4, ρ = [.sh (gridD g), .sh (.int n), s2, s3, s4] ∧ fixS s2 = false ∧ fixS s3 = false ∧ fixS s4 = false) (by omega) (fun ρ ⟨_, _, _, e, _⟩ => by subst e; rfl) (fun a ha ρ ⟨s2, s3, s4, e, h2, h3, h4⟩ => by
    subst e
    obtain ⟨ρ', e, s3', s4', rfl, h3', h4'⟩ := for_rng (Φ := Iv.run V m) (pn := [false, false]) (i := 3) (j := 1) (n := n) (body := bodyR2) (fun ρ => ∃ s3 s4, ρ = [.sh (gridD g), .sh (.int n), .sh (.int a), s3, s4] ∧ fixS s3 = false ∧ fixS s4 = false) (by omega) (fun ρ ⟨_, _, e, _⟩ => by subst e; rfl) (fun b hb ρ ⟨s3, s4, e, h3, h4⟩ => by
      subst e
      obtain ⟨ρ', e, s4', rfl, h4'⟩ := for_rng (Φ := Iv.run V m) (pn := [false, false]) (i := 4) (j := 1) (n := n) (body := bodyR3) (fun ρ => ∃ s4, ρ = [.sh (gridD g), .sh (.int n), .sh (.int a), .sh (.int b), s4] ∧ fixS s4 = false) (by omega) (fun ρ ⟨_, e, _⟩ => by subst e; rfl) (fun c hc ρ ⟨s4, e, h4⟩ => by
        subst e
        refine ⟨[.sh (gridD g), .sh (.int n), .sh (.int a), .sh (.int b), .sh (.int c)], [.sh (gridD g), .sh (.int n), .sh (.int a), .sh (.int b), .sh (.int c)], by simp [asgT, asgV, grd, bnd, putF, putSl, slot, h4], ?_, _, rfl, rfl⟩
        have i1 := idx_grid G ha
        have i2 := idx_grid G hb
        have i3 := idx_row G ha hb
        have i4 := idx_row G hb hc
        have l1 := G.at_lt ha hb
        have l2 := G.at_lt hb hc
        have i5 := idx_grid G l1
        have i6 := idx_row G l1 hc
        have i7 := idx_row G ha l2
        have i8 := h a b c ha hb hc
        simp [bodyR3, exs, ex, ev, bnd, ret, grd, getv, slot, rd, opt, truthD, tst, i1, i2, i3, i4, i5, i6, i7, i8, cmpD, D.cmpable, D.pln, D.dep, D.pe, guardO]) [.sh (gridD g), .sh (.int n), .sh (.int a), .sh (.int b), s4] ⟨_, rfl, h4⟩
      exact ⟨[.sh (gridD g), .sh (.int n), .sh (.int a), .sh (.int b), s4], _, by simp [asgT, asgV, grd, bnd, putF, putSl, slot, h3], exs_one e, _, _, rfl, rfl, h4'⟩) [.sh (gridD g), .sh (.int n), .sh (.int a), s3, s4] ⟨_, _, rfl, h3, h4⟩
    exact ⟨[.sh (gridD g), .sh (.int n), .sh (.int a), s3, s4], _, by simp [asgT, asgV, grd, bnd, putF, putSl, slot, h2], exs_one e, _, _, _, rfl, rfl, h3', h4'⟩) [.sh (gridD g), .sh (.int n), .no, .no, .no] ⟨_, _, _, rfl, rfl, rfl, rfl⟩
  have ef : ex V (Iv.run V m) [false, false] false sR1 [.sh (gridD g), .sh (.int n), .no, .no, .no] = .ok .nx [.sh (gridD g), .sh (.int n), s2, s3, s4] := by unfold sR1; exact e
  have hb : f_group_fault.body = b_group_fault := rfl
  have hr : List.replicate (f_group_fault.nn - f_group_fault.np) Sl.no = [.no, .no, .no] := rfl
  rw [hb, hr, b_eqR]
  show finish _ (exs V (Iv.run V m) [false, false] false _ [.sh (gridD g), .sh (.int n), .no, .no, .no]) = _
  rw [exs_nx ef]
  simp [exs, ev, ex, bnd, ret, retA, finish, maskO, isOw]
/-! spread -/
def bodyS3 : List CS := [.asg (.var 6) (.idx (.idx (.var 1) (.var 3)) (.idx (.idx (.var 0) (.var 4)) (.var 5))), .ite (.cmp .NotEq (.var 6) (.idx (.idx (.var 0) (.idx (.idx (.var 1) (.var 3)) (.var 4))) (.idx (.idx (.var 1) (.var 3)) (.var 5)))) [.ret (.tup [(.var 3), (.var 4), (.var 5)])] []]
def bodyS2 : List CS := [.for_ (.var 5) "range" [(.var 2)] bodyS3]
def bodyS1 : List CS := [.for_ (.var 4) "range" [(.var 2)] bodyS2]
def sS1 : CS := .for_ (.var 3) "range" [(.var 2)] bodyS1
theorem b_eqS : b_spread_fault = [sS1, .ret (.cst .non)] := rfl
theorem spread_ok {m n : Nat} {p g : List (List Nat)} (P : GridOk n p) (G : GridOk n g) (hn : n ≤ 6) (h : ∀ a b c, a < n → b < n → c < n → at2 g a (at2 p b c) = at2 p (at2 g a b) (at2 g a c)) :
    Iv.run V (m + 1) "spread_fault" [.sh (gridD p), .sh (gridD g), .sh (.int n)] = .ok (.val .non) [.sh (gridD p), .sh (gridD g), .sh (.int n)] := by
  rw [run_eq (fn := f_spread_fault) rfl rfl]
  obtain ⟨ρ', e, s2, s3, s4, s5, rfl, h2, h3, h4, h5⟩ := for_rng (Φ := Iv.run V m) (pn := [false, false, false]) (i := 3) (j := 2) (n := n) (body := bodyS1) (fun ρ => ∃ s2 s3 s4 s5, ρ = [.sh (gridD p), .sh (gridD g), .sh (.int n), s2, s3, s4, s5] ∧ fixS s2 = false ∧ fixS s3 = false ∧ fixS s4 = false ∧ fixS s5 = false) (by omega) (fun ρ ⟨_, _, _, _, e, _⟩ => by subst e; rfl) (fun a ha ρ ⟨s2, s3, s4, s5, e, h2, h3, h4, h5⟩ => by
    subst e
    obtain ⟨ρ', e, s3', s4', s5', rfl, h3', h4', h5'⟩ := for_rng (Φ := Iv.run V m) (pn := [false, false, false]) (i := 4) (j := 2) (n := n) (body := bodyS2) (fun ρ => ∃ s3 s4 s5, ρ = [.sh (gridD p), .sh (gridD g), .sh (.int n), .sh (.int a), s3, s4, s5] ∧ fixS s3 = false ∧ fixS s4 = false ∧ fixS s5 = false) (by omega) (fun ρ ⟨_, _, _, e, _⟩ => by subst e; rfl) (fun b hb ρ ⟨s3, s4, s5, e, h3, h4, h5⟩ => by
      subst e
      obtain ⟨ρ', e, s4', s5', rfl, h4', h5'⟩ := for_rng (Φ := Iv.run V m) (pn := [false, false, false]) (i := 5) (j := 2) (n := n) (body := bodyS3) (fun ρ => ∃ s4 s5, ρ = [.sh (gridD p), .sh (gridD g), .sh (.int n), .sh (.int a), .sh (.int b), s4, s5] ∧ fixS s4 = false ∧ fixS s5 = false) (by omega) (fun ρ ⟨_, _, e, _⟩ => by subst e; rfl) (fun c hc ρ ⟨s4, s5, e, h4, h5⟩ => by
        subst e
        refine ⟨[.sh (gridD p), .sh (gridD g), .sh (.int n), .sh (.int a), .sh (.int b), .sh (.int c), s5], [.sh (gridD p), .sh (gridD g), .sh (.int n), .sh (.int a), .sh (.int b), .sh (.int c), .sh (.int (at2 g a (at2 p b c)))], by simp [asgT, asgV, grd, bnd, putF, putSl, slot, h4], ?_, _, _, rfl, rfl, rfl⟩
        have i1 := idx_grid G ha
        have i2 := idx_grid P hb
        have i3 := idx_row P hb hc
        have l1 := P.at_lt hb hc
        have i4 := idx_row G ha l1
        have i5 := idx_row G ha hb
        have i6 := idx_row G ha hc
        have l2 := G.at_lt ha hb
        have l3 := G.at_lt ha hc
        have i7 := idx_grid P l2
        have i8 := idx_row P l2 l3
        have i9 := h a b c ha hb hc
        simp [bodyS3, exs, ex, ev, bnd, ret, grd, getv, slot, rd, opt, truthD, tst, i1, i2, i3, i4, i5, i6, i7, i8, i9, cmpD, D.cmpable, D.pln, D.dep, D.pe, guardO, asgT, asgV, putF, putSl, isVarT, h5]) [.sh (gridD p), .sh (gridD g), .sh (.int n), .sh (.int a), .sh (.int b), s4, s5] ⟨_, _, rfl, h4, h5⟩
      exact ⟨[.sh (gridD p), .sh (gridD g), .sh (.int n), .sh (.int a), .sh (.int b), s4, s5], _, by simp [asgT, asgV, grd, bnd, putF, putSl, slot, h3], exs_one e, _, _, _, rfl, rfl, h4', h5'⟩) [.sh (gridD p), .sh (gridD g), .sh (.int n), .sh (.int a), s3, s4, s5] ⟨_, _, _, rfl, h3, h4, h5⟩
    exact ⟨[.sh (gridD p), .sh (gridD g), .sh (.int n), .sh (.int a), s3, s4, s5], _, by simp [asgT, asgV, grd, bnd, putF, putSl, slot, h2], exs_one e, _, _, _, _, rfl, rfl, h3', h4', h5'⟩) [.sh (gridD p), .sh (gridD g), .sh (.int n), .no, .no, .no, .no] ⟨_, _, _, _, rfl, rfl, rfl, rfl, rfl⟩
  have ef : ex V (Iv.run V m) [false, false, false] false sS1 [.sh (gridD p), .sh (gridD g), .sh (.int n), .no, .no, .no, .no] = .ok .nx [.sh (gridD p), .sh (gridD g), .sh (.int n), s2, s3, s4, s5] := by unfold sS1; exact e
  have hb : f_spread_fault.body = b_spread_fault := rfl
  have hr : List.replicate (f_spread_fault.nn - f_spread_fault.np) Sl.no = [.no, .no, .no, .no] := rfl
  rw [hb, hr, b_eqS]
  show finish _ (exs V (Iv.run V m) [false, false, false] false _ [.sh (gridD p), .sh (gridD g), .sh (.int n), .no, .no, .no, .no]) = _
  rw [exs_nx ef]
  simp [exs, ev, ex, bnd, ret, retA, finish, maskO, isOw]
end K05

set_option linter.all false
set_option maxRecDepth 100000
set_option autoImplicit false
set_option Elab.async false
set_option maxHeartbeats 400000
namespace K05
open Iv
def tabD (p g : List (List Nat)) : D := .tup [.str [116, 97, 98, 108, 101], gridD p, gridD g]
def one (n : Nat) : Nat := if n = 1 then 0 else 1
structure TabOk (n : Nat) (p g : List (List Nat)) : Prop where
  P : GridOk n p
  G : GridOk n g
  n1 : 1 ≤ n
  n6 : n ≤ 6
  pz : ∀ i x : Nat, (rw_ p 0)[i]? = some x → x = i
  pt : ∀ a b, a < n → b < n → at2 p a b = at2 p b a
  pg : ∀ a b c, a < n → b < n → c < n → at2 p (at2 p a b) c = at2 p a (at2 p b c)
  to : ∀ i x : Nat, (rw_ g (one n))[i]? = some x → x = i
  tt : ∀ a b, a < n → b < n → at2 g a b = at2 g b a
  tg : ∀ a b c, a < n → b < n → c < n → at2 g (at2 g a b) c = at2 g a (at2 g b c)
  tz : ∀ i x : Nat, (rw_ g 0)[i]? = some x → x = 0
  sp : ∀ a b c, a < n → b < n → c < n → at2 g a (at2 p b c) = at2 p (at2 g a b) (at2 g a c)
section
variable {n : Nat} {p g : List (List Nat)}
theorem t0 : idxD (tabD p g) (.int 0) = some (.str [116, 97, 98, 108, 101]) := rfl
theorem t1 : idxD (tabD p g) (.int 1) = some (gridD p) := rfl
theorem t2 : idxD (tabD p g) (.int 2) = some (gridD g) := rfl
theorem tlen : biD "len" [tabD p g] = some (.val (.int 3)) := rfl
theorem tisi : isiD (tabD p g) ["tuple"] = true := rfl
theorem gisi : isiD (gridD p) ["tuple"] = true := rfl
theorem ttru : truthD (tabD p g) = some true := rfl
theorem trb (b : Bool) : truthD (.bl b) = some b := rfl
theorem glen (h : GridOk n p) : biD "len" [gridD p] = some (.val (.int n)) := by
  show some (A.val (.int ((p.map rowD).length : Int))) = _
  rw [List.length_map, h.len]
theorem gmost : V.glob "MOST_ELEMENTS" = some (.int 6) := rfl
theorem form_ok {m : Nat} (T : TabOk n p g) : Iv.run V (m + 3) "has_table_form" [.sh (tabD p g)] = .ok (.val (.bl true)) [.sh (tabD p g)] := by
  rw [run_eq (fn := f_has_table_form) rfl rfl]
  have l := glen T.P
  have k1 := is_grid_ok (m := m) T.P T.n6
  have k2 := is_grid_ok (m := m) T.G T.n6
  have n1 := T.n1
  have n6 := T.n6
  have c1 : (1 : Int) ≤ (n : Int) := by omega
  have c2 : (n : Int) ≤ 6 := by omega
  have e1 : isiD (.str [116, 97, 98, 108, 101]) ["str"] = true := rfl
  have e2 : cmpD .NotEq (.str [116, 97, 98, 108, 101]) (.str [116, 97, 98, 108, 101]) = some false := rfl
  have e3 : cmpD .NotEq (.int 3) (.int 3) = some false := rfl
  have e4 : cmpD .LtE (.int 1) (.int n) = some true := by show some (decide ((1 : Int) ≤ (n : Int))) = _; rw [decide_eq_true c1]
  have e5 : cmpD .LtE (.int n) (.int 6) = some true := by show some (decide ((n : Int) ≤ 6)) = _; rw [decide_eq_true c2]
  simp [f_has_table_form, b_has_table_form, exs, ex, ev, evA, bnd, ret, grd, getv, slot, rd, rdL, opt, truthD, tst, coldBi, callM, slsOf, slOf, refs, nodupN, t0, t1, t2, tlen, tisi, gisi, l, k1, k2, e1, e2, e3, e4, e5, gmost, putOuts, asgT, asgV, putF, putSl, isVarT, fixS_no, retA, finish, maskO, isOw]
theorem min_one (h1 : 1 ≤ n) : biD "min" [.int 1, .int ((n : Int) - 1)] = some (.val (.int (one n : Nat))) := by
  show some (A.val (.int (if (n : Int) - 1 < 1 then (n : Int) - 1 else 1))) = _
  unfold one
  by_cases h : n = 1
  · subst h; rfl
  · rw [if_neg h, if_neg (by omega)]; rfl
def sF : CS := .for_ (.tup [(.var 3), (.var 4)]) "" [(.var 2)] [.ite (.cmp .IsNot (.var 4) (.cst .non)) [.ret (.tup [(.var 3), (.var 4)])] []]
def okL : List D := [.tup [.str [112, 108, 117, 115, 32, 122, 101, 114, 111], .non], .tup [.str [112, 108, 117, 115, 32, 116, 117, 114, 110, 101, 100], .non], .tup [.str [112, 108, 117, 115, 32, 103, 114, 111, 117, 112, 101, 100], .non], .tup [.str [116, 105, 109, 101, 115, 32, 111, 110, 101], .non], .tup [.str [116, 105, 109, 101, 115, 32, 116, 117, 114, 110, 101, 100], .non], .tup [.str [116, 105, 109, 101, 115, 32, 103, 114, 111, 117, 112, 101, 100], .non], .tup [.str [116, 105, 109, 101, 115, 32, 122, 101, 114, 111], .non], .tup [.str [100, 105, 115, 116, 114, 105, 98, 117, 116, 101, 115], .non]]
theorem sF_ok {Φ : String → Rho → COut} (x y : D) : ex V Φ [false] false sF [.sh x, .sh y, .ow (.lst okL), .no, .no] = .ok .nx [.sh x, .sh y, .ow (.lst okL), .sh (.str [100, 105, 115, 116, 114, 105, 98, 117, 116, 101, 115]), .sh .non] := by
  unfold sF okL
  simp [ex, exs, ev, evA, bnd, ret, grd, getv, slot, rd, rdL, opt, itemsOf, locked, toLock, refs, mapAt, lockS, unlockS, forL, asgT, asgTs, seqOf, asgV, putF, putSl, fixS_sh, fixS_no, cmpD, D.isNon, truthD, tst, Out.mapR]
theorem b_eqF : b_table_fault = b_table_fault.take 3 ++ [sF, .ret (.cst .non)] := rfl
theorem exs_app {Φ : String → Rho → COut} {pn : List Bool} : ∀ (l r : List CS) {ρ ρ' : Rho}, exs V Φ pn false l ρ = .ok .nx ρ' → exs V Φ pn false (l ++ r) ρ = exs V Φ pn false r ρ'
  | [], r, ρ, ρ', e => by cases e; rfl
  | s :: l, r, ρ, ρ', e => by
    have e0 : exs V Φ pn false (s :: l) ρ = bnd (ex V Φ pn false s) (fun f => match f with | .nx => exs V Φ pn false l | f => ret f) ρ := rfl
    rw [e0] at e
    have e1 : exs V Φ pn false (s :: l ++ r) ρ = bnd (ex V Φ pn false s) (fun f => match f with | .nx => exs V Φ pn false (l ++ r) | f => ret f) ρ := rfl
    rw [e1]
    unfold bnd at e ⊢
    cases q : ex V Φ pn false s ρ with
    | stuck => rw [q] at e; cases e
    | exc _ _ _ => rw [q] at e; cases e
    | ok f ρ1 =>
      rw [q] at e
      cases f with
      | nx => exact exs_app l r e
      | bk => cases e
      | ct => cases e
      | rt a => cases e
theorem take_ok {m : Nat} (T : TabOk n p g) : exs V (Iv.run V (m + 3)) [false] false (b_table_fault.take 3) [.sh (tabD p g), .no, .no, .no, .no] = .ok .nx [.sh (tabD p g), .sh (.int n), .ow (.lst okL), .no, .no] := by
  have h1 : b_table_fault.take 3 = [b_table_fault[0], b_table_fault[1], b_table_fault[2]] := rfl
  have l := glen T.P
  have k0 := form_ok (m := m) T
  have n0 : 0 < n := T.n1
  have no : one n < n := by unfold one; have := T.n1; split <;> omega
  have r1 := idx_grid T.P n0
  have r2 := idx_grid T.G n0
  have r3 := idx_grid T.G no
  have mo := min_one T.n1
  have u1 := unit_ok (m := m + 2) (r := rw_ p 0) T.pz
  have u2 := turn_ok (m := m + 2) T.P T.n6 T.pt
  have u3 := group_ok (m := m + 2) T.P T.n6 T.pg
  have u4 := unit_ok (m := m + 2) (r := rw_ g (one n)) T.to
  have u5 := turn_ok (m := m + 2) T.G T.n6 T.tt
  have u6 := group_ok (m := m + 2) T.G T.n6 T.tg
  have u7 := zero_ok (m := m + 2) (r := rw_ g 0) T.tz
  have u8 := spread_ok (m := m + 2) T.P T.G T.n6 T.sp
  have hc0 : ((0 : Nat) : Int) = 0 := rfl
  rw [hc0] at r1 r2
  rw [h1]
  simp [b_table_fault, exs, ex, ev, evA, evS, bnd, ret, grd, getv, slot, rd, rdL, opt, truthD, tst, coldBi, callM, slsOf, slOf, refs, nodupN, t0, t1, t2, l, k0, r1, r2, r3, mo, u1, u2, u3, u4, u5, u6, u7, u8, binD, putOuts, asgT, asgV, putF, putSl, stv, isVarT, fixS_no, sizeLine, okL]
theorem fault_ok {m : Nat} (T : TabOk n p g) : Iv.run V (m + 4) "table_fault" [.sh (tabD p g)] = .ok (.val .non) [.sh (tabD p g)] := by
  rw [run_eq (fn := f_table_fault) rfl rfl]
  have hb : f_table_fault.body = b_table_fault := rfl
  have hr : List.replicate (f_table_fault.nn - f_table_fault.np) Sl.no = [.no, .no, .no, .no] := rfl
  rw [hb, hr, b_eqF]
  show finish _ (exs V (Iv.run V (m + 3)) [false] false _ [.sh (tabD p g), .no, .no, .no, .no]) = _
  rw [exs_app _ _ (take_ok T), exs_nx (sF_ok _ _)]
  simp [exs, ev, ex, bnd, ret, retA, finish, maskO, isOw]
theorem semi_tab {m : Nat} (T : TabOk n p g) : Iv.run V (m + 5) "is_semiring" [.sh (tabD p g)] = .ok (.val (.bl true)) [.sh (tabD p g)] := by
  rw [run_eq (fn := f_is_semiring) rfl rfl]
  have k := fault_ok (m := m) T
  have e1 : isiD (.str [116, 97, 98, 108, 101]) ["str"] = true := rfl
  have e2 : cmpD .In (.str [116, 97, 98, 108, 101]) (.tup [.str [116, 114, 117, 116, 104], .str [99, 111, 117, 110, 116], .str [99, 111, 115, 116]]) = some false := by decide
  have e3 : cmpD .Eq (.str [116, 97, 98, 108, 101]) (.str [108, 101, 118, 101, 108]) = some false := rfl
  have e4 : cmpD .Eq (.str [116, 97, 98, 108, 101]) (.str [102, 114, 101, 101]) = some false := rfl
  have e5 : cmpD .Eq (.str [116, 97, 98, 108, 101]) (.str [116, 97, 98, 108, 101]) = some true := rfl
  have e6 : cmpD .Is .non .non = some true := rfl
  simp [f_is_semiring, b_is_semiring, exs, ex, ev, evA, evS, bnd, ret, grd, getv, slot, rd, rdL, opt, ttru, tst, coldBi, callM, slsOf, slOf, refs, nodupN, t0, tisi, k, e1, e2, e3, e4, e5, e6, trb, putOuts, stv, sizeLine, retA, finish, maskO, isOw]
end
end K05

set_option linter.all false
set_option maxRecDepth 100000
set_option autoImplicit false
set_option Elab.async false
set_option maxHeartbeats 1000000
namespace K05
open Iv
/-! ### semirings and weights -/
inductive SR where
  | truth | count | cost | level (t : Nat) | table (n : Nat) (p g : List (List Nat))
def SR.ok : SR → Prop
  | .level t => 1 ≤ t ∧ t ≤ 9
  | .table n p g => TabOk n p g
  | _ => True
def SR.d : SR → D
  | .truth => .tup [.str [116, 114, 117, 116, 104]]
  | .count => .tup [.str [99, 111, 117, 110, 116]]
  | .cost => .tup [.str [99, 111, 115, 116]]
  | .level t => .tup [.str [108, 101, 118, 101, 108], .int t]
  | .table _ p g => tabD p g
def sml : Int := 1606938044258990275541962092341162602522202993782792835301376
def big : Int := 10715086071862673209484250490600018105614048117055336074437503883703510511249361224931983788156958581275946729175531468251871452856923140435984577574698574803934567774824230985421074605062371141877954182153046474983581941267398767559165543946077062914571196477686542167660429831652624386837205668069376
inductive Wt : SR → D → Prop
  | truth (b : Bool) : Wt .truth (.bl b)
  | count (x : Int) : 0 ≤ x → x < big → Wt .count (.int x)
  | cost (x : Int) : 0 ≤ x → x < big → Wt .cost (.int x)
  | costN : Wt .cost .non
  | level (t : Nat) (x : Int) : 0 ≤ x → x ≤ t → Wt (.level t) (.int x)
  | table (n : Nat) (p g : List (List Nat)) (x : Nat) : x < n → Wt (.table n p g) (.int x)
theorem semi_ok {m : Nat} {s : SR} (h : s.ok) : Iv.run V (m + 5) "is_semiring" [.sh s.d] = .ok (.val (.bl true)) [.sh s.d] := by
  cases s with
  | truth => rfl
  | count => rfl
  | cost => rfl
  | level t =>
    obtain ⟨h1, h2⟩ := h
    have : t = 1 ∨ t = 2 ∨ t = 3 ∨ t = 4 ∨ t = 5 ∨ t = 6 ∨ t = 7 ∨ t = 8 ∨ t = 9 := by omega
    rcases this with rfl | rfl | rfl | rfl | rfl | rfl | rfl | rfl | rfl <;> rfl
  | table n p g => exact semi_tab h
theorem check_s {m : Nat} {s : SR} (h : s.ok) : Iv.run V (m + 6) "check_semiring" [.sh s.d] = .ok (.val .non) [.sh s.d] := by
  rw [run_eq (fn := f_check_semiring) rfl rfl]
  have k := semi_ok (m := m) h
  simp [f_check_semiring, b_check_semiring, exs, ex, ev, evA, evS, evO, evTs, bnd, ret, grd, getv, slot, rd, rdL, opt, truthD, tst, biD, coldBi, callM, slsOf, slOf, refs, nodupN, pickL, idxD, ixN, inD, memD, putOuts, owAt, cmpD, ltD, leD, D.cmpable, D.pln, D.plnL, D.dep, D.depL, D.pe, D.peL, D.isNon, guardO, isiD, tyNames, binD, asgT, asgTs, seqOf, asgV, putF, putSl, stv, isVarT, fixS_sh, fixS_no, fixS_ow, retA, finish, maskO, isOw, sizeLine, fail, k]
theorem fits_ok {m : Nat} {s : SR} {a : D} (w : Wt s a) (h : s.ok) : Iv.run V (m + 2) "fits" [.sh s.d, .sh a] = .ok (.val (.bl true)) [.sh s.d, .sh a] := by
  have k : ∀ x : Int, Iv.run V (m + 1) "is_integer" [.sh (.int x)] = .ok (.val (.bl true)) [.sh (.int x)] := fun x => rfl
  rw [run_eq (fn := f_fits) rfl rfl]
  cases w with
  | truth b => simp [f_fits, b_fits, exs, ex, ev, evA, evS, evO, evTs, bnd, ret, grd, getv, slot, rd, rdL, opt, truthD, tst, biD, coldBi, callM, slsOf, slOf, refs, nodupN, pickL, idxD, ixN, inD, memD, putOuts, owAt, cmpD, ltD, leD, D.cmpable, D.pln, D.plnL, D.dep, D.depL, D.pe, D.peL, D.isNon, guardO, isiD, tyNames, binD, asgT, asgTs, seqOf, asgV, putF, putSl, stv, isVarT, fixS_sh, fixS_no, fixS_ow, retA, finish, maskO, isOw, sizeLine, fail, SR.d]
  | count x h1 h2 =>
    have e : ¬ x < 0 := by omega
    simp [f_fits, b_fits, exs, ex, ev, evA, evS, evO, evTs, bnd, ret, grd, getv, slot, rd, rdL, opt, truthD, tst, biD, coldBi, callM, slsOf, slOf, refs, nodupN, pickL, idxD, ixN, inD, memD, putOuts, owAt, cmpD, ltD, leD, D.cmpable, D.pln, D.plnL, D.dep, D.depL, D.pe, D.peL, D.isNon, guardO, isiD, tyNames, binD, asgT, asgTs, seqOf, asgV, putF, putSl, stv, isVarT, fixS_sh, fixS_no, fixS_ow, retA, finish, maskO, isOw, sizeLine, fail, SR.d, k, e]
  | cost x h1 h2 =>
    have e : ¬ x < 0 := by omega
    simp [f_fits, b_fits, exs, ex, ev, evA, evS, evO, evTs, bnd, ret, grd, getv, slot, rd, rdL, opt, truthD, tst, biD, coldBi, callM, slsOf, slOf, refs, nodupN, pickL, idxD, ixN, inD, memD, putOuts, owAt, cmpD, ltD, leD, D.cmpable, D.pln, D.plnL, D.dep, D.depL, D.pe, D.peL, D.isNon, guardO, isiD, tyNames, binD, asgT, asgTs, seqOf, asgV, putF, putSl, stv, isVarT, fixS_sh, fixS_no, fixS_ow, retA, finish, maskO, isOw, sizeLine, fail, SR.d, k, e]
  | costN => simp [f_fits, b_fits, exs, ex, ev, evA, evS, evO, evTs, bnd, ret, grd, getv, slot, rd, rdL, opt, truthD, tst, biD, coldBi, callM, slsOf, slOf, refs, nodupN, pickL, idxD, ixN, inD, memD, putOuts, owAt, cmpD, ltD, leD, D.cmpable, D.pln, D.plnL, D.dep, D.depL, D.pe, D.peL, D.isNon, guardO, isiD, tyNames, binD, asgT, asgTs, seqOf, asgV, putF, putSl, stv, isVarT, fixS_sh, fixS_no, fixS_ow, retA, finish, maskO, isOw, sizeLine, fail, SR.d, k]
  | level t x h1 h2 =>
    have e : ¬ x < 0 := by omega
    simp [f_fits, b_fits, exs, ex, ev, evA, evS, evO, evTs, bnd, ret, grd, getv, slot, rd, rdL, opt, truthD, tst, biD, coldBi, callM, slsOf, slOf, refs, nodupN, pickL, idxD, ixN, inD, memD, putOuts, owAt, cmpD, ltD, leD, D.cmpable, D.pln, D.plnL, D.dep, D.depL, D.pe, D.peL, D.isNon, guardO, isiD, tyNames, binD, asgT, asgTs, seqOf, asgV, putF, putSl, stv, isVarT, fixS_sh, fixS_no, fixS_ow, retA, finish, maskO, isOw, sizeLine, fail, SR.d, k, e, h2]
  | table n p g x h1 =>
    have e : ¬ (x : Int) < 0 := by omega
    have e2 : (x : Int) < n := by omega
    have e3 := glen h.P
    simp [f_fits, b_fits, exs, ex, ev, evA, evS, evO, evTs, bnd, ret, grd, getv, slot, rd, rdL, opt, truthD, tst, coldBi, callM, slsOf, slOf, refs, nodupN, pickL, inD, memD, owAt, cmpD, ltD, leD, D.cmpable, D.pln, D.plnL, D.dep, D.depL, D.pe, D.peL, D.isNon, guardO, binD, asgT, asgTs, seqOf, asgV, putF, putSl, stv, isVarT, fixS_sh, fixS_no, fixS_ow, retA, finish, maskO, isOw, fail, putOuts, SR.d, k, e, t0, t1, e3, e2]
theorem check_w {m : Nat} {s : SR} {a : D} (w : Wt s a) (h : s.ok) : Iv.run V (m + 3) "check_weight" [.sh s.d, .sh a] = .ok (.val .non) [.sh s.d, .sh a] := by
  rw [run_eq (fn := f_check_weight) rfl rfl]
  have k := fits_ok (m := m) w h
  simp [f_check_weight, b_check_weight, exs, ex, ev, evA, evS, evO, evTs, bnd, ret, grd, getv, slot, rd, rdL, opt, truthD, tst, biD, coldBi, callM, slsOf, slOf, refs, nodupN, pickL, idxD, ixN, inD, memD, putOuts, owAt, cmpD, ltD, leD, D.cmpable, D.pln, D.plnL, D.dep, D.depL, D.pe, D.peL, D.isNon, guardO, isiD, tyNames, binD, asgT, asgTs, seqOf, asgV, putF, putSl, stv, isVarT, fixS_sh, fixS_no, fixS_ow, retA, finish, maskO, isOw, sizeLine, fail, k]
theorem check_2 {m : Nat} {s : SR} {a b : D} (h : s.ok) (wa : Wt s a) (wb : Wt s b) : Iv.run V (m + 7) "check_two" [.sh s.d, .sh a, .sh b] = .ok (.val .non) [.sh s.d, .sh a, .sh b] := by
  rw [run_eq (fn := f_check_two) rfl rfl]
  have k := check_s (m := m) h
  have k1 := check_w (m := m + 3) wa h
  have k2 := check_w (m := m + 3) wb h
  simp [f_check_two, b_check_two, exs, ex, ev, evA, evS, evO, evTs, bnd, ret, grd, getv, slot, rd, rdL, opt, truthD, tst, biD, coldBi, callM, slsOf, slOf, refs, nodupN, pickL, idxD, ixN, inD, memD, putOuts, owAt, cmpD, ltD, leD, D.cmpable, D.pln, D.plnL, D.dep, D.depL, D.pe, D.peL, D.isNon, guardO, isiD, tyNames, binD, asgT, asgTs, seqOf, asgV, putF, putSl, stv, isVarT, fixS_sh, fixS_no, fixS_ow, retA, finish, maskO, isOw, sizeLine, fail, k, k1, k2]
end K05

set_option linter.all false
set_option maxRecDepth 100000
set_option autoImplicit false
set_option Elab.async false
set_option maxHeartbeats 1000000
namespace K05
open Iv
inductive Flat : D → Prop
  | non : Flat .non
  | bl (b : Bool) : Flat (.bl b)
  | int (i : Int) : Flat (.int i)
theorem log_big {x : Int} (h1 : 0 ≤ x) (h2 : x < big) : x.natAbs.log2 < 50000000 :=
  Nat.lt_of_lt_of_le (small_log (k := 1000) (by unfold big at h2; omega) (by decide)) (by decide)
theorem gisT {n : Nat} {p g : List (List Nat)} (h : TabOk n p g) {x : Nat} (hx : x < n) {y : Nat} (hy : y < n) : (idxD (gridD p) (.int x) = some (rowD (rw_ p x)) ∧ idxD (rowD (rw_ p x)) (.int y) = some (.int (at2 p x y))) ∧ (idxD (gridD g) (.int x) = some (rowD (rw_ g x)) ∧ idxD (rowD (rw_ g x)) (.int y) = some (.int (at2 g x y))) :=
  ⟨⟨idx_grid h.P hx, idx_row h.P hx hy⟩, ⟨idx_grid h.G hx, idx_row h.G hx hy⟩⟩
def addR : SR → D → D → D
  | .truth, .bl a, .bl b => .bl (a || b)
  | .count, .int a, .int b => .int (a + b)
  | .cost, .non, b => b
  | .cost, a, .non => a
  | .cost, .int a, .int b => .int (if b < a then b else a)
  | .level _, .int a, .int b => .int (if b > a then b else a)
  | .table _ p _, .int a, .int b => .int (at2 p a.toNat b.toNat)
  | _, _, _ => .non
def mulR : SR → D → D → D
  | .truth, .bl a, .bl b => .bl (a && b)
  | .count, .int a, .int b => .int (a * b)
  | .cost, .non, b => .non
  | .cost, a, .non => .non
  | .cost, .int a, .int b => .int (a + b)
  | .level _, .int a, .int b => .int (if b < a then b else a)
  | .table _ _ g, .int a, .int b => .int (at2 g a.toNat b.toNat)
  | _, _, _ => .non
theorem addR_flat (s : SR) {a b : D} (wa : Wt s a) (wb : Wt s b) : Flat (addR s a b) := by
  cases wa <;> cases wb <;> simp only [addR] <;> constructor
theorem mulR_flat (s : SR) {a b : D} (wa : Wt s a) (wb : Wt s b) : Flat (mulR s a b) := by
  cases wa <;> cases wb <;> simp only [mulR] <;> constructor
theorem plus_in_ok {m : Nat} {s : SR} {a b : D} (h : s.ok) (wa : Wt s a) (wb : Wt s b) : Iv.run V (m + 1) "plus_in" [.sh s.d, .sh a, .sh b] = .ok (.val (addR s a b)) [.sh s.d, .sh a, .sh b] := by
  rw [run_eq (fn := f_plus_in) rfl rfl]
  cases wa with
  | truth x => cases wb with
    | truth y => cases x <;> simp [f_plus_in, b_plus_in, exs, ex, ev, evA, evS, evO, evTs, bnd, ret, grd, getv, slot, rd, rdL, opt, truthD, tst, biD, coldBi, callM, slsOf, slOf, refs, nodupN, pickL, idxD, ixN, inD, memD, putOuts, owAt, cmpD, ltD, leD, D.cmpable, D.pln, D.plnL, D.dep, D.depL, D.pe, D.peL, D.isNon, guardO, isiD, tyNames, binD, asgT, asgTs, seqOf, asgV, putF, putSl, stv, isVarT, fixS_sh, fixS_no, fixS_ow, retA, finish, maskO, isOw, sizeLine, fail, SR.d, addR]
  | count x _ _ => cases wb with
    | count y _ _ => simp [f_plus_in, b_plus_in, exs, ex, ev, evA, evS, evO, evTs, bnd, ret, grd, getv, slot, rd, rdL, opt, truthD, tst, biD, coldBi, callM, slsOf, slOf, refs, nodupN, pickL, idxD, ixN, inD, memD, putOuts, owAt, cmpD, ltD, leD, D.cmpable, D.pln, D.plnL, D.dep, D.depL, D.pe, D.peL, D.isNon, guardO, isiD, tyNames, binD, asgT, asgTs, seqOf, asgV, putF, putSl, stv, isVarT, fixS_sh, fixS_no, fixS_ow, retA, finish, maskO, isOw, sizeLine, fail, SR.d, addR]
  | cost x _ _ => cases wb with
    | cost y _ _ => simp [f_plus_in, b_plus_in, exs, ex, ev, evA, evS, evO, evTs, bnd, ret, grd, getv, slot, rd, rdL, opt, truthD, tst, biD, coldBi, callM, slsOf, slOf, refs, nodupN, pickL, idxD, ixN, inD, memD, putOuts, owAt, cmpD, ltD, leD, D.cmpable, D.pln, D.plnL, D.dep, D.depL, D.pe, D.peL, D.isNon, guardO, isiD, tyNames, binD, asgT, asgTs, seqOf, asgV, putF, putSl, stv, isVarT, fixS_sh, fixS_no, fixS_ow, retA, finish, maskO, isOw, sizeLine, fail, SR.d, addR]
    | costN => simp [f_plus_in, b_plus_in, exs, ex, ev, evA, evS, evO, evTs, bnd, ret, grd, getv, slot, rd, rdL, opt, truthD, tst, biD, coldBi, callM, slsOf, slOf, refs, nodupN, pickL, idxD, ixN, inD, memD, putOuts, owAt, cmpD, ltD, leD, D.cmpable, D.pln, D.plnL, D.dep, D.depL, D.pe, D.peL, D.isNon, guardO, isiD, tyNames, binD, asgT, asgTs, seqOf, asgV, putF, putSl, stv, isVarT, fixS_sh, fixS_no, fixS_ow, retA, finish, maskO, isOw, sizeLine, fail, SR.d, addR]
  | costN => cases wb with
    | cost y _ _ => simp [f_plus_in, b_plus_in, exs, ex, ev, evA, evS, evO, evTs, bnd, ret, grd, getv, slot, rd, rdL, opt, truthD, tst, biD, coldBi, callM, slsOf, slOf, refs, nodupN, pickL, idxD, ixN, inD, memD, putOuts, owAt, cmpD, ltD, leD, D.cmpable, D.pln, D.plnL, D.dep, D.depL, D.pe, D.peL, D.isNon, guardO, isiD, tyNames, binD, asgT, asgTs, seqOf, asgV, putF, putSl, stv, isVarT, fixS_sh, fixS_no, fixS_ow, retA, finish, maskO, isOw, sizeLine, fail, SR.d, addR]
    | costN => simp [f_plus_in, b_plus_in, exs, ex, ev, evA, evS, evO, evTs, bnd, ret, grd, getv, slot, rd, rdL, opt, truthD, tst, biD, coldBi, callM, slsOf, slOf, refs, nodupN, pickL, idxD, ixN, inD, memD, putOuts, owAt, cmpD, ltD, leD, D.cmpable, D.pln, D.plnL, D.dep, D.depL, D.pe, D.peL, D.isNon, guardO, isiD, tyNames, binD, asgT, asgTs, seqOf, asgV, putF, putSl, stv, isVarT, fixS_sh, fixS_no, fixS_ow, retA, finish, maskO, isOw, sizeLine, fail, SR.d, addR]
  | level t x _ _ => cases wb with
    | level _ y _ _ => simp [f_plus_in, b_plus_in, exs, ex, ev, evA, evS, evO, evTs, bnd, ret, grd, getv, slot, rd, rdL, opt, truthD, tst, biD, coldBi, callM, slsOf, slOf, refs, nodupN, pickL, idxD, ixN, inD, memD, putOuts, owAt, cmpD, ltD, leD, D.cmpable, D.pln, D.plnL, D.dep, D.depL, D.pe, D.peL, D.isNon, guardO, isiD, tyNames, binD, asgT, asgTs, seqOf, asgV, putF, putSl, stv, isVarT, fixS_sh, fixS_no, fixS_ow, retA, finish, maskO, isOw, sizeLine, fail, SR.d, addR]
  | table n p g x hx => cases wb with
    | table _ _ _ y hy =>
      obtain ⟨⟨i1, i2⟩, _⟩ := gisT h hx hy
      simp [f_plus_in, b_plus_in, exs, ex, ev, evA, evS, evO, evTs, bnd, ret, grd, getv, slot, rd, rdL, opt, truthD, tst, coldBi, callM, slsOf, slOf, refs, nodupN, pickL, inD, memD, owAt, cmpD, ltD, leD, D.cmpable, D.pln, D.plnL, D.dep, D.depL, D.pe, D.peL, D.isNon, guardO, binD, asgT, asgTs, seqOf, asgV, putF, putSl, stv, isVarT, fixS_sh, fixS_no, fixS_ow, retA, finish, maskO, isOw, fail, putOuts, SR.d, addR, t0, t1, i1, i2]
theorem times_in_ok {m : Nat} {s : SR} {a b : D} (h : s.ok) (wa : Wt s a) (wb : Wt s b) : Iv.run V (m + 1) "times_in" [.sh s.d, .sh a, .sh b] = .ok (.val (mulR s a b)) [.sh s.d, .sh a, .sh b] := by
  rw [run_eq (fn := f_times_in) rfl rfl]
  cases wa with
  | truth x => cases wb with
    | truth y => cases x <;> simp [f_times_in, b_times_in, exs, ex, ev, evA, evS, evO, evTs, bnd, ret, grd, getv, slot, rd, rdL, opt, truthD, tst, biD, coldBi, callM, slsOf, slOf, refs, nodupN, pickL, idxD, ixN, inD, memD, putOuts, owAt, cmpD, ltD, leD, D.cmpable, D.pln, D.plnL, D.dep, D.depL, D.pe, D.peL, D.isNon, guardO, isiD, tyNames, binD, asgT, asgTs, seqOf, asgV, putF, putSl, stv, isVarT, fixS_sh, fixS_no, fixS_ow, retA, finish, maskO, isOw, sizeLine, fail, SR.d, mulR]
  | count x h1 h2 => cases wb with
    | count y h3 h4 => simp [f_times_in, b_times_in, exs, ex, ev, evA, evS, evO, evTs, bnd, ret, grd, getv, slot, rd, rdL, opt, truthD, tst, biD, coldBi, callM, slsOf, slOf, refs, nodupN, pickL, idxD, ixN, inD, memD, putOuts, owAt, cmpD, ltD, leD, D.cmpable, D.pln, D.plnL, D.dep, D.depL, D.pe, D.peL, D.isNon, guardO, isiD, tyNames, binD, asgT, asgTs, seqOf, asgV, putF, putSl, stv, isVarT, fixS_sh, fixS_no, fixS_ow, retA, finish, maskO, isOw, sizeLine, fail, SR.d, mulR, mul_ok (log_big h1 h2) (log_big h3 h4)]
  | cost x _ _ => cases wb with
    | cost y _ _ => simp [f_times_in, b_times_in, exs, ex, ev, evA, evS, evO, evTs, bnd, ret, grd, getv, slot, rd, rdL, opt, truthD, tst, biD, coldBi, callM, slsOf, slOf, refs, nodupN, pickL, idxD, ixN, inD, memD, putOuts, owAt, cmpD, ltD, leD, D.cmpable, D.pln, D.plnL, D.dep, D.depL, D.pe, D.peL, D.isNon, guardO, isiD, tyNames, binD, asgT, asgTs, seqOf, asgV, putF, putSl, stv, isVarT, fixS_sh, fixS_no, fixS_ow, retA, finish, maskO, isOw, sizeLine, fail, SR.d, mulR]
    | costN => simp [f_times_in, b_times_in, exs, ex, ev, evA, evS, evO, evTs, bnd, ret, grd, getv, slot, rd, rdL, opt, truthD, tst, biD, coldBi, callM, slsOf, slOf, refs, nodupN, pickL, idxD, ixN, inD, memD, putOuts, owAt, cmpD, ltD, leD, D.cmpable, D.pln, D.plnL, D.dep, D.depL, D.pe, D.peL, D.isNon, guardO, isiD, tyNames, binD, asgT, asgTs, seqOf, asgV, putF, putSl, stv, isVarT, fixS_sh, fixS_no, fixS_ow, retA, finish, maskO, isOw, sizeLine, fail, SR.d, mulR]
  | costN => cases wb with
    | cost y _ _ => simp [f_times_in, b_times_in, exs, ex, ev, evA, evS, evO, evTs, bnd, ret, grd, getv, slot, rd, rdL, opt, truthD, tst, biD, coldBi, callM, slsOf, slOf, refs, nodupN, pickL, idxD, ixN, inD, memD, putOuts, owAt, cmpD, ltD, leD, D.cmpable, D.pln, D.plnL, D.dep, D.depL, D.pe, D.peL, D.isNon, guardO, isiD, tyNames, binD, asgT, asgTs, seqOf, asgV, putF, putSl, stv, isVarT, fixS_sh, fixS_no, fixS_ow, retA, finish, maskO, isOw, sizeLine, fail, SR.d, mulR]
    | costN => simp [f_times_in, b_times_in, exs, ex, ev, evA, evS, evO, evTs, bnd, ret, grd, getv, slot, rd, rdL, opt, truthD, tst, biD, coldBi, callM, slsOf, slOf, refs, nodupN, pickL, idxD, ixN, inD, memD, putOuts, owAt, cmpD, ltD, leD, D.cmpable, D.pln, D.plnL, D.dep, D.depL, D.pe, D.peL, D.isNon, guardO, isiD, tyNames, binD, asgT, asgTs, seqOf, asgV, putF, putSl, stv, isVarT, fixS_sh, fixS_no, fixS_ow, retA, finish, maskO, isOw, sizeLine, fail, SR.d, mulR]
  | level t x _ _ => cases wb with
    | level _ y _ _ => simp [f_times_in, b_times_in, exs, ex, ev, evA, evS, evO, evTs, bnd, ret, grd, getv, slot, rd, rdL, opt, truthD, tst, biD, coldBi, callM, slsOf, slOf, refs, nodupN, pickL, idxD, ixN, inD, memD, putOuts, owAt, cmpD, ltD, leD, D.cmpable, D.pln, D.plnL, D.dep, D.depL, D.pe, D.peL, D.isNon, guardO, isiD, tyNames, binD, asgT, asgTs, seqOf, asgV, putF, putSl, stv, isVarT, fixS_sh, fixS_no, fixS_ow, retA, finish, maskO, isOw, sizeLine, fail, SR.d, mulR]
  | table n p g x hx => cases wb with
    | table _ _ _ y hy =>
      obtain ⟨_, i1, i2⟩ := gisT h hx hy
      simp [f_times_in, b_times_in, exs, ex, ev, evA, evS, evO, evTs, bnd, ret, grd, getv, slot, rd, rdL, opt, truthD, tst, coldBi, callM, slsOf, slOf, refs, nodupN, pickL, inD, memD, owAt, cmpD, ltD, leD, D.cmpable, D.pln, D.plnL, D.dep, D.depL, D.pe, D.peL, D.isNon, guardO, binD, asgT, asgTs, seqOf, asgV, putF, putSl, stv, isVarT, fixS_sh, fixS_no, fixS_ow, retA, finish, maskO, isOw, fail, putOuts, SR.d, mulR, t0, t2, i1, i2]
theorem plus_ok {m : Nat} {s : SR} {a b : D} (h : s.ok) (wa : Wt s a) (wb : Wt s b) : Iv.run V (m + 8) "plus" [.sh s.d, .sh a, .sh b] = .ok (.val (addR s a b)) [.sh s.d, .sh a, .sh b] := by
  rw [run_eq (fn := f_plus) rfl rfl]
  have k1 := check_2 (m := m) h wa wb
  have k2 := plus_in_ok (m := m + 6) h wa wb
  simp [f_plus, b_plus, exs, ex, ev, evA, evS, evO, evTs, bnd, ret, grd, getv, slot, rd, rdL, opt, truthD, tst, biD, coldBi, callM, slsOf, slOf, refs, nodupN, pickL, idxD, ixN, inD, memD, putOuts, owAt, cmpD, ltD, leD, D.cmpable, D.pln, D.plnL, D.dep, D.depL, D.pe, D.peL, D.isNon, guardO, isiD, tyNames, binD, asgT, asgTs, seqOf, asgV, putF, putSl, stv, isVarT, fixS_sh, fixS_no, fixS_ow, retA, finish, maskO, isOw, sizeLine, fail, k1, k2]
theorem times_ok {m : Nat} {s : SR} {a b : D} (h : s.ok) (wa : Wt s a) (wb : Wt s b) : Iv.run V (m + 8) "times" [.sh s.d, .sh a, .sh b] = .ok (.val (mulR s a b)) [.sh s.d, .sh a, .sh b] := by
  rw [run_eq (fn := f_times) rfl rfl]
  have k1 := check_2 (m := m) h wa wb
  have k2 := times_in_ok (m := m + 6) h wa wb
  simp [f_times, b_times, exs, ex, ev, evA, evS, evO, evTs, bnd, ret, grd, getv, slot, rd, rdL, opt, truthD, tst, biD, coldBi, callM, slsOf, slOf, refs, nodupN, pickL, idxD, ixN, inD, memD, putOuts, owAt, cmpD, ltD, leD, D.cmpable, D.pln, D.plnL, D.dep, D.depL, D.pe, D.peL, D.isNon, guardO, isiD, tyNames, binD, asgT, asgTs, seqOf, asgV, putF, putSl, stv, isVarT, fixS_sh, fixS_no, fixS_ow, retA, finish, maskO, isOw, sizeLine, fail, k1, k2]
def zeroR : SR → D
  | .truth => .bl false
  | .cost => .non
  | _ => .int 0
theorem zeroOf_ok {m : Nat} {s : SR} (h : s.ok) : Iv.run V (m + 7) "zero_of" [.sh s.d] = .ok (.val (zeroR s)) [.sh s.d] := by
  rw [run_eq (fn := f_zero_of) rfl rfl]
  have k1 := check_s (m := m) h
  have k2 : Iv.run V (m + 6) "zero_in" [.sh s.d] = .ok (.val (zeroR s)) [.sh s.d] := by cases s <;> rfl
  simp [f_zero_of, b_zero_of, exs, ex, ev, evA, evS, evO, evTs, bnd, ret, grd, getv, slot, rd, rdL, opt, truthD, tst, biD, coldBi, callM, slsOf, slOf, refs, nodupN, pickL, idxD, ixN, inD, memD, putOuts, owAt, cmpD, ltD, leD, D.cmpable, D.pln, D.plnL, D.dep, D.depL, D.pe, D.peL, D.isNon, guardO, isiD, tyNames, binD, asgT, asgTs, seqOf, asgV, putF, putSl, stv, isVarT, fixS_sh, fixS_no, fixS_ow, retA, finish, maskO, isOw, sizeLine, fail, k1, k2]
def mostR : SR → D → D → Bool
  | .truth, .bl a, .bl b => b || !a
  | .count, .int a, .int b => decide (a ≤ b)
  | .cost, .non, _ => true
  | .cost, _, .non => false
  | .cost, .int a, .int b => decide (b ≤ a)
  | .level _, .int a, .int b => decide (a ≤ b)
  | .table n p _, .int a, .int b => (List.range n).any fun c => at2 p a.toNat c == b.toNat
  | _, _, _ => false
theorem rw_range {n : Nat} {p : List (List Nat)} (h : GridOk n p) {x : Nat} (hx : x < n) : rw_ p x = (List.range n).map fun c => at2 p x c := by
  obtain ⟨_, m⟩ := h.rowAt hx
  have hl := h.row _ m
  apply List.ext_getElem?
  intro i
  rw [List.getElem?_map]
  by_cases hi : i < n
  · rw [List.getElem?_range hi]
    have e : (rw_ p x)[i]? = some ((rw_ p x)[i]'(by omega)) := List.getElem?_eq_getElem (by omega)
    rw [e]
    show _ = some (at2 p x i)
    unfold at2
    rw [List.getD_eq_getElem?_getD (l := rw_ p x), e]
    rfl
  · rw [List.getElem?_eq_none (by omega), List.getElem?_eq_none (by simp; omega)]
    rfl
theorem memD_ints (y : Nat) : ∀ (l : List Nat), memD (.int y) (l.map fun (x : Nat) => D.int x) = l.any fun c => c == y
  | [] => rfl
  | c :: l => by
    show (D.pe (.int c) (.int y) || memD (.int y) (l.map fun (x : Nat) => D.int x)) = _
    rw [memD_ints y l, List.any_cons]
    congr 1
    show ((c : Int) == (y : Int)) = (c == y)
    by_cases h : c = y
    · subst h; simp
    · have h2 : (c : Int) ≠ (y : Int) := by omega
      rw [beq_eq_false_iff_ne.mpr h2, beq_eq_false_iff_ne.mpr h]
theorem pln_ints : ∀ (l : List Nat), D.plnL (l.map fun (x : Nat) => D.int x) = true
  | [] => rfl
  | c :: l => by simp [D.plnL, D.pln, pln_ints l]
theorem in_row {n : Nat} {p : List (List Nat)} (h : GridOk n p) {x : Nat} (hx : x < n) (y : Nat) : cmpD .In (.int y) (rowD (rw_ p x)) = some ((List.range n).any fun c => at2 p x c == y) := by
  show guardO (D.cmpable (.int y) && D.plnL ((rw_ p x).map fun (x : Nat) => D.int x)) (memD (.int y) ((rw_ p x).map fun (x : Nat) => D.int x)) = _
  rw [pln_ints, memD_ints, rw_range h hx, List.any_map]
  rfl
theorem at_most_in_ok {m : Nat} {s : SR} {a b : D} (h : s.ok) (wa : Wt s a) (wb : Wt s b) : Iv.run V (m + 1) "at_most_in" [.sh s.d, .sh a, .sh b] = .ok (.val (.bl (mostR s a b))) [.sh s.d, .sh a, .sh b] := by
  rw [run_eq (fn := f_at_most_in) rfl rfl]
  cases wa with
  | truth x => cases wb with
    | truth y => cases x <;> cases y <;> simp [f_at_most_in, b_at_most_in, exs, ex, ev, evA, evS, evO, evTs, bnd, ret, grd, getv, slot, rd, rdL, opt, truthD, tst, biD, coldBi, callM, slsOf, slOf, refs, nodupN, pickL, idxD, ixN, inD, memD, putOuts, owAt, cmpD, ltD, leD, D.cmpable, D.pln, D.plnL, D.dep, D.depL, D.pe, D.peL, D.isNon, guardO, isiD, tyNames, binD, asgT, asgTs, seqOf, asgV, putF, putSl, stv, isVarT, fixS_sh, fixS_no, fixS_ow, retA, finish, maskO, isOw, sizeLine, fail, SR.d, mostR]
  | count x _ _ => cases wb with
    | count y _ _ => simp [f_at_most_in, b_at_most_in, exs, ex, ev, evA, evS, evO, evTs, bnd, ret, grd, getv, slot, rd, rdL, opt, truthD, tst, biD, coldBi, callM, slsOf, slOf, refs, nodupN, pickL, idxD, ixN, inD, memD, putOuts, owAt, cmpD, ltD, leD, D.cmpable, D.pln, D.plnL, D.dep, D.depL, D.pe, D.peL, D.isNon, guardO, isiD, tyNames, binD, asgT, asgTs, seqOf, asgV, putF, putSl, stv, isVarT, fixS_sh, fixS_no, fixS_ow, retA, finish, maskO, isOw, sizeLine, fail, SR.d, mostR]
  | cost x _ _ => cases wb with
    | cost y _ _ => simp [f_at_most_in, b_at_most_in, exs, ex, ev, evA, evS, evO, evTs, bnd, ret, grd, getv, slot, rd, rdL, opt, truthD, tst, biD, coldBi, callM, slsOf, slOf, refs, nodupN, pickL, idxD, ixN, inD, memD, putOuts, owAt, cmpD, ltD, leD, D.cmpable, D.pln, D.plnL, D.dep, D.depL, D.pe, D.peL, D.isNon, guardO, isiD, tyNames, binD, asgT, asgTs, seqOf, asgV, putF, putSl, stv, isVarT, fixS_sh, fixS_no, fixS_ow, retA, finish, maskO, isOw, sizeLine, fail, SR.d, mostR]
    | costN => simp [f_at_most_in, b_at_most_in, exs, ex, ev, evA, evS, evO, evTs, bnd, ret, grd, getv, slot, rd, rdL, opt, truthD, tst, biD, coldBi, callM, slsOf, slOf, refs, nodupN, pickL, idxD, ixN, inD, memD, putOuts, owAt, cmpD, ltD, leD, D.cmpable, D.pln, D.plnL, D.dep, D.depL, D.pe, D.peL, D.isNon, guardO, isiD, tyNames, binD, asgT, asgTs, seqOf, asgV, putF, putSl, stv, isVarT, fixS_sh, fixS_no, fixS_ow, retA, finish, maskO, isOw, sizeLine, fail, SR.d, mostR]
  | costN => cases wb with
    | cost y _ _ => simp [f_at_most_in, b_at_most_in, exs, ex, ev, evA, evS, evO, evTs, bnd, ret, grd, getv, slot, rd, rdL, opt, truthD, tst, biD, coldBi, callM, slsOf, slOf, refs, nodupN, pickL, idxD, ixN, inD, memD, putOuts, owAt, cmpD, ltD, leD, D.cmpable, D.pln, D.plnL, D.dep, D.depL, D.pe, D.peL, D.isNon, guardO, isiD, tyNames, binD, asgT, asgTs, seqOf, asgV, putF, putSl, stv, isVarT, fixS_sh, fixS_no, fixS_ow, retA, finish, maskO, isOw, sizeLine, fail, SR.d, mostR]
    | costN => simp [f_at_most_in, b_at_most_in, exs, ex, ev, evA, evS, evO, evTs, bnd, ret, grd, getv, slot, rd, rdL, opt, truthD, tst, biD, coldBi, callM, slsOf, slOf, refs, nodupN, pickL, idxD, ixN, inD, memD, putOuts, owAt, cmpD, ltD, leD, D.cmpable, D.pln, D.plnL, D.dep, D.depL, D.pe, D.peL, D.isNon, guardO, isiD, tyNames, binD, asgT, asgTs, seqOf, asgV, putF, putSl, stv, isVarT, fixS_sh, fixS_no, fixS_ow, retA, finish, maskO, isOw, sizeLine, fail, SR.d, mostR]
  | level t x _ _ => cases wb with
    | level _ y _ _ => simp [f_at_most_in, b_at_most_in, exs, ex, ev, evA, evS, evO, evTs, bnd, ret, grd, getv, slot, rd, rdL, opt, truthD, tst, biD, coldBi, callM, slsOf, slOf, refs, nodupN, pickL, idxD, ixN, inD, memD, putOuts, owAt, cmpD, ltD, leD, D.cmpable, D.pln, D.plnL, D.dep, D.depL, D.pe, D.peL, D.isNon, guardO, isiD, tyNames, binD, asgT, asgTs, seqOf, asgV, putF, putSl, stv, isVarT, fixS_sh, fixS_no, fixS_ow, retA, finish, maskO, isOw, sizeLine, fail, SR.d, mostR]
  | table n p g x hx => cases wb with
    | table _ _ _ y hy =>
      obtain ⟨⟨i1, i2⟩, _⟩ := gisT h hx hy
      have i3 := in_row h.P hx y
      have c1 : cmpD .Eq (.str [116, 97, 98, 108, 101]) (.str [116, 114, 117, 116, 104]) = some false := rfl
      have c2 : cmpD .Eq (.str [116, 97, 98, 108, 101]) (.str [99, 111, 115, 116]) = some false := rfl
      have c3 : cmpD .Eq (.str [116, 97, 98, 108, 101]) (.str [116, 97, 98, 108, 101]) = some true := rfl
      simp [f_at_most_in, b_at_most_in, exs, ex, ev, evA, bnd, ret, grd, getv, slot, rd, rdL, opt, truthD, tst, SR.d, mostR, t0, t1, i1, i3, c1, c2, c3, asgT, asgV, putF, putSl, isVarT, fixS_no, retA, finish, maskO, isOw]
theorem at_most_ok {m : Nat} {s : SR} {a b : D} (h : s.ok) (wa : Wt s a) (wb : Wt s b) : Iv.run V (m + 8) "at_most" [.sh s.d, .sh a, .sh b] = .ok (.val (.bl (mostR s a b))) [.sh s.d, .sh a, .sh b] := by
  rw [run_eq (fn := f_at_most) rfl rfl]
  have k1 := check_2 (m := m) h wa wb
  have k2 := at_most_in_ok (m := m + 6) h wa wb
  simp [f_at_most, b_at_most, exs, ex, ev, evA, evS, evO, evTs, bnd, ret, grd, getv, slot, rd, rdL, opt, truthD, tst, biD, coldBi, callM, slsOf, slOf, refs, nodupN, pickL, idxD, ixN, inD, memD, putOuts, owAt, cmpD, ltD, leD, D.cmpable, D.pln, D.plnL, D.dep, D.depL, D.pe, D.peL, D.isNon, guardO, isiD, tyNames, binD, asgT, asgTs, seqOf, asgV, putF, putSl, stv, isVarT, fixS_sh, fixS_no, fixS_ow, retA, finish, maskO, isOw, sizeLine, fail, k1, k2]
def rngD (n : Nat) : List D := (List.range n).map fun (x : Nat) => D.int x
theorem rngL_eq : ∀ (n : Nat) (lo : Int), rngL lo n = (List.range n).map fun (x : Nat) => D.int (lo + x)
  | 0, _ => rfl
  | n + 1, lo => by
    rw [List.range_succ_eq_map, List.map_cons, List.map_map]
    show D.int lo :: rngL (lo + 1) n = _
    rw [rngL_eq n (lo + 1)]
    congr 1
    · simp
    · apply List.map_congr_left
      intro x _
      show D.int (lo + 1 + x) = D.int (lo + ((x + 1 : Nat) : Int))
      congr 1
      push_cast
      omega
theorem rngL0 (n : Nat) : rngL 0 n = rngD n := by
  rw [rngL_eq]
  apply List.map_congr_left
  intro x _
  simp
def listR : SR → Option (List D)
  | .truth => some [.bl false, .bl true]
  | .level t => some (rngD (t + 1))
  | .table n _ _ => some (rngD n)
  | _ => none
theorem trng_ok {n : Nat} (h : n ≤ 1000) : trngD (.int n) = some (.tup (rngD n)) := by
  have e : rngOk (n : Int) = true := rngOk_nat h
  show guardO (rngOk n && decide ((n : Int).toNat ≤ 16777216)) (D.tup (rngL 0 (n : Int).toNat)) = _
  rw [e, Int.toNat_natCast, rngL0]
  have : decide (n ≤ 16777216) = true := decide_eq_true (by omega)
  rw [this]; rfl
theorem all_ok {m : Nat} {s : SR} {l : List D} (h : s.ok) (hl : listR s = some l) : Iv.run V (m + 7) "all_weights" [.sh s.d] = .ok (.val (.tup l)) [.sh s.d] := by
  rw [run_eq (fn := f_all_weights) rfl rfl]
  have k1 := check_s (m := m) h
  cases s with
  | count => cases hl
  | cost => cases hl
  | truth =>
    cases hl
    have k2 : Iv.run V (m + 6) "has_list" [.sh SR.truth.d] = .ok (.val (.bl true)) [.sh SR.truth.d] := rfl
    have k3 : Iv.run V (m + 6) "weights_in" [.sh SR.truth.d] = .ok (.val (.tup [.bl false, .bl true])) [.sh SR.truth.d] := rfl
    simp [f_all_weights, b_all_weights, exs, ex, ev, evA, evS, evO, evTs, bnd, ret, grd, getv, slot, rd, rdL, opt, truthD, tst, biD, coldBi, callM, slsOf, slOf, refs, nodupN, pickL, idxD, ixN, inD, memD, putOuts, owAt, cmpD, ltD, leD, D.cmpable, D.pln, D.plnL, D.dep, D.depL, D.pe, D.peL, D.isNon, guardO, isiD, tyNames, binD, asgT, asgTs, seqOf, asgV, putF, putSl, stv, isVarT, fixS_sh, fixS_no, fixS_ow, retA, finish, maskO, isOw, sizeLine, fail, k1, k2, k3]
  | level t =>
    cases hl
    have h2 := h.2
    have k2 : Iv.run V (m + 6) "has_list" [.sh (SR.level t).d] = .ok (.val (.bl true)) [.sh (SR.level t).d] := rfl
    have k4 : trngD (.int ((t : Int) + 1)) = some (.tup (rngD (t + 1))) := trng_ok (n := t + 1) (by omega)
    have k3 : Iv.run V (m + 6) "weights_in" [.sh (SR.level t).d] = .ok (.val (.tup (rngD (t + 1)))) [.sh (SR.level t).d] := by
      rw [run_eq (fn := f_weights_in) rfl rfl]
      simp [f_weights_in, b_weights_in, exs, ex, ev, evA, evS, evO, evTs, bnd, ret, grd, getv, slot, rd, rdL, opt, truthD, tst, biD, coldBi, callM, slsOf, slOf, refs, nodupN, pickL, idxD, ixN, inD, memD, putOuts, owAt, cmpD, ltD, leD, D.cmpable, D.pln, D.plnL, D.dep, D.depL, D.pe, D.peL, D.isNon, guardO, isiD, tyNames, binD, asgT, asgTs, seqOf, asgV, putF, putSl, stv, isVarT, fixS_sh, fixS_no, fixS_ow, retA, finish, maskO, isOw, sizeLine, fail, SR.d, k4]
    simp [f_all_weights, b_all_weights, exs, ex, ev, evA, evS, evO, evTs, bnd, ret, grd, getv, slot, rd, rdL, opt, truthD, tst, biD, coldBi, callM, slsOf, slOf, refs, nodupN, pickL, idxD, ixN, inD, memD, putOuts, owAt, cmpD, ltD, leD, D.cmpable, D.pln, D.plnL, D.dep, D.depL, D.pe, D.peL, D.isNon, guardO, isiD, tyNames, binD, asgT, asgTs, seqOf, asgV, putF, putSl, stv, isVarT, fixS_sh, fixS_no, fixS_ow, retA, finish, maskO, isOw, sizeLine, fail, k1, k2, k3]
  | table n p g =>
    cases hl
    have h2 := h.n6
    have e3 := glen h.P
    have k2 : Iv.run V (m + 6) "has_list" [.sh (SR.table n p g).d] = .ok (.val (.bl true)) [.sh (SR.table n p g).d] := rfl
    have k4 : trngD (.int n) = some (.tup (rngD n)) := trng_ok (n := n) (by omega)
    have k3 : Iv.run V (m + 6) "weights_in" [.sh (SR.table n p g).d] = .ok (.val (.tup (rngD n))) [.sh (SR.table n p g).d] := by
      rw [run_eq (fn := f_weights_in) rfl rfl]
      simp [f_weights_in, b_weights_in, exs, ex, ev, evA, evS, evO, evTs, bnd, ret, grd, getv, slot, rd, rdL, opt, truthD, tst, coldBi, callM, slsOf, slOf, refs, nodupN, pickL, inD, memD, owAt, cmpD, ltD, leD, D.cmpable, D.pln, D.plnL, D.dep, D.depL, D.pe, D.peL, D.isNon, guardO, binD, asgT, asgTs, seqOf, asgV, putF, putSl, stv, isVarT, fixS_sh, fixS_no, fixS_ow, retA, finish, maskO, isOw, fail, putOuts, SR.d, t0, t1, e3, k4]
    simp [f_all_weights, b_all_weights, exs, ex, ev, evA, evS, evO, evTs, bnd, ret, grd, getv, slot, rd, rdL, opt, truthD, tst, biD, coldBi, callM, slsOf, slOf, refs, nodupN, pickL, idxD, ixN, inD, memD, putOuts, owAt, cmpD, ltD, leD, D.cmpable, D.pln, D.plnL, D.dep, D.depL, D.pe, D.peL, D.isNon, guardO, isiD, tyNames, binD, asgT, asgTs, seqOf, asgV, putF, putSl, stv, isVarT, fixS_sh, fixS_no, fixS_ow, retA, finish, maskO, isOw, sizeLine, fail, k1, k2, k3]
def SR.w : SR → D
  | .truth => .str [116, 114, 117, 116, 104]
  | .count => .str [99, 111, 117, 110, 116]
  | .cost => .str [99, 111, 115, 116]
  | .level _ => .str [108, 101, 118, 101, 108]
  | .table _ _ _ => .str [116, 97, 98, 108, 101]
theorem word0 (s : SR) : idxD s.d (.int 0) = some s.w := by cases s <;> rfl
theorem flat_eq {a b : D} (ha : Flat a) (hb : Flat b) : cmpD .Eq a b = some (D.pe a b) := by
  cases ha <;> cases hb <;> rfl
theorem wt_flat {s : SR} {a : D} (w : Wt s a) : Flat a := by cases w <;> constructor
theorem mem_rng {n : Nat} {d : D} (h : d ∈ rngD n) : ∃ k : Nat, k < n ∧ d = .int k := by
  obtain ⟨k, hk, rfl⟩ := List.mem_map.mp h
  exact ⟨k, List.mem_range.mp hk, rfl⟩
theorem list_wt {s : SR} {l : List D} (hl : listR s = some l) {d : D} (hd : d ∈ l) : Wt s d := by
  cases s with
  | count => cases hl
  | cost => cases hl
  | truth =>
    cases hl
    rcases List.mem_cons.mp hd with rfl | hd
    · constructor
    · rcases List.mem_cons.mp hd with rfl | hd
      · constructor
      · cases hd
  | level t =>
    cases hl
    obtain ⟨k, hk, rfl⟩ := mem_rng hd
    exact .level t k (by omega) (by omega)
  | table n p g =>
    cases hl
    obtain ⟨k, hk, rfl⟩ := mem_rng hd
    exact .table n p g k hk
theorem any_rng (n : Nat) (f : D → Bool) : (rngD n).any f = (List.range n).any fun k => f (.int k) := by
  unfold rngD; rw [List.any_map]; rfl
theorem most_any {s : SR} {l : List D} {a b : D} (hl : listR s = some l) (wa : Wt s a) (wb : Wt s b) : (l.any fun c => D.pe (addR s a c) b) = mostR s a b := by
  cases wa with
  | truth x => cases wb with
    | truth y =>
      cases hl
      cases x <;> cases y <;> rfl
  | count x _ _ => cases hl
  | cost x _ _ => cases hl
  | costN => cases hl
  | level t x h1 h2 => cases wb with
    | level _ y h3 h4 =>
      cases hl
      rw [any_rng]
      show _ = decide (x ≤ y)
      by_cases h : x ≤ y
      · rw [decide_eq_true h, List.any_eq_true]
        refine ⟨y.toNat, List.mem_range.mpr (by omega), ?_⟩
        show ((if ((y.toNat : Nat) : Int) > x then ((y.toNat : Nat) : Int) else x) == y) = true
        rw [beq_iff_eq]
        split <;> omega
      · rw [decide_eq_false h, List.any_eq_false]
        intro k _
        show ¬ ((if ((k : Nat) : Int) > x then ((k : Nat) : Int) else x) == y) = true
        rw [beq_iff_eq]
        split <;> omega
  | table n p g x hx => cases wb with
    | table _ _ _ y hy =>
      cases hl
      rw [any_rng]
      show ((List.range n).any fun k => (((at2 p x k : Nat) : Int) == (y : Int))) = (List.range n).any fun c => at2 p (x : Int).toNat c == (y : Int).toNat
      congr 1
      funext k
      rw [Int.toNat_natCast, Int.toNat_natCast]
      by_cases h : at2 p x k = y
      · rw [h]; simp
      · have h2 : ((at2 p x k : Nat) : Int) ≠ (y : Int) := by omega
        rw [beq_eq_false_iff_ne.mpr h2, beq_eq_false_iff_ne.mpr h]
end K05

set_option linter.all false
set_option maxRecDepth 100000
set_option autoImplicit false
set_option Elab.async false
set_option maxHeartbeats 0
namespace K05
open Iv
/-! ### the drawn tables -/
def insAt (i x : Nat) (l : List Nat) : List Nat := l.take i ++ [x] ++ l.drop i
/-- behind k draws -/
def perms : Nat → List (List Nat)
  | 0 => [[0, 1]]
  | k + 1 => (perms k).flatMap fun t => (List.range (k + 1)).map fun r => insAt (2 + r) (k + 2) t
def sizesOf (w : Nat) : List Nat := if w = 0 then [2, 3, 4, 5, 6] else if w < 6 then [1, 2, 3, 4, 5, 6] else [4]
def cases_ : List (Nat × Nat × List Nat) := (List.range 9).flatMap fun w => (sizesOf w).flatMap fun n => (perms (n - 2)).map fun t => (w, n, t)
def rankF (n k : Nat) : Nat := if k = 0 then 0 else if k = 1 then n else k - 1
def tab4 (g : List (List Nat)) (a b : Nat) : Nat := (g.getD a []).getD b 0
def cellF (w n a b : Nat) : Nat × Nat :=
  if w = 0 then (if a = b then (a, a) else if rankF n a > rankF n b then (a, b) else (b, a))
  else if w = 1 then ((a + b) % n, (a * b) % n)
  else if w = 2 then (min (a + b) (n - 1), min (a * b) (n - 1))
  else if w = 3 ∨ w = 4 then
    (if min a b > 0 then min a b else max a b, if min a b = 0 then 0 else if a + b - 1 < n then a + b - 1 else if w = 3 then 0 else n - 1)
  else if w = 5 then (max a b, if min a b > 0 then max a b else 0)
  else if w = 6 then (tab4 [[0, 1, 2, 3], [1, 1, 1, 1], [2, 1, 2, 1], [3, 1, 1, 3]] a b, tab4 [[0, 0, 0, 0], [0, 1, 2, 3], [0, 2, 2, 0], [0, 3, 0, 3]] a b)
  else if w = 7 then (tab4 [[0, 1, 2, 3], [1, 0, 3, 2], [2, 3, 0, 1], [3, 2, 1, 0]] a b, tab4 [[0, 0, 0, 0], [0, 1, 2, 3], [0, 2, 0, 2], [0, 3, 2, 1]] a b)
  else (tab4 [[0, 1, 2, 3], [1, 0, 3, 2], [2, 3, 0, 1], [3, 2, 1, 0]] a b, tab4 [[0, 0, 0, 0], [0, 1, 2, 3], [0, 2, 3, 1], [0, 3, 1, 2]] a b)
def cellCases : List (Nat × Nat × Nat × Nat) := (List.range 9).flatMap fun w => (sizesOf w).flatMap fun n => (List.range n).flatMap fun a => (List.range n).map fun b => (w, n, a, b)
def cellD (w n a b : Nat) : D := .tup [.int (cellF w n a b).1, .int (cellF w n a b).2]
theorem cells_all (m : Nat) : (cellCases.map fun c => Iv.run V (m + 1) "_law_cell" [.sh (.int c.1), .sh (.int c.2.1), .sh (.int c.2.2.1), .sh (.int c.2.2.2)]) = cellCases.map fun c => .ok (.val (cellD c.1 c.2.1 c.2.2.1 c.2.2.2)) [.sh (.int c.1), .sh (.int c.2.1), .sh (.int c.2.2.1), .sh (.int c.2.2.2)] := by
  kernel_rfl
end K05

set_option linter.all false
set_option maxRecDepth 100000
set_option autoImplicit false
set_option Elab.async false
set_option maxHeartbeats 1000000
namespace K05
open Iv
def tg (t : List Nat) (a : Nat) : Nat := t.getD a 0
def natOf : D → Nat
  | .int i => i.toNat
  | _ => 0
def posT (t : List Nat) (x : Nat) : Nat := t.findIdx fun y => y == x
def gridP (w n : Nat) (t : List Nat) : List (List Nat) := (List.range n).map fun a => (List.range n).map fun b => posT t (cellF w n (tg t a) (tg t b)).1
def gridG (w n : Nat) (t : List Nat) : List (List Nat) := (List.range n).map fun a => (List.range n).map fun b => posT t (cellF w n (tg t a) (tg t b)).2
def all1 (n : Nat) (f : Nat → Bool) : Bool := (List.range n).all f
def all2 (n : Nat) (f : Nat → Nat → Bool) : Bool := all1 n fun a => all1 n fun b => f a b
def all3 (n : Nat) (f : Nat → Nat → Nat → Bool) : Bool := all1 n fun a => all2 n fun b c => f a b c
theorem all1_ok {n : Nat} {f : Nat → Bool} (h : all1 n f = true) {a : Nat} (ha : a < n) : f a = true := List.all_eq_true.mp h a (List.mem_range.mpr ha)
theorem all2_ok {n : Nat} {f : Nat → Nat → Bool} (h : all2 n f = true) {a b : Nat} (ha : a < n) (hb : b < n) : f a b = true := all1_ok (all1_ok h ha) hb
theorem all3_ok {n : Nat} {f : Nat → Nat → Nat → Bool} (h : all3 n f = true) {a b c : Nat} (ha : a < n) (hb : b < n) (hc : c < n) : f a b c = true := all2_ok (all1_ok h ha) hb hc
def gridB (n : Nat) (g : List (List Nat)) : Bool := g.length == n && g.all fun r => r.length == n && r.all fun x => decide (x < n)
theorem gridB_ok {n : Nat} {g : List (List Nat)} (h : gridB n g = true) : GridOk n g := by
  obtain ⟨h1, h2⟩ := Bool.and_eq_true_iff.mp h
  have h3 := List.all_eq_true.mp h2
  exact ⟨by simpa using h1, fun r hr => by simpa using (Bool.and_eq_true_iff.mp (h3 r hr)).1, fun r hr x hx => of_decide_eq_true (List.all_eq_true.mp (Bool.and_eq_true_iff.mp (h3 r hr)).2 x hx)⟩
def tabB (n : Nat) (p g : List (List Nat)) : Bool :=
  gridB n p && gridB n g && decide (1 ≤ n) && decide (n ≤ 6) && all1 n (fun i => at2 p 0 i == i) && all2 n (fun a b => at2 p a b == at2 p b a) && all3 n (fun a b c => at2 p (at2 p a b) c == at2 p a (at2 p b c)) &&
  all1 n (fun i => at2 g (one n) i == i) && all2 n (fun a b => at2 g a b == at2 g b a) && all3 n (fun a b c => at2 g (at2 g a b) c == at2 g a (at2 g b c)) && all1 n (fun i => at2 g 0 i == 0) &&
  all3 n (fun a b c => at2 g a (at2 p b c) == at2 p (at2 g a b) (at2 g a c))
theorem at_row {n : Nat} {p : List (List Nat)} (h : GridOk n p) {a : Nat} (ha : a < n) {i x : Nat} (e : (rw_ p a)[i]? = some x) : i < n ∧ x = at2 p a i := by
  obtain ⟨_, m⟩ := h.rowAt ha
  have hi : i < (rw_ p a).length := (List.getElem?_eq_some_iff.mp e).1
  refine ⟨by rw [h.row _ m] at hi; exact hi, ?_⟩
  unfold at2
  rw [List.getD_eq_getElem?_getD (l := rw_ p a), e]
  rfl
theorem tabB_ok {n : Nat} {p g : List (List Nat)} (h : tabB n p g = true) : TabOk n p g := by
  unfold tabB at h
  simp only [Bool.and_eq_true] at h
  obtain ⟨⟨⟨⟨⟨⟨⟨⟨⟨⟨⟨h1, h2⟩, h3⟩, h4⟩, h5⟩, h6⟩, h7⟩, h8⟩, h9⟩, h10⟩, h11⟩, h12⟩ := h
  have P := gridB_ok h1
  have G := gridB_ok h2
  have n1 := of_decide_eq_true h3
  have o : one n < n := by unfold one; split <;> omega
  refine ⟨P, G, n1, of_decide_eq_true h4, fun i x e => ?_, fun a b ha hb => by simpa using all2_ok h6 ha hb, fun a b c ha hb hc => by simpa using all3_ok h7 ha hb hc, fun i x e => ?_, fun a b ha hb => by simpa using all2_ok h9 ha hb, fun a b c ha hb hc => by simpa using all3_ok h10 ha hb hc, fun i x e => ?_, fun a b c ha hb hc => by simpa using all3_ok h12 ha hb hc⟩
  · obtain ⟨hi, rfl⟩ := at_row P (by omega) e
    simpa using all1_ok h5 hi
  · obtain ⟨hi, rfl⟩ := at_row G o e
    simpa using all1_ok h8 hi
  · obtain ⟨hi, rfl⟩ := at_row G (by omega) e
    simpa using all1_ok h11 hi
def caseB (c : Nat × Nat × List Nat) : Bool :=
  tabB c.2.1 (gridP c.1 c.2.1 c.2.2) (gridG c.1 c.2.1 c.2.2) && decide (c.2.1 ≤ c.2.2.length) && (all1 c.2.1 fun a => decide (tg c.2.2 a < c.2.1)) &&
  all2 c.2.1 fun a b => (c.2.2.contains (cellF c.1 c.2.1 (tg c.2.2 a) (tg c.2.2 b)).1) && (c.2.2.contains (cellF c.1 c.2.1 (tg c.2.2 a) (tg c.2.2 b)).2)
theorem cases_ok : cases_.all caseB = true := by decide +kernel
end K05

set_option linter.all false
set_option maxRecDepth 100000
set_option autoImplicit false
set_option Elab.async false
set_option maxHeartbeats 1000000
namespace K05
open Iv
/-- a loop over a range, its turns counted -/
theorem forL_cnt {asg : D → M Unit} {body : M Fl} (I : Nat → Rho → Prop) (lo : Int) : ∀ (n k : Nat), (∀ i, i < k + n → k ≤ i → ∀ ρ, I i ρ → ∃ ρ1 ρ2, asg (.int (lo + i)) ρ = .ok () ρ1 ∧ body ρ1 = .ok .nx ρ2 ∧ I (i + 1) ρ2) → ∀ ρ, I k ρ → ∃ ρ', forL asg body (rngL (lo + k) n) ρ = .ok .nx ρ' ∧ I (k + n) ρ'
  | 0, k, _, ρ, h => ⟨ρ, rfl, h⟩
  | n + 1, k, h, ρ, hI => by
    obtain ⟨ρ1, ρ2, e1, e2, h2⟩ := h k (by omega) (Nat.le_refl _) ρ hI
    obtain ⟨ρ', e3, h3⟩ := forL_cnt I lo n (k + 1) (fun i h1 h2 => h i (by omega) (by omega)) ρ2 h2
    have hc : lo + ((k + 1 : Nat) : Int) = lo + (k : Int) + 1 := by push_cast; omega
    rw [hc] at e3
    refine ⟨ρ', by simp [rngL, forL, bnd, e1, e2, e3], ?_⟩
    have : k + (n + 1) = k + 1 + n := by omega
    rw [this]; exact h3
def natD (t : List Nat) : D := .lst (t.map fun (x : Nat) => .int x)
theorem nat_len (t : List Nat) : (t.map fun (x : Nat) => D.int x).length = t.length := List.length_map ..
theorem idx_nat {t : List Nat} {a : Nat} (h : a < t.length) : idxD (natD t) (.int a) = some (.int (tg t a)) := by
  show (ixN (t.map fun (x : Nat) => D.int x).length (a : Int)).bind _ = _
  rw [nat_len, ixN_nat h]
  show (t.map fun (x : Nat) => D.int x)[a]? = _
  unfold tg
  rw [List.getElem?_map, List.getElem?_eq_getElem h, List.getD_eq_getElem?_getD, List.getElem?_eq_getElem h]
  rfl
theorem dep_ints : ∀ (l : List Nat), D.depL (l.map fun (x : Nat) => D.int x) = 0
  | [] => rfl
  | c :: l => by
    show max 0 (D.depL (l.map fun (x : Nat) => D.int x)) = 0
    rw [dep_ints l]
    rfl
theorem cmp_nat (t : List Nat) : (natD t).cmpable = true := by
  show (D.plnL (t.map fun (x : Nat) => D.int x) && decide (D.depL (t.map fun (x : Nat) => D.int x) + 1 ≤ 64)) = true
  rw [pln_ints, dep_ints]; rfl
theorem find_nat (x : Nat) : ∀ {t : List Nat}, t.contains x = true → (t.map fun (y : Nat) => D.int y).findIdx? (fun y => D.pe y (.int x)) = some (posT t x)
  | [], h => by cases h
  | y :: t, h => by
    have pe : D.pe (.int y) (.int x) = (y == x) := by
      show ((y : Int) == (x : Int)) = (y == x)
      by_cases h : y = x
      · subst h; simp
      · have h2 : (y : Int) ≠ (x : Int) := by omega
        rw [beq_eq_false_iff_ne.mpr h2, beq_eq_false_iff_ne.mpr h]
    rw [List.map_cons, List.findIdx?_cons, pe]
    unfold posT
    rw [List.findIdx_cons]
    cases e : y == x with
    | true => rfl
    | false =>
      have h2 : t.contains x = true := by
        rw [List.contains_cons] at h
        have e2 : (x == y) = false := by rw [beq_eq_false_iff_ne] at e ⊢; exact Ne.symm e
        rw [e2] at h; simpa using h
      rw [find_nat x h2]
      rfl
theorem index_nat {t : List Nat} {x : Nat} (h : t.contains x = true) : mthD "index" (natD t) [.int x] = some (none, .val (.int (posT t x))) := by
  show (guardO ((D.int x).cmpable && (natD t).cmpable) ()).bind _ = _
  rw [cmp_nat]
  show ((t.map fun (y : Nat) => D.int y).findIdx? fun y => D.pe y (.int x)).map _ = _
  rw [find_nat x h]
  rfl
section
variable {m w n : Nat} {t : List Nat} {P : D}
/-- one of the cases -/
structure CaseOk (w n : Nat) (t : List Nat) : Prop where
  T : TabOk n (gridP w n t) (gridG w n t)
  len : n ≤ t.length
  lt : ∀ a, a < n → tg t a < n
  i1 : ∀ a b, a < n → b < n → t.contains (cellF w n (tg t a) (tg t b)).1 = true
  i2 : ∀ a b, a < n → b < n → t.contains (cellF w n (tg t a) (tg t b)).2 = true
  cell : ∀ m a b, a < n → b < n → Iv.run V (m + 1) "_law_cell" [.sh (.int w), .sh (.int n), .sh (.int a), .sh (.int b)] = .ok (.val (cellD w n a b)) [.sh (.int w), .sh (.int n), .sh (.int a), .sh (.int b)]
theorem case_mem {w n : Nat} {t : List Nat} (hw : w < 9) (hn : n ∈ sizesOf w) (ht : t ∈ perms (n - 2)) : CaseOk w n t := by
  have hm : (w, n, t) ∈ cases_ := by
    unfold cases_
    rw [List.mem_flatMap]
    refine ⟨w, List.mem_range.mpr hw, ?_⟩
    rw [List.mem_flatMap]
    exact ⟨n, hn, List.mem_map.mpr ⟨t, ht, rfl⟩⟩
  have h := List.all_eq_true.mp cases_ok _ hm
  unfold caseB at h
  simp only [Bool.and_eq_true] at h
  obtain ⟨⟨⟨h1, h2⟩, h3⟩, h4⟩ := h
  refine ⟨tabB_ok h1, of_decide_eq_true h2, fun a ha => of_decide_eq_true (all1_ok h3 ha), fun a b ha hb => (Bool.and_eq_true_iff.mp (all2_ok h4 ha hb)).1, fun a b ha hb => (Bool.and_eq_true_iff.mp (all2_ok h4 ha hb)).2, fun m a b ha hb => ?_⟩
  have hc : (w, n, a, b) ∈ cellCases := by
    unfold cellCases
    rw [List.mem_flatMap]
    refine ⟨w, List.mem_range.mpr hw, ?_⟩
    rw [List.mem_flatMap]
    refine ⟨n, hn, ?_⟩
    rw [List.mem_flatMap]
    exact ⟨a, List.mem_range.mpr ha, List.mem_map.mpr ⟨b, List.mem_range.mpr hb, rfl⟩⟩
  exact List.map_inj_left.mp (cells_all m) _ hc
def cellsD (w n : Nat) (t : List Nat) (a : Nat) : List D := (List.range n).map fun b => cellD w n (tg t a) (tg t b)
theorem comp0 (C : CaseOk w n t) (hn : n ≤ 6) {a : Nat} (ha : a < n) (s4 s5 s6 s8 : Sl) :
    ev V (Iv.run V (m + 1)) false q_law_table_0 [.ow P, .sh (.int w), .sh (.int n), .ow (natD t), s4, s5, s6, .sh (.int a), s8, .no, .no] = .ok (.fr (.lst (cellsD w n t a))) [.ow P, .sh (.int w), .sh (.int n), .ow (natD t), s4, s5, s6, .sh (.int a), s8, .no, .no] := by
  have e1 : cellsD w n t a = (rngD n).map fun d => cellD w n (tg t a) (tg t (natOf d)) := by
    unfold cellsD rngD
    rw [List.map_map]
    apply List.map_congr_left
    intro b _
    rfl
  rw [e1]
  refine ev_comp (as := [.val (.int n)]) (ds := [.int n]) (items := rngD n) (fun d => cellD w n (tg t a) (tg t (natOf d))) rfl rfl rfl rfl ?_ (by simp [rngD, sizeLine]; omega) (fun x hx => ?_)
  · show guardO (rngOk (n : Int)) (rngL 0 (n : Int).toNat) = _
    rw [rngOk_nat (by omega), Int.toNat_natCast, rngL0]; rfl
  · obtain ⟨b, hb, rfl⟩ := mem_rng hx
    have i1 := idx_nat (t := t) (a := a) (by have := C.len; omega)
    have i2 := idx_nat (t := t) (a := b) (by have := C.len; omega)
    have k := C.cell m (tg t a) (tg t b) (C.lt a ha) (C.lt b hb)
    refine ⟨[.ow P, .sh (.int w), .sh (.int n), .ow (natD t), s4, s5, s6, .sh (.int a), s8, .sh (.int b), .no], [.ow P, .sh (.int w), .sh (.int n), .ow (natD t), s4, s5, s6, .sh (.int a), s8, .sh (.int b), .no], [.ow P, .sh (.int w), .sh (.int n), .ow (natD t), s4, s5, s6, .sh (.int a), s8, .sh (.int b), .no], rfl, rfl, ?_, rfl⟩
    simp [ev, evA, bnd, ret, grd, getv, slot, rd, rdL, opt, callM, slsOf, slOf, refs, nodupN, putOuts, i1, i2, k, stv, natOf]
end
end K05

set_option linter.all false
set_option maxRecDepth 100000
set_option autoImplicit false
set_option Elab.async false
set_option maxHeartbeats 1000000
namespace K05
open Iv
section
variable {m w n : Nat} {t : List Nat} {P : D}
def rowP (w n : Nat) (t : List Nat) (a : Nat) : List Nat := (List.range n).map fun b => posT t (cellF w n (tg t a) (tg t b)).1
def rowG (w n : Nat) (t : List Nat) (a : Nat) : List Nat := (List.range n).map fun b => posT t (cellF w n (tg t a) (tg t b)).2
theorem cells_mem {a : Nat} {d : D} (h : d ∈ cellsD w n t a) : ∃ b, b < n ∧ d = cellD w n (tg t a) (tg t b) := by
  obtain ⟨b, hb, rfl⟩ := List.mem_map.mp h
  exact ⟨b, List.mem_range.mp hb, rfl⟩
def at1 : D → D
  | .tup [.int x, _] => .int x
  | _ => .non
def atB : D → D
  | .tup [_, .int x] => .int x
  | _ => .non
def posD (t : List Nat) : D → D
  | .int x => .int (posT t x.toNat)
  | _ => .non
theorem comp1 (C : CaseOk w n t) (hn : n ≤ 6) {a : Nat} (ha : a < n) (s4 s7 : Sl) (x5 x6 : D) :
    ev V (Iv.run V (m + 1)) false q_law_table_1 [.ow P, .sh (.int w), .sh (.int n), .ow (natD t), s4, .ow x5, .ow x6, s7, .ow (.lst (cellsD w n t a)), .no, .no] = .ok (.fr (.lst ((rowP w n t a).map fun (x : Nat) => .int x))) [.ow P, .sh (.int w), .sh (.int n), .ow (natD t), s4, .ow x5, .ow x6, s7, .ow (.lst (cellsD w n t a)), .no, .no] := by
  have e1 : ((rowP w n t a).map fun (x : Nat) => D.int x) = (cellsD w n t a).map fun d => posD t (at1 d) := by
    unfold cellsD rowP
    rw [List.map_map, List.map_map]
    apply List.map_congr_left
    intro b _
    simp [cellD, at1, posD]
  rw [e1]
  refine ev_comp (as := [.rf 8]) (ds := [.lst (cellsD w n t a)]) (items := cellsD w n t a) (fun d => posD t (at1 d)) rfl rfl rfl rfl rfl (by simp [cellsD, sizeLine]; omega) (fun x hx => ?_)
  obtain ⟨b, hb, rfl⟩ := cells_mem hx
  have k := index_nat (C.i1 a b ha hb)
  let R : Rho := [.ow P, .sh (.int w), .sh (.int n), .ow (natD t), s4, .ow x5, .ow x6, s7, .lk (.lst (cellsD w n t a)), .no, .sh (cellD w n (tg t a) (tg t b))]
  have i0 : idxD (cellD w n (tg t a) (tg t b)) (.int 0) = some (.int (cellF w n (tg t a) (tg t b)).1) := rfl
  have q : posD t (at1 (cellD w n (tg t a) (tg t b))) = .int (posT t (cellF w n (tg t a) (tg t b)).1) := rfl
  refine ⟨R, R, R, rfl, rfl, ?_, rfl⟩
  have mk : mkind "index" (natD t) = true := rfl
  have kp : keeps "index" = false := rfl
  simp [R, ev, evA, bnd, ret, grd, getv, slot, rd, rdL, opt, i0, k, mk, kp, mput, stv, q]
theorem comp2 (C : CaseOk w n t) (hn : n ≤ 6) {a : Nat} (ha : a < n) (s4 s7 : Sl) (x5 x6 : D) :
    ev V (Iv.run V (m + 1)) false q_law_table_2 [.ow P, .sh (.int w), .sh (.int n), .ow (natD t), s4, .ow x5, .ow x6, s7, .ow (.lst (cellsD w n t a)), .no, .no] = .ok (.fr (.lst ((rowG w n t a).map fun (x : Nat) => .int x))) [.ow P, .sh (.int w), .sh (.int n), .ow (natD t), s4, .ow x5, .ow x6, s7, .ow (.lst (cellsD w n t a)), .no, .no] := by
  have e1 : ((rowG w n t a).map fun (x : Nat) => D.int x) = (cellsD w n t a).map fun d => posD t (atB d) := by
    unfold cellsD rowG
    rw [List.map_map, List.map_map]
    apply List.map_congr_left
    intro b _
    simp [cellD, atB, posD]
  rw [e1]
  refine ev_comp (as := [.rf 8]) (ds := [.lst (cellsD w n t a)]) (items := cellsD w n t a) (fun d => posD t (atB d)) rfl rfl rfl rfl rfl (by simp [cellsD, sizeLine]; omega) (fun x hx => ?_)
  obtain ⟨b, hb, rfl⟩ := cells_mem hx
  have k := index_nat (C.i2 a b ha hb)
  let R : Rho := [.ow P, .sh (.int w), .sh (.int n), .ow (natD t), s4, .ow x5, .ow x6, s7, .lk (.lst (cellsD w n t a)), .no, .sh (cellD w n (tg t a) (tg t b))]
  have i0 : idxD (cellD w n (tg t a) (tg t b)) (.int 1) = some (.int (cellF w n (tg t a) (tg t b)).2) := rfl
  have q : posD t (atB (cellD w n (tg t a) (tg t b))) = .int (posT t (cellF w n (tg t a) (tg t b)).2) := rfl
  refine ⟨R, R, R, rfl, rfl, ?_, rfl⟩
  have mk : mkind "index" (natD t) = true := rfl
  have kp : keeps "index" = false := rfl
  simp [R, ev, evA, bnd, ret, grd, getv, slot, rd, rdL, opt, i0, k, mk, kp, mput, stv, q]
def upTo (f : Nat → List Nat) (a : Nat) : D := .lst ((List.range a).map fun i => rowD (f i))
theorem upTo_app (f : Nat → List Nat) {a : Nat} (h : a ≤ 1000) : mthD "append" (upTo f a) [rowD (f a)] = some (some (upTo f (a + 1)), .val .non) := by
  show guardO (decide (((List.range a).map fun i => rowD (f i)).length < sizeLine)) _ = _
  have hl : decide (((List.range a).map fun i => rowD (f i)).length < sizeLine) = true := decide_eq_true (by simp [sizeLine]; omega)
  rw [hl]
  unfold upTo
  rw [List.range_succ, List.map_append]
  rfl
theorem rest_ok (C : CaseOk w n t) (hn : n ≤ 6) (s4 : Sl) : ∃ ρ, exs V (Iv.run V (m + 1)) [true] false (b_law_table.drop 6) [.ow P, .sh (.int w), .sh (.int n), .ow (natD t), s4, .no, .no, .no, .no, .no, .no] = .ok (.rt (.val (tabD (gridP w n t) (gridG w n t)))) (.ow P :: ρ) := by
  obtain ⟨ρ', e, s7, s8, rfl, h7, h8⟩ := forL_cnt (asg := fun d => asgT [true] (.var 7) (.val d)) (body := exs V (Iv.run V (m + 1)) [true] false w_law_table_1) (fun a ρ => ∃ s7 s8, ρ = [.ow P, .sh (.int w), .sh (.int n), .ow (natD t), s4, .ow (upTo (rowP w n t) a), .ow (upTo (rowG w n t) a), s7, s8, .no, .no] ∧ fixS s7 = false ∧ fixS s8 = false) 0 n 0 (fun a ha _ ρ ⟨s7, s8, e, h7, h8⟩ => by
    subst e
    have ha : a < n := by omega
    have k0 := comp0 (m := m) (P := P) C hn ha s4 (.ow (upTo (rowP w n t) a)) (.ow (upTo (rowG w n t) a)) s8
    have k1 := comp1 (m := m) (P := P) C hn ha s4 (.sh (.int a)) (upTo (rowP w n t) a) (upTo (rowG w n t) a)
    have k2 := comp2 (m := m) (P := P) C hn ha s4 (.sh (.int a)) (upTo (rowP w n t) (a + 1)) (upTo (rowG w n t) a)
    have t1 : biD "tuple" [.lst ((rowP w n t a).map fun (x : Nat) => .int x)] = some (.val (rowD (rowP w n t a))) := rfl
    have t2 : biD "tuple" [.lst ((rowG w n t a).map fun (x : Nat) => .int x)] = some (.val (rowD (rowG w n t a))) := rfl
    have u1 := upTo_app (rowP w n t) (a := a) (by omega)
    have u2 := upTo_app (rowG w n t) (a := a) (by omega)
    have mk : ∀ (f : Nat → List Nat) a, mkind "append" (upTo f a) = true := fun f a => rfl
    have kp : keeps "append" = true := rfl
    refine ⟨[.ow P, .sh (.int w), .sh (.int n), .ow (natD t), s4, .ow (upTo (rowP w n t) a), .ow (upTo (rowG w n t) a), .sh (.int a), s8, .no, .no], [.ow P, .sh (.int w), .sh (.int n), .ow (natD t), s4, .ow (upTo (rowP w n t) (a + 1)), .ow (upTo (rowG w n t) (a + 1)), .sh (.int a), .ow (.lst (cellsD w n t a)), .no, .no], ?_, ?_, _, _, rfl, rfl, rfl⟩
    · simp [asgT, asgV, grd, bnd, putF, putSl, slot, h7]
    · simp [w_law_table_1, exs, ex, ev, evA, evS, bnd, ret, grd, getv, slot, rd, rdL, opt, coldBi, k0, k1, k2, t1, t2, u1, u2, mk, kp, mput, stv, asgT, asgV, putF, putSl, isVarT, h8]) [.ow P, .sh (.int w), .sh (.int n), .ow (natD t), s4, .ow (.lst []), .ow (.lst []), .no, .no, .no, .no] ⟨_, _, rfl, rfl, rfl⟩
  rw [Nat.zero_add] at e
  have ef : ex V (Iv.run V (m + 1)) [true] false l_law_table_1 [.ow P, .sh (.int w), .sh (.int n), .ow (natD t), s4, .ow (.lst []), .ow (.lst []), .no, .no, .no, .no] = .ok .nx [.ow P, .sh (.int w), .sh (.int n), .ow (natD t), s4, .ow (upTo (rowP w n t) n), .ow (upTo (rowG w n t) n), s7, s8, .no, .no] :=
    ex_for (as := [.val (.int n)]) (ds := [.int n]) (items := rngL 0 n) rfl rfl rfl (by
      show guardO (rngOk (n : Int)) (rngL 0 (n : Int).toNat) = _
      rw [rngOk_nat (by omega), Int.toNat_natCast]; rfl) e
  have d1 : b_law_table.drop 6 = [.asg (.var 5) (.lst []), .asg (.var 6) (.lst []), l_law_table_1, .ret (.tup [(.cst (.str [116, 97, 98, 108, 101])), (.bi "tuple" [(.var 5)]), (.bi "tuple" [(.var 6)])])] := rfl
  have g1 : biD "tuple" [upTo (rowP w n t) n] = some (.val (gridD (gridP w n t))) := by
    show some (A.val (D.tup ((List.range n).map fun i => rowD (rowP w n t i)))) = _
    unfold gridD gridP
    rw [List.map_map]; rfl
  have g2 : biD "tuple" [upTo (rowG w n t) n] = some (.val (gridD (gridG w n t))) := by
    show some (A.val (D.tup ((List.range n).map fun i => rowD (rowG w n t i)))) = _
    unfold gridD gridG
    rw [List.map_map]; rfl
  refine ⟨[.sh (.int w), .sh (.int n), .ow (natD t), s4, .ow (upTo (rowP w n t) n), .ow (upTo (rowG w n t) n), s7, s8, .no, .no], ?_⟩
  rw [d1]
  simp [exs, ef, ex, ev, evA, evS, bnd, ret, grd, getv, slot, rd, rdL, opt, coldBi, g1, g2, stv, asgT, asgV, putF, putSl, isVarT, fixS_no, retA, sizeLine, tabD]
end
end K05

set_option linter.all false
set_option maxRecDepth 100000
set_option autoImplicit false
set_option Elab.async false
set_option maxHeartbeats 1000000
namespace K05
open Iv
theorem PoolOk.mono {m m' : Nat} {a b c : Int} (P : PoolOk m a b c) (h : m ≤ m') : PoolOk m' a b c := ⟨P.a1, P.b1, P.b2, P.c1, by have := P.c2; omega⟩
theorem pullN {n m L : Nat} {a b c : Int} (P : PoolOk m a b c) (hm : m ≤ 100000) (hL : 1 ≤ L) (hL2 : L ≤ 1000000000000000) :
    ∃ (r : Nat) (a' b' c' : Int), Iv.run V (n + 1) "_law_pull" [.ow (poolD a b c), .sh (.int L)] = .ok (.val (.int r)) [.ow (poolD a' b' c'), .sh (.int L)] ∧ r < L ∧ PoolOk (m + 1) a' b' c' := by
  obtain ⟨r, a', b', c', e, h1, h2, P'⟩ := pull_ok (V := V) rfl (n := n) P hm (L := L) (by omega) (by omega)
  obtain ⟨k, rfl⟩ := Int.eq_ofNat_of_zero_le h1
  exact ⟨k, a', b', c', e, by omega, P'⟩
theorem ins_len (i x : Nat) (t : List Nat) : (insAt i x t).length = t.length + 1 := by
  unfold insAt
  simp only [List.length_append, List.length_take, List.length_drop, List.length_singleton]
  omega
theorem perms_len : ∀ (k : Nat) {t : List Nat}, t ∈ perms k → t.length = k + 2
  | 0, t, h => by
    cases List.mem_singleton.mp h; rfl
  | k + 1, t, h => by
    obtain ⟨u, hu, h⟩ := List.mem_flatMap.mp h
    obtain ⟨r, _, rfl⟩ := List.mem_map.mp h
    rw [ins_len, perms_len k hu]
theorem insert_nat {t : List Nat} {i x : Nat} (hi : i ≤ 1000) (hl : t.length ≤ 1000) : mthD "insert" (natD t) [.int i, .int x] = some (some (natD (insAt i x t)), .val .non) := by
  have e0 : mthD "insert" (natD t) [.int i, .int x] = mInsert (.lst (t.map fun (x : Nat) => D.int x)) [.int i, .int x] := rfl
  have e1 : decide (0 ≤ (i : Int)) = true := decide_eq_true (by omega)
  have e2 : decide ((i : Int).toNat ≤ 1000000) = true := decide_eq_true (by omega)
  have e3 : decide ((t.map fun (x : Nat) => D.int x).length < sizeLine) = true := decide_eq_true (by rw [nat_len]; unfold sizeLine; omega)
  rw [e0]
  simp only [mInsert, e1, e2, e3, Bool.and_self, guardO, if_true]
  rw [Int.toNat_natCast]
  unfold natD insAt
  rw [List.map_append, List.map_append, List.map_take, List.map_drop]
  rfl
theorem loop0_ok {m k0 : Nat} {a b c : Int} (P : PoolOk k0 a b c) (h0 : k0 ≤ 1000) (w n : Nat) (hn : n ≤ 6) :
    ∃ t a' b' c' s4, t ∈ perms (n - 2) ∧ PoolOk (k0 + 6) a' b' c' ∧ ex V (Iv.run V (m + 1)) [true] false l_law_table_0 [.ow (poolD a b c), .sh (.int w), .sh (.int n), .ow (natD [0, 1]), .no, .no, .no, .no, .no, .no, .no] = .ok .nx [.ow (poolD a' b' c'), .sh (.int w), .sh (.int n), .ow (natD t), s4, .no, .no, .no, .no, .no, .no] := by
  obtain ⟨ρ', e, t, a', b', c', s4, rfl, ht, P', h4⟩ := forL_cnt (asg := fun d => asgT [true] (.var 4) (.val d)) (body := exs V (Iv.run V (m + 1)) [true] false w_law_table_0) (fun j ρ => ∃ t a b c s4, ρ = [.ow (poolD a b c), .sh (.int w), .sh (.int n), .ow (natD t), s4, .no, .no, .no, .no, .no, .no] ∧ t ∈ perms j ∧ PoolOk (k0 + j) a b c ∧ fixS s4 = false) 2 (n - 2) 0 (fun j hj _ ρ ⟨t, a, b, c, s4, e, ht, P, h4⟩ => by
    subst e
    obtain ⟨r, a', b', c', e, hr, P'⟩ := pullN (n := m) (L := j + 1) P (by omega) (by omega) (by omega)
    have hl := perms_len j ht
    have k1 := insert_nat (t := t) (i := 2 + r) (x := j + 2) (by omega) (by omega)
    have c1 : (2 : Int) + (j : Int) = ((j + 2 : Nat) : Int) := by push_cast; omega
    have c2 : ((j + 2 : Nat) : Int) - 1 = ((j + 1 : Nat) : Int) := by push_cast; omega
    have c3 : (2 : Int) + (r : Int) = ((2 + r : Nat) : Int) := by push_cast; rfl
    have mk : mkind "insert" (natD t) = true := rfl
    have kp : keeps "insert" = true := rfl
    have bs : binD .Sub (.int ((j + 2 : Nat) : Int)) (.int 1) = some (.val (.int ((j + 1 : Nat) : Int))) := by
      show some (A.val (D.int (((j + 2 : Nat) : Int) - 1))) = _
      rw [c2]
    have ba : binD .Add (.int 2) (.int (r : Int)) = some (.val (.int ((2 + r : Nat) : Int))) := by
      show some (A.val (D.int (2 + (r : Int)))) = _
      rw [c3]
    rw [c1]
    refine ⟨[.ow (poolD a b c), .sh (.int w), .sh (.int n), .ow (natD t), .sh (.int ((j + 2 : Nat) : Int)), .no, .no, .no, .no, .no, .no], [.ow (poolD a' b' c'), .sh (.int w), .sh (.int n), .ow (natD (insAt (2 + r) (j + 2) t)), .sh (.int ((j + 2 : Nat) : Int)), .no, .no, .no, .no, .no, .no], ?_, ?_, _, a', b', c', _, rfl, ?_, P', rfl⟩
    · simp only [asgT, asgV, grd, bnd, putF, putSl, slot, h4, List.getD_cons_succ, List.getD_nil, List.getElem?_cons_succ, List.getElem?_cons_zero, Bool.not_false, if_true, List.set_cons_succ, List.set_cons_zero]
    · generalize ((j + 2 : Nat) : Int) = z1 at *
      generalize ((j + 1 : Nat) : Int) = z2 at *
      generalize ((2 + r : Nat) : Int) = z3 at *
      simp [w_law_table_0, exs, ex, ev, evA, evS, bnd, ret, grd, getv, slot, rd, rdL, opt, callM, slsOf, slOf, refs, nodupN, putOuts, owAt, bs, ba, e, k1, mk, kp, mput, putSl, stv]
    · exact List.mem_flatMap.mpr ⟨t, ht, List.mem_map.mpr ⟨r, List.mem_range.mpr hr, rfl⟩⟩) [.ow (poolD a b c), .sh (.int w), .sh (.int n), .ow (natD [0, 1]), .no, .no, .no, .no, .no, .no, .no] ⟨_, _, _, _, _, rfl, List.mem_singleton.mpr rfl, P, rfl⟩
  rw [Nat.zero_add] at ht P'
  refine ⟨t, a', b', c', s4, ht, PoolOk.mono P' (by omega), ?_⟩
  refine ex_for (as := [.val (.int 2), .val (.int n)]) (ds := [.int 2, .int n]) (items := rngL 2 (n - 2)) rfl rfl rfl ?_ e
  show guardO (rngOk 2 && rngOk (n : Int)) (rngL 2 ((n : Int) - 2).toNat) = _
  rw [rngOk_nat (n := n) (by omega)]
  have : ((n : Int) - 2).toNat = n - 2 := by omega
  rw [this]; rfl
theorem table_ok {m k0 : Nat} {a b c : Int} (P : PoolOk k0 a b c) (h0 : k0 ≤ 900) :
    ∃ w n t a' b' c', CaseOk w n t ∧ n ≤ 6 ∧ PoolOk (k0 + 8) a' b' c' ∧ Iv.run V (m + 2) "_law_table" [.ow (poolD a b c)] = .ok (.val (tabD (gridP w n t) (gridG w n t))) [.ow (poolD a' b' c')] := by
  obtain ⟨w, a1, b1, c1, e1, hw, P1⟩ := pullN (n := m) (L := 9) P (by omega) (by omega) (by omega)
  have head : ∃ n a2 b2 c2, n ∈ sizesOf w ∧ n ≤ 6 ∧ PoolOk (k0 + 2) a2 b2 c2 ∧ exs V (Iv.run V (m + 1)) [true] false (b_law_table.take 5) [.ow (poolD a b c), .no, .no, .no, .no, .no, .no, .no, .no, .no, .no] = .ok .nx [.ow (poolD a2 b2 c2), .sh (.int w), .sh (.int n), .ow (natD [0, 1]), .no, .no, .no, .no, .no, .no, .no] := by
    have d1 : b_law_table.take 5 = [.asg (.var 1) (.call "_law_pull" [(.var 0), (.cst (.int 9))]), .asg (.var 2) (.cst (.int 4)), .ite (.cmp .Lt (.var 1) (.cst (.int 6))) [.asg (.var 2) (.bin .Add (.cst (.int 1)) (.call "_law_pull" [(.var 0), (.cst (.int 6))]))] [], .ite (.and (.cmp .Eq (.var 1) (.cst (.int 0))) (.cmp .Lt (.var 2) (.cst (.int 2)))) [.asg (.var 2) (.cst (.int 2))] [], .asg (.var 3) (.lst [(.cst (.int 0)), (.cst (.int 1))])] := rfl
    rw [d1]
    have e1 : Iv.run V (m + 1) "_law_pull" [.ow (poolD a b c), .sh (.int 9)] = .ok (.val (.int w)) [.ow (poolD a1 b1 c1), .sh (.int 9)] := e1
    by_cases hw6 : w < 6
    · obtain ⟨r, a2, b2, c2, e2, hr, P2⟩ := pullN (n := m) (L := 6) P1 (by omega) (by omega) (by omega)
      have e2 : Iv.run V (m + 1) "_law_pull" [.ow (poolD a1 b1 c1), .sh (.int 6)] = .ok (.val (.int r)) [.ow (poolD a2 b2 c2), .sh (.int 6)] := e2
      have l1 : (w : Int) < 6 := by omega
      by_cases hz : w = 0
      · subst hz
        by_cases hr0 : r = 0
        · subst hr0
          refine ⟨2, a2, b2, c2, by decide, by decide, P2, ?_⟩
          simp [exs, ex, ev, evA, evS, evO, evTs, bnd, ret, grd, getv, slot, rd, rdL, opt, truthD, tst, biD, coldBi, callM, slsOf, slOf, refs, nodupN, pickL, idxD, ixN, inD, memD, putOuts, owAt, cmpD, ltD, leD, D.cmpable, D.pln, D.plnL, D.dep, D.depL, D.pe, D.peL, D.isNon, guardO, isiD, tyNames, binD, asgT, asgTs, seqOf, asgV, putF, putSl, stv, isVarT, fixS_sh, fixS_no, fixS_ow, retA, finish, maskO, isOw, sizeLine, fail, natD, e1, e2]
        · refine ⟨1 + r, a2, b2, c2, ?_, by omega, P2, ?_⟩
          · have : r = 1 ∨ r = 2 ∨ r = 3 ∨ r = 4 ∨ r = 5 := by omega
            rcases this with rfl | rfl | rfl | rfl | rfl <;> decide
          · have l2 : ¬ (1 : Int) + (r : Int) < 2 := by omega
            simp [exs, ex, ev, evA, evS, evO, evTs, bnd, ret, grd, getv, slot, rd, rdL, opt, truthD, tst, biD, coldBi, callM, slsOf, slOf, refs, nodupN, pickL, idxD, ixN, inD, memD, putOuts, owAt, cmpD, ltD, leD, D.cmpable, D.pln, D.plnL, D.dep, D.depL, D.pe, D.peL, D.isNon, guardO, isiD, tyNames, binD, asgT, asgTs, seqOf, asgV, putF, putSl, stv, isVarT, fixS_sh, fixS_no, fixS_ow, retA, finish, maskO, isOw, sizeLine, fail, natD, e1, e2, l2]
      · have l3 : ¬ (w : Int) = 0 := by omega
        refine ⟨1 + r, a2, b2, c2, ?_, by omega, P2, ?_⟩
        · unfold sizesOf
          rw [if_neg hz, if_pos hw6]
          have : r = 0 ∨ r = 1 ∨ r = 2 ∨ r = 3 ∨ r = 4 ∨ r = 5 := by omega
          rcases this with rfl | rfl | rfl | rfl | rfl | rfl <;> decide
        · simp [exs, ex, ev, evA, evS, evO, evTs, bnd, ret, grd, getv, slot, rd, rdL, opt, truthD, tst, biD, coldBi, callM, slsOf, slOf, refs, nodupN, pickL, idxD, ixN, inD, memD, putOuts, owAt, cmpD, ltD, leD, D.cmpable, D.pln, D.plnL, D.dep, D.depL, D.pe, D.peL, D.isNon, guardO, isiD, tyNames, binD, asgT, asgTs, seqOf, asgV, putF, putSl, stv, isVarT, fixS_sh, fixS_no, fixS_ow, retA, finish, maskO, isOw, sizeLine, fail, natD, e1, e2, l1, l3, hz]
    · have l1 : ¬ (w : Int) < 6 := by omega
      have l3 : ¬ (w : Int) = 0 := by omega
      have l4 : ¬ w = 0 := by omega
      refine ⟨4, a1, b1, c1, ?_, by decide, PoolOk.mono P1 (by omega), ?_⟩
      · unfold sizesOf
        rw [if_neg l4, if_neg hw6]
        decide
      · simp [exs, ex, ev, evA, evS, evO, evTs, bnd, ret, grd, getv, slot, rd, rdL, opt, truthD, tst, biD, coldBi, callM, slsOf, slOf, refs, nodupN, pickL, idxD, ixN, inD, memD, putOuts, owAt, cmpD, ltD, leD, D.cmpable, D.pln, D.plnL, D.dep, D.depL, D.pe, D.peL, D.isNon, guardO, isiD, tyNames, binD, asgT, asgTs, seqOf, asgV, putF, putSl, stv, isVarT, fixS_sh, fixS_no, fixS_ow, retA, finish, maskO, isOw, sizeLine, fail, natD, e1, l1, l3, l4]
  obtain ⟨n, a2, b2, c2, hn, hn6, P2, eh⟩ := head
  obtain ⟨t, a3, b3, c3, s4, ht, P3, e0⟩ := loop0_ok (m := m) P2 (by omega) w n hn6
  have C := case_mem hw hn ht
  obtain ⟨ρ, er⟩ := rest_ok (m := m) (P := poolD a3 b3 c3) C hn6 s4
  refine ⟨w, n, t, a3, b3, c3, C, hn6, PoolOk.mono P3 (by omega), ?_⟩
  rw [run_eq (fn := f_law_table) rfl rfl]
  have hb : f_law_table.body = b_law_table.take 5 ++ (l_law_table_0 :: b_law_table.drop 6) := rfl
  have hr : List.replicate (f_law_table.nn - f_law_table.np) Sl.no = [.no, .no, .no, .no, .no, .no, .no, .no, .no, .no] := rfl
  rw [hb, hr]
  show finish _ (exs V (Iv.run V (m + 1)) [true] false _ [.ow (poolD a b c), .no, .no, .no, .no, .no, .no, .no, .no, .no, .no]) = _
  rw [exs_app _ _ eh, exs_nx e0, er]
  simp [finish, maskO, isOw]
end K05

set_option linter.all false
set_option maxRecDepth 100000
set_option autoImplicit false
set_option Elab.async false
set_option maxHeartbeats 1000000
namespace K05
open Iv
/-! ### drawn weights -/
theorem lt_big {x : Int} (h : x < sml) : x < big := Int.lt_trans h (by decide)
/-- a drawn weight -/
def Sm : D → Prop
  | .int x => x < sml
  | _ => True
theorem large_ok {m k0 : Nat} {a b c : Int} (P : PoolOk k0 a b c) (h0 : k0 ≤ 900) :
    ∃ (x a' b' c' : Int), 0 ≤ x ∧ x < sml ∧ PoolOk (k0 + 11) a' b' c' ∧ Iv.run V (m + 2) "_law_large" [.ow (poolD a b c)] = .ok (.val (.int x)) [.ow (poolD a' b' c')] := by
  obtain ⟨x, a1, b1, c1, e1, hx, P1⟩ := pullN (n := m) (L := 10) P (by omega) (by omega) (by omega)
  obtain ⟨y, a2, b2, c2, e2, hy, P2⟩ := pullN (n := m) (L := 3) P1 (by omega) (by omega) (by omega)
  have e1 : Iv.run V (m + 1) "_law_pull" [.ow (poolD a b c), .sh (.int 10)] = .ok (.val (.int x)) [.ow (poolD a1 b1 c1), .sh (.int 10)] := e1
  have e2 : Iv.run V (m + 1) "_law_pull" [.ow (poolD a1 b1 c1), .sh (.int 3)] = .ok (.val (.int y)) [.ow (poolD a2 b2 c2), .sh (.int 3)] := e2
  by_cases hy0 : y = 0
  · subst hy0
    obtain ⟨n, a3, b3, c3, e3, hn, P3⟩ := pullN (n := m) (L := 9) P2 (by omega) (by omega) (by omega)
    have e3 : Iv.run V (m + 1) "_law_pull" [.ow (poolD a2 b2 c2), .sh (.int 9)] = .ok (.val (.int n)) [.ow (poolD a3 b3 c3), .sh (.int 9)] := e3
    obtain ⟨ρ', e, z, a4, b4, c4, s2, rfl, z0, z1, P4, h2⟩ := forL_cnt (asg := fun d => asgT [true] (.var 2) (.val d)) (body := exs V (Iv.run V (m + 1)) [true] false w_law_large_0) (fun j ρ => ∃ (z a b c : Int) (s2 : Sl), ρ = [.ow (poolD a b c), .sh (.int z), s2] ∧ 0 ≤ z ∧ z < 10 * 1000000 ^ j ∧ PoolOk (k0 + 3 + j) a b c ∧ fixS s2 = false) 0 n 0 (fun j hj _ ρ ⟨z, a, b, c, s2, e, z0, z1, P, h2⟩ => by
      subst e
      obtain ⟨r, a', b', c', e, hr, P'⟩ := pullN (n := m) (L := 1000000) P (by omega) (by omega) (by omega)
      have e : Iv.run V (m + 1) "_law_pull" [.ow (poolD a b c), .sh (.int 1000000)] = .ok (.val (.int r)) [.ow (poolD a' b' c'), .sh (.int 1000000)] := e
      have zb : z < sml := by
        refine Int.lt_of_lt_of_le z1 ?_
        have : j = 0 ∨ j = 1 ∨ j = 2 ∨ j = 3 ∨ j = 4 ∨ j = 5 ∨ j = 6 ∨ j = 7 := by omega
        rcases this with rfl | rfl | rfl | rfl | rfl | rfl | rfl | rfl <;> decide
      have mo : mulOk z 1000000 = true := mul_ok (log_big z0 (lt_big zb)) (by decide)
      have po : binD .Pow (.int 10) (.int 6) = some (.val (.int 1000000)) := by rfl
      have bm : binD .Mult (.int z) (.int 1000000) = some (.val (.int (z * 1000000))) := by
        show guardO (mulOk z 1000000) _ = _
        rw [mo]; rfl
      have ba : binD .Add (.int (z * 1000000)) (.int r) = some (.val (.int (z * 1000000 + r))) := rfl
      have z1' : z * 1000000 + r < 10 * 1000000 ^ (j + 1) := by
        rw [Int.pow_succ, ← Int.mul_assoc]
        omega
      refine ⟨[.ow (poolD a b c), .sh (.int z), .sh (.int (0 + (j : Int)))], [.ow (poolD a' b' c'), .sh (.int (z * 1000000 + r)), .sh (.int (0 + (j : Int)))], ?_, ?_, _, a', b', c', _, rfl, by omega, z1', P', rfl⟩
      · simp only [asgT, asgV, grd, bnd, putF, putSl, slot, h2, List.getD_cons_succ, List.getD_nil, List.getElem?_cons_succ, List.getElem?_cons_zero, Bool.not_false, if_true, List.set_cons_succ, List.set_cons_zero]
      · simp [w_law_large_0, exs, ex, ev, evA, evS, bnd, ret, grd, getv, slot, rd, rdL, opt, callM, slsOf, slOf, refs, nodupN, putOuts, owAt, po, bm, ba, e, putSl, stv, asgT, asgV, putF, isVarT, fixS_sh]) [.ow (poolD a3 b3 c3), .sh (.int x), .no] ⟨_, _, _, _, _, rfl, by omega, by omega, P3, rfl⟩
    rw [Nat.zero_add] at z1 P4
    have ef : ex V (Iv.run V (m + 1)) [true] false l_law_large_0 [.ow (poolD a2 b2 c2), .sh (.int x), .no] = .ok .nx [.ow (poolD a4 b4 c4), .sh (.int z), s2] := by
      have e0 : ex V (Iv.run V (m + 1)) [true] false l_law_large_0 [.ow (poolD a2 b2 c2), .sh (.int x), .no] = bnd (evA V (Iv.run V (m + 1)) false [(.call "_law_pull" [(.var 0), (.cst (.int 9))])]) (fun as => bnd (rdL as) fun ds => bnd (opt (itemsOf "range" ds)) fun items => locked as (forL (fun d => asgT [true] (.var 2) (.val d)) (exs V (Iv.run V (m + 1)) [true] false w_law_large_0) items)) [.ow (poolD a2 b2 c2), .sh (.int x), .no] := rfl
      have ea : evA V (Iv.run V (m + 1)) false [(.call "_law_pull" [(.var 0), (.cst (.int 9))])] [.ow (poolD a2 b2 c2), .sh (.int x), .no] = .ok [.val (.int n)] [.ow (poolD a3 b3 c3), .sh (.int x), .no] := by
        simp [evA, ev, bnd, ret, grd, getv, slot, rd, rdL, opt, callM, slsOf, slOf, refs, nodupN, putOuts, owAt, e3]
      rw [e0, bnd_ok' ea]
      show bnd (opt (guardO (rngOk (n : Int)) (rngL 0 (n : Int).toNat))) (fun items => locked [A.val (.int n)] (forL (fun d => asgT [true] (.var 2) (.val d)) (exs V (Iv.run V (m + 1)) [true] false w_law_large_0) items)) _ = _
      rw [rngOk_nat (n := n) (by omega), Int.toNat_natCast]
      show Out.mapR _ (forL (fun d => asgT [true] (.var 2) (.val d)) (exs V (Iv.run V (m + 1)) [true] false w_law_large_0) (rngL (0 + ((0 : Nat) : Int)) n) [.ow (poolD a3 b3 c3), .sh (.int x), .no]) = _
      rw [e]
      rfl
    refine ⟨z, a4, b4, c4, z0, ?_, PoolOk.mono P4 (by omega), ?_⟩
    · refine Int.lt_of_lt_of_le z1 ?_
      have : n = 0 ∨ n = 1 ∨ n = 2 ∨ n = 3 ∨ n = 4 ∨ n = 5 ∨ n = 6 ∨ n = 7 ∨ n = 8 := by omega
      rcases this with rfl | rfl | rfl | rfl | rfl | rfl | rfl | rfl | rfl <;> decide
    · rw [run_eq (fn := f_law_large) rfl rfl]
      simp [f_law_large, b_law_large, exs, ef, ex, ev, evA, bnd, ret, grd, getv, slot, rd, rdL, opt, truthD, tst, callM, slsOf, slOf, refs, nodupN, putOuts, owAt, e1, e2, cmpD, D.cmpable, D.pln, D.dep, D.pe, guardO, asgT, asgV, putF, putSl, isVarT, fixS_no, retA, finish, maskO, isOw]
  · have hy1 : ¬ (y : Int) = 0 := by omega
    refine ⟨x, a2, b2, c2, by omega, by unfold sml; omega, PoolOk.mono P2 (by omega), ?_⟩
    rw [run_eq (fn := f_law_large) rfl rfl]
    simp [f_law_large, b_law_large, exs, ex, ev, evA, bnd, ret, grd, getv, slot, rd, rdL, opt, truthD, tst, callM, slsOf, slOf, refs, nodupN, putOuts, owAt, e1, e2, hy0, hy1, cmpD, D.cmpable, D.pln, D.dep, D.pe, guardO, asgT, asgV, putF, putSl, isVarT, fixS_no, retA, finish, maskO, isOw]
def wEq (s : SR) (x : Tx) (b : Bool) : Prop := cmpD .Eq s.w (.str x) = some b
theorem weight_ok {m k0 : Nat} {a b c : Int} {s : SR} (h : s.ok) (P : PoolOk k0 a b c) (h0 : k0 ≤ 800) :
    ∃ (d : D) (a' b' c' : Int), Wt s d ∧ Sm d ∧ PoolOk (k0 + 12) a' b' c' ∧ Iv.run V (m + 3) "_law_weight" [.ow (poolD a b c), .sh s.d] = .ok (.val d) [.ow (poolD a' b' c'), .sh s.d] := by
  cases s with
  | truth =>
    obtain ⟨x, a1, b1, c1, e1, hx, P1⟩ := pullN (n := m + 1) (L := 2) P (by omega) (by omega) (by omega)
    have e1 : Iv.run V (m + 2) "_law_pull" [.ow (poolD a b c), .sh (.int 2)] = .ok (.val (.int x)) [.ow (poolD a1 b1 c1), .sh (.int 2)] := e1
    refine ⟨.bl ((x : Int) == 1), a1, b1, c1, .truth _, trivial, PoolOk.mono P1 (by omega), ?_⟩
    rw [run_eq (fn := f_law_weight) rfl rfl]
    simp [f_law_weight, b_law_weight, exs, ex, ev, evA, evS, evO, evTs, bnd, ret, grd, getv, slot, rd, rdL, opt, truthD, tst, biD, coldBi, callM, slsOf, slOf, refs, nodupN, pickL, idxD, ixN, inD, memD, putOuts, owAt, cmpD, ltD, leD, D.cmpable, D.pln, D.plnL, D.dep, D.depL, D.pe, D.peL, D.isNon, guardO, isiD, tyNames, binD, asgT, asgTs, seqOf, asgV, putF, putSl, stv, isVarT, fixS_sh, fixS_no, fixS_ow, retA, finish, maskO, isOw, sizeLine, fail, SR.d, e1]
  | level t =>
    have ht := h.2
    obtain ⟨x, a1, b1, c1, e1, hx, P1⟩ := pullN (n := m + 1) (L := t + 1) P (by omega) (by omega) (by omega)
    refine ⟨.int x, a1, b1, c1, .level t x (by omega) (by omega), (by show ((x : Nat) : Int) < sml; unfold sml; omega), PoolOk.mono P1 (by omega), ?_⟩
    rw [run_eq (fn := f_law_weight) rfl rfl]
    have hc : ((t + 1 : Nat) : Int) = (t : Int) + 1 := by push_cast; rfl
    rw [hc] at e1
    simp [f_law_weight, b_law_weight, exs, ex, ev, evA, evS, evO, evTs, bnd, ret, grd, getv, slot, rd, rdL, opt, truthD, tst, biD, coldBi, callM, slsOf, slOf, refs, nodupN, pickL, idxD, ixN, inD, memD, putOuts, owAt, cmpD, ltD, leD, D.cmpable, D.pln, D.plnL, D.dep, D.depL, D.pe, D.peL, D.isNon, guardO, isiD, tyNames, binD, asgT, asgTs, seqOf, asgV, putF, putSl, stv, isVarT, fixS_sh, fixS_no, fixS_ow, retA, finish, maskO, isOw, sizeLine, fail, SR.d, e1]
  | table n p g =>
    have hn := h.n6
    have hn1 := h.n1
    obtain ⟨x, a1, b1, c1, e1, hx, P1⟩ := pullN (n := m + 1) (L := n) P (by omega) (by omega) (by omega)
    refine ⟨.int x, a1, b1, c1, .table n p g x hx, (by show ((x : Nat) : Int) < sml; unfold sml; omega), PoolOk.mono P1 (by omega), ?_⟩
    rw [run_eq (fn := f_law_weight) rfl rfl]
    have e3 := glen h.P
    simp [f_law_weight, b_law_weight, exs, ex, ev, evA, evS, evO, evTs, bnd, ret, grd, getv, slot, rd, rdL, opt, truthD, tst, coldBi, callM, slsOf, slOf, refs, nodupN, pickL, inD, memD, owAt, cmpD, ltD, leD, D.cmpable, D.pln, D.plnL, D.dep, D.depL, D.pe, D.peL, D.isNon, guardO, binD, asgT, asgTs, seqOf, asgV, putF, putSl, stv, isVarT, fixS_sh, fixS_no, fixS_ow, retA, finish, maskO, isOw, fail, putOuts, owAt, SR.d, t0, t1, e3, e1]
  | count =>
    obtain ⟨x, a1, b1, c1, x0, x1, P1, e1⟩ := large_ok (m := m) P (by omega)
    refine ⟨.int x, a1, b1, c1, .count x x0 (lt_big x1), x1, PoolOk.mono P1 (by omega), ?_⟩
    rw [run_eq (fn := f_law_weight) rfl rfl]
    simp [f_law_weight, b_law_weight, exs, ex, ev, evA, evS, evO, evTs, bnd, ret, grd, getv, slot, rd, rdL, opt, truthD, tst, biD, coldBi, callM, slsOf, slOf, refs, nodupN, pickL, idxD, ixN, inD, memD, putOuts, owAt, cmpD, ltD, leD, D.cmpable, D.pln, D.plnL, D.dep, D.depL, D.pe, D.peL, D.isNon, guardO, isiD, tyNames, binD, asgT, asgTs, seqOf, asgV, putF, putSl, stv, isVarT, fixS_sh, fixS_no, fixS_ow, retA, finish, maskO, isOw, sizeLine, fail, SR.d, e1]
  | cost =>
    obtain ⟨y, a2, b2, c2, e2, hy, P2⟩ := pullN (n := m + 1) (L := 5) P (by omega) (by omega) (by omega)
    have e2 : Iv.run V (m + 2) "_law_pull" [.ow (poolD a b c), .sh (.int 5)] = .ok (.val (.int y)) [.ow (poolD a2 b2 c2), .sh (.int 5)] := e2
    by_cases hy0 : y = 0
    · subst hy0
      refine ⟨.non, a2, b2, c2, .costN, trivial, PoolOk.mono P2 (by omega), ?_⟩
      rw [run_eq (fn := f_law_weight) rfl rfl]
      simp [f_law_weight, b_law_weight, exs, ex, ev, evA, evS, evO, evTs, bnd, ret, grd, getv, slot, rd, rdL, opt, truthD, tst, biD, coldBi, callM, slsOf, slOf, refs, nodupN, pickL, idxD, ixN, inD, memD, putOuts, owAt, cmpD, ltD, leD, D.cmpable, D.pln, D.plnL, D.dep, D.depL, D.pe, D.peL, D.isNon, guardO, isiD, tyNames, binD, asgT, asgTs, seqOf, asgV, putF, putSl, stv, isVarT, fixS_sh, fixS_no, fixS_ow, retA, finish, maskO, isOw, sizeLine, fail, SR.d, e2]
    · have hy1 : ¬ (y : Int) = 0 := by omega
      obtain ⟨x, a1, b1, c1, x0, x1, P1, e1⟩ := large_ok (m := m) P2 (by omega)
      refine ⟨.int x, a1, b1, c1, .cost x x0 (lt_big x1), x1, PoolOk.mono P1 (by omega), ?_⟩
      rw [run_eq (fn := f_law_weight) rfl rfl]
      simp [f_law_weight, b_law_weight, exs, ex, ev, evA, evS, evO, evTs, bnd, ret, grd, getv, slot, rd, rdL, opt, truthD, tst, biD, coldBi, callM, slsOf, slOf, refs, nodupN, pickL, idxD, ixN, inD, memD, putOuts, owAt, cmpD, ltD, leD, D.cmpable, D.pln, D.plnL, D.dep, D.depL, D.pe, D.peL, D.isNon, guardO, isiD, tyNames, binD, asgT, asgTs, seqOf, asgV, putF, putSl, stv, isVarT, fixS_sh, fixS_no, fixS_ow, retA, finish, maskO, isOw, sizeLine, fail, SR.d, e1, e2, hy0, hy1]
end K05

set_option linter.all false
set_option maxRecDepth 100000
set_option autoImplicit false
set_option Elab.async false
set_option maxHeartbeats 1000000
namespace K05
open Iv
/-! ### the order, by values -/
theorem TabOk.at_p {n : Nat} {p g : List (List Nat)} (h : TabOk n p g) {a b : Nat} (ha : a < n) (hb : b < n) : at2 p a b < n := h.P.at_lt ha hb
theorem TabOk.at_g {n : Nat} {p g : List (List Nat)} (h : TabOk n p g) {a b : Nat} (ha : a < n) (hb : b < n) : at2 g a b < n := h.G.at_lt ha hb
theorem add_wt {s : SR} {a b : D} (h : s.ok) (wa : Wt s a) (wb : Wt s b) (sa : Sm a) (sb : Sm b) : Wt s (addR s a b) := by
  cases wa with
  | truth x => cases wb with
    | truth y => exact .truth _
  | count x h1 h2 => cases wb with
    | count y h3 h4 =>
      have q1 : x < sml := sa
      have q2 : y < sml := sb
      exact .count _ (by omega) (by unfold sml at q1 q2; unfold big; omega)
  | cost x h1 h2 => cases wb with
    | cost y h3 h4 =>
      show Wt .cost (.int (if y < x then y else x))
      split
      · exact .cost _ h3 h4
      · exact .cost _ h1 h2
    | costN => exact .cost _ h1 h2
  | costN => cases wb with
    | cost y h3 h4 => exact .cost _ h3 h4
    | costN => exact .costN
  | level t x h1 h2 => cases wb with
    | level _ y h3 h4 =>
      show Wt (.level t) (.int (if y > x then y else x))
      split
      · exact .level t _ h3 h4
      · exact .level t _ h1 h2
  | table n p g x hx => cases wb with
    | table _ _ _ y hy => exact .table n p g _ (TabOk.at_p h hx hy)
theorem mul_wt {s : SR} {a b : D} (h : s.ok) (wa : Wt s a) (wb : Wt s b) (sa : Sm a) (sb : Sm b) : Wt s (mulR s a b) := by
  cases wa with
  | truth x => cases wb with
    | truth y => exact .truth _
  | count x h1 h2 => cases wb with
    | count y h3 h4 =>
      have q1 : x < sml := sa
      have q2 : y < sml := sb
      refine .count _ (Int.mul_nonneg h1 h3) ?_
      have e1 : x * y ≤ sml * y := Int.mul_le_mul_of_nonneg_right (by omega) h3
      have e2 : sml * y ≤ sml * sml := Int.mul_le_mul_of_nonneg_left (by omega) (by decide)
      exact Int.lt_of_le_of_lt (Int.le_trans e1 e2) (by decide)
  | cost x h1 h2 => cases wb with
    | cost y h3 h4 =>
      have q1 : x < sml := sa
      have q2 : y < sml := sb
      exact .cost _ (by omega) (by unfold sml at q1 q2; unfold big; omega)
    | costN => exact .costN
  | costN => cases wb with
    | cost y h3 h4 => exact .costN
    | costN => exact .costN
  | level t x h1 h2 => cases wb with
    | level _ y h3 h4 =>
      show Wt (.level t) (.int (if y < x then y else x))
      split
      · exact .level t _ h3 h4
      · exact .level t _ h1 h2
  | table n p g x hx => cases wb with
    | table _ _ _ y hy => exact .table n p g _ (TabOk.at_g h hx hy)
theorem zero_wt {s : SR} (h : s.ok) : Wt s (zeroR s) := by
  cases s with
  | truth => exact .truth _
  | count => exact .count 0 (by decide) (by decide)
  | cost => exact .costN
  | level t => exact .level t 0 (by decide) (by omega)
  | table n p g => exact .table n p g 0 h.n1
theorem tab_ex {n : Nat} {p : List (List Nat)} {a b : Nat} (h : ((List.range n).any fun c => at2 p a c == b) = true) : ∃ c, c < n ∧ at2 p a c = b := by
  obtain ⟨c, hc, e⟩ := List.any_eq_true.mp h
  exact ⟨c, List.mem_range.mp hc, by simpa using e⟩
theorem tab_of {n : Nat} {p : List (List Nat)} {a b c : Nat} (hc : c < n) (e : at2 p a c = b) : ((List.range n).any fun c => at2 p a c == b) = true :=
  List.any_eq_true.mpr ⟨c, List.mem_range.mpr hc, by simpa using e⟩
theorem plus0 {n : Nat} {p g : List (List Nat)} (h : TabOk n p g) {a : Nat} (ha : a < n) : at2 p 0 a = a := by
  have n1 := h.n1
  obtain ⟨e, m⟩ := h.P.rowAt (a := 0) (by omega)
  have hl : a < (rw_ p 0).length := by rw [h.P.row _ m]; exact ha
  have e2 : (rw_ p 0)[a]? = some (at2 p 0 a) := by
    unfold at2
    rw [List.getD_eq_getElem?_getD (l := rw_ p 0), List.getElem?_eq_getElem hl]; rfl
  exact h.pz a _ e2
theorem most_refl {s : SR} {a : D} (h : s.ok) (wa : Wt s a) : mostR s a a = true := by
  cases wa with
  | truth x => cases x <;> rfl
  | count x _ _ => show decide (x ≤ x) = true; simp
  | cost x _ _ => show decide (x ≤ x) = true; simp
  | costN => rfl
  | level t x _ _ => show decide (x ≤ x) = true; simp
  | table n p g x hx =>
    have n1 := h.n1
    refine tab_of (c := 0) (by omega) ?_
    rw [Int.toNat_natCast, h.pt x 0 hx (by omega), plus0 h hx]
theorem most_zero {s : SR} {a : D} (h : s.ok) (wa : Wt s a) : mostR s (zeroR s) a = true := by
  cases wa with
  | truth x => cases x <;> rfl
  | count x h1 _ => show decide (0 ≤ x) = true; simpa using h1
  | cost x _ _ => rfl
  | costN => rfl
  | level t x h1 _ => show decide (0 ≤ x) = true; simpa using h1
  | table n p g x hx => exact tab_of (c := x) hx (by rw [Int.toNat_natCast]; exact plus0 h hx)
theorem most_trans {s : SR} {a b c : D} (h : s.ok) (wa : Wt s a) (wb : Wt s b) (wc : Wt s c) (h1 : mostR s a b = true) (h2 : mostR s b c = true) : mostR s a c = true := by
  cases wa with
  | truth x => cases wb with
    | truth y => cases wc with
      | truth z => cases x <;> cases y <;> cases z <;> simp_all [mostR]
  | count x _ _ => cases wb with
    | count y _ _ => cases wc with
      | count z _ _ => simp only [mostR, decide_eq_true_eq] at *; omega
  | cost x _ _ => cases wb with
    | cost y _ _ => cases wc with
      | cost z _ _ => simp only [mostR, decide_eq_true_eq] at *; omega
      | costN => cases h2
    | costN => cases h1
  | costN => cases wc <;> rfl
  | level t x _ _ => cases wb with
    | level _ y _ _ => cases wc with
      | level _ z _ _ => simp only [mostR, decide_eq_true_eq] at *; omega
  | table n p g x hx => cases wb with
    | table _ _ _ y hy => cases wc with
      | table _ _ _ z hz =>
        obtain ⟨u, hu, e1⟩ := tab_ex h1
        obtain ⟨v, hv, e2⟩ := tab_ex h2
        simp only [Int.toNat_natCast] at e1 e2
        refine tab_of (c := at2 p u v) (TabOk.at_p h hu hv) ?_
        simp only [Int.toNat_natCast]
        rw [← h.pg x u v hx hu hv, e1, e2]
theorem most_add {s : SR} {a b c : D} (h : s.ok) (wa : Wt s a) (wb : Wt s b) (wc : Wt s c) (h1 : mostR s a b = true) : mostR s (addR s a c) (addR s b c) = true := by
  cases wa with
  | truth x => cases wb with
    | truth y => cases wc with
      | truth z => cases x <;> cases y <;> cases z <;> simp_all [mostR, addR]
  | count x _ _ => cases wb with
    | count y _ _ => cases wc with
      | count z _ _ => simp only [mostR, addR, decide_eq_true_eq] at *; omega
  | cost x _ _ => cases wb with
    | cost y _ _ => cases wc with
      | cost z _ _ =>
        simp only [mostR, addR, decide_eq_true_eq] at *
        split <;> split <;> omega
      | costN => exact h1
    | costN => cases h1
  | costN => cases wc with
    | cost z _ _ => cases wb with
      | cost y _ _ =>
        simp only [mostR, addR, decide_eq_true_eq] at *
        split <;> omega
      | costN => simp [mostR, addR]
    | costN => rfl
  | level t x _ _ => cases wb with
    | level _ y _ _ => cases wc with
      | level _ z _ _ =>
        simp only [mostR, addR, decide_eq_true_eq] at *
        split <;> split <;> omega
  | table n p g x hx => cases wb with
    | table _ _ _ y hy => cases wc with
      | table _ _ _ z hz =>
        obtain ⟨u, hu, e1⟩ := tab_ex h1
        simp only [Int.toNat_natCast] at e1
        refine tab_of (c := u) hu ?_
        simp only [Int.toNat_natCast]
        rw [h.pg x z u hx hz hu, h.pt z u hz hu, ← h.pg x u z hx hu hz, e1]
theorem most_mul {s : SR} {a b c : D} (h : s.ok) (wa : Wt s a) (wb : Wt s b) (wc : Wt s c) (h1 : mostR s a b = true) : mostR s (mulR s a c) (mulR s b c) = true := by
  cases wa with
  | truth x => cases wb with
    | truth y => cases wc with
      | truth z => cases x <;> cases y <;> cases z <;> simp_all [mostR, mulR]
  | count x _ _ => cases wb with
    | count y _ _ => cases wc with
      | count z hz _ =>
        simp only [mostR, mulR, decide_eq_true_eq] at *
        exact Int.mul_le_mul_of_nonneg_right h1 hz
  | cost x _ _ => cases wb with
    | cost y _ _ => cases wc with
      | cost z _ _ => simp only [mostR, mulR, decide_eq_true_eq] at *; omega
      | costN => rfl
    | costN => cases h1
  | costN => cases wc with
    | cost z _ _ => cases wb with
      | cost y _ _ => rfl
      | costN => rfl
    | costN => cases wb <;> rfl
  | level t x _ _ => cases wb with
    | level _ y _ _ => cases wc with
      | level _ z _ _ =>
        simp only [mostR, mulR, decide_eq_true_eq] at *
        split <;> split <;> omega
  | table n p g x hx => cases wb with
    | table _ _ _ y hy => cases wc with
      | table _ _ _ z hz =>
        obtain ⟨u, hu, e1⟩ := tab_ex h1
        simp only [Int.toNat_natCast] at e1
        refine tab_of (c := at2 g u z) (TabOk.at_g h hu hz) ?_
        simp only [Int.toNat_natCast]
        rw [h.tt x z hx hz, h.tt u z hu hz, ← h.sp z x u hz hx hu, e1, h.tt z y hz hy]
/-! texts of weights -/
def strD : D → Tx
  | .bl b => tx (if b then "True" else "False")
  | .non => tx "None"
  | .int i => strInt i
  | _ => []
theorem strInt_nat (n : Nat) : strInt (n : Int) = (Nat.toDigits 10 n).map Char.toNat := by
  show ((Nat.repr n).toList).map Char.toNat = _
  unfold Nat.repr
  rw [String.toList_ofList]
theorem map_inj : ∀ {l m : List Char}, l.map Char.toNat = m.map Char.toNat → l = m
  | [], [], _ => rfl
  | [], _ :: _, h => by cases h
  | _ :: _, [], h => by cases h
  | a :: l, b :: m, h => by
    simp only [List.map_cons, List.cons.injEq] at h
    rw [map_inj h.2]
    congr 1
    exact Char.ext (UInt32.toNat_inj.mp h.1)
theorem strInt_inj {i j : Int} (hi : 0 ≤ i) (hj : 0 ≤ j) (h : strInt i = strInt j) : i = j := by
  obtain ⟨n, rfl⟩ := Int.eq_ofNat_of_zero_le hi
  obtain ⟨m, rfl⟩ := Int.eq_ofNat_of_zero_le hj
  rw [strInt_nat, strInt_nat] at h
  have e := map_inj h
  have e1 := Nat.ofDigitChars_toDigits (b := 10) (n := n) (by decide) (by decide)
  have e2 := Nat.ofDigitChars_toDigits (b := 10) (n := m) (by decide) (by decide)
  rw [e, e2] at e1
  rw [e1]
theorem ofDC_none : Nat.ofDigitChars 10 "None".toList 0 = Nat.ofDigitChars 10 "None".toList 0 := rfl
theorem strInt_none {i : Int} (hi : 0 ≤ i) : strInt i ≠ tx "None" := by
  obtain ⟨n, rfl⟩ := Int.eq_ofNat_of_zero_le hi
  rw [strInt_nat]
  intro h
  have h : (Nat.toDigits 10 n).map Char.toNat = ("None".toList).map Char.toNat := h
  have e := map_inj h
  have : 'N' ∈ Nat.toDigits 10 n := by rw [e]; decide
  have q := Nat.isDigit_of_mem_toDigits (by decide) (by decide) this
  revert q; decide
theorem str_inj {s : SR} {a b : D} (wa : Wt s a) (wb : Wt s b) (h : strD a = strD b) : a = b := by
  cases wa with
  | truth x => cases wb with
    | truth y => cases x <;> cases y <;> first | rfl | (exact absurd h (by decide))
  | count x h1 _ => cases wb with
    | count y h2 _ => rw [strInt_inj h1 h2 h]
  | cost x h1 _ => cases wb with
    | cost y h2 _ => rw [strInt_inj h1 h2 h]
    | costN => exact absurd h (strInt_none h1)
  | costN => cases wb with
    | cost y h2 _ => exact absurd h.symm (strInt_none h2)
    | costN => rfl
  | level t x h1 _ => cases wb with
    | level _ y h2 _ => rw [strInt_inj h1 h2 h]
  | table n p g x _ => cases wb with
    | table _ _ _ y _ => rw [strInt_inj (by omega) (by omega) h]
end K05

set_option linter.all false
set_option maxRecDepth 100000
set_option autoImplicit false
set_option Elab.async false
set_option maxHeartbeats 1000000
namespace K05
open Iv
/-! ### loops over a list of the frame's own -/
theorem forL_pre {asg : D → M Unit} {body : M Fl} (I : List D → Rho → Prop) (N : Nat) : ∀ (items pre : List D), pre.length + items.length ≤ N → (∀ d ∈ items, ∀ pre ρ, pre.length < N → I pre ρ → ∃ ρ1 ρ2, asg d ρ = .ok () ρ1 ∧ body ρ1 = .ok .nx ρ2 ∧ I (pre ++ [d]) ρ2) → ∀ ρ, I pre ρ → ∃ ρ', forL asg body items ρ = .ok .nx ρ' ∧ I (pre ++ items) ρ'
  | [], pre, _, _, ρ, h => ⟨ρ, rfl, by simpa using h⟩
  | d :: r, pre, hl, h, ρ, hI => by
    simp only [List.length_cons] at hl
    obtain ⟨ρ1, ρ2, e1, e2, h2⟩ := h d List.mem_cons_self pre ρ (by omega) hI
    obtain ⟨ρ', e3, h3⟩ := forL_pre I N r (pre ++ [d]) (by simp; omega) (fun d hd => h d (List.mem_cons_of_mem _ hd)) ρ2 h2
    refine ⟨ρ', by simp [forL, bnd, e1, e2, e3], ?_⟩
    simpa using h3
theorem ex_for_lk {V : Env} {Φ : String → Rho → COut} {pn : List Bool} {t : Tgt} {b : List CS} {j : Nat} {l : List D} {ρ ρ' : Rho} {f : Fl} (hj : ρ[j]? = some (.lk (.lst l)))
    (hf : forL (fun d => asgT pn t (.val d)) (exs V Φ pn false b) l ρ = .ok f ρ') : ex V Φ pn false (.for_ t "" [.var j] b) ρ = .ok f ρ' := by
  have e0 : ex V Φ pn false (.for_ t "" [.var j] b) ρ = bnd (grd (!false)) (fun _ => bnd (evA V Φ false [.var j]) fun as => bnd (rdL as) fun ds => bnd (opt (itemsOf "" ds)) fun items => locked as (forL (fun d => asgT pn t (.val d)) (exs V Φ pn false b) items)) ρ := rfl
  have ha : evA V Φ false [.var j] ρ = .ok [.rf j] ρ := by simp [evA, ev, bnd, getv, slot, hj, ret]
  have hd : rdL [.rf j] ρ = .ok [.lst l] ρ := by simp [rdL, rd, bnd, slot, hj, ret]
  have hi : itemsOf "" [.lst l] = some l := rfl
  have hl : toLock [.rf j] ρ = [] := by simp [toLock, refs, hj]
  rw [e0]
  simp only [bnd, grd, ha, hd, opt, hi, locked, hl, Bool.not_false, if_true]
  show Out.mapR _ (forL (fun d => asgT pn t (.val d)) (exs V Φ pn false b) l ρ) = _
  rw [hf]; rfl
theorem ex_for_ow {V : Env} {Φ : String → Rho → COut} {pn : List Bool} {t : Tgt} {b : List CS} {j : Nat} {l : List D} {ρ ρ' : Rho} {f : Fl} (hj : ρ[j]? = some (.ow (.lst l)))
    (hf : forL (fun d => asgT pn t (.val d)) (exs V Φ pn false b) l (ρ.set j (.lk (.lst l))) = .ok f ρ') : ex V Φ pn false (.for_ t "" [.var j] b) ρ = .ok f (mapAt unlockS [j] ρ') := by
  have e0 : ex V Φ pn false (.for_ t "" [.var j] b) ρ = bnd (grd (!false)) (fun _ => bnd (evA V Φ false [.var j]) fun as => bnd (rdL as) fun ds => bnd (opt (itemsOf "" ds)) fun items => locked as (forL (fun d => asgT pn t (.val d)) (exs V Φ pn false b) items)) ρ := rfl
  have ha : evA V Φ false [.var j] ρ = .ok [.rf j] ρ := by simp [evA, ev, bnd, getv, slot, hj, ret]
  have hd : rdL [.rf j] ρ = .ok [.lst l] ρ := by simp [rdL, rd, bnd, slot, hj, ret]
  have hi : itemsOf "" [.lst l] = some l := rfl
  have hl : toLock [.rf j] ρ = [j] := by simp [toLock, refs, hj]
  have hm : mapAt lockS [j] ρ = ρ.set j (.lk (.lst l)) := by simp [mapAt, hj, lockS]
  rw [e0]
  simp only [bnd, grd, ha, hd, opt, hi, locked, hl, hm, Bool.not_false, if_true]
  rw [hf]; rfl
/-! ### dicts by two texts -/
def K2 (x y : Tx) : D := .tup [.str x, .str y]
theorem K2_eq (x y x' y' : Tx) : D.eq (K2 x y) (K2 x' y') = true ↔ x = x' ∧ y = y' := by
  show ((x == x') && ((y == y') && true)) = true ↔ _
  simp
theorem K2_key (x y : Tx) : D.keyT (K2 x y) = true := rfl
def KD (l : List (D × D)) : Prop := ∀ p ∈ l, ∃ x y, p.1 = K2 x y
theorem dget_app {k : D} : ∀ (l : List (D × D)) (m : List (D × D)), dget (l ++ m) k = match dget l k with | some v => some v | none => dget m k
  | [], m => rfl
  | (a, v) :: l, m => by
    show (if D.eq a k = true then some v else dget (l ++ m) k) = match (if D.eq a k = true then some v else dget l k) with | some v => some v | none => dget m k
    by_cases h : D.eq a k = true
    · rw [if_pos h, if_pos h]
    · rw [if_neg h, if_neg h]; exact dget_app l m
theorem dget_map {x y x' y' : Tx} {v : D} : ∀ {l : List (D × D)}, KD l → dget (l.map fun p => if D.eq p.1 (K2 x y) = true then (p.1, v) else p) (K2 x' y') = if x = x' ∧ y = y' then (dget l (K2 x' y')).map (fun _ => v) else dget l (K2 x' y')
  | [], _ => by simp [dget]
  | (a, w) :: l, h => by
    obtain ⟨u, z, e⟩ := h (a, w) List.mem_cons_self
    have e : a = K2 u z := e
    subst e
    have ih := dget_map (x := x) (y := y) (x' := x') (y' := y') (v := v) (l := l) fun p hp => h p (List.mem_cons_of_mem _ hp)
    rw [List.map_cons]
    by_cases c1 : u = x ∧ z = y
    · rw [if_pos ((K2_eq _ _ _ _).mpr c1)]
      show (if D.eq (K2 u z) (K2 x' y') = true then some v else dget _ _) = _
      by_cases c2 : x = x' ∧ y = y'
      · have c3 : u = x' ∧ z = y' := ⟨c1.1.trans c2.1, c1.2.trans c2.2⟩
        rw [if_pos ((K2_eq _ _ _ _).mpr c3), if_pos c2]
        show _ = (if D.eq (K2 u z) (K2 x' y') = true then some w else dget l _).map _
        rw [if_pos ((K2_eq _ _ _ _).mpr c3)]; rfl
      · have c3 : ¬ (u = x' ∧ z = y') := fun q => c2 ⟨c1.1.symm.trans q.1, c1.2.symm.trans q.2⟩
        rw [if_neg (fun q => c3 ((K2_eq _ _ _ _).mp q)), ih, if_neg c2, if_neg c2]
        show _ = (if D.eq (K2 u z) (K2 x' y') = true then some w else dget l _)
        rw [if_neg (fun q => c3 ((K2_eq _ _ _ _).mp q))]
    · rw [if_neg (fun q => c1 ((K2_eq _ _ _ _).mp q))]
      show (if D.eq (K2 u z) (K2 x' y') = true then some w else dget _ _) = _
      by_cases c3 : u = x' ∧ z = y'
      · have c2 : ¬ (x = x' ∧ y = y') := fun q => c1 ⟨c3.1.trans q.1.symm, c3.2.trans q.2.symm⟩
        rw [if_pos ((K2_eq _ _ _ _).mpr c3), if_neg c2]
        show _ = (if D.eq (K2 u z) (K2 x' y') = true then some w else dget l _)
        rw [if_pos ((K2_eq _ _ _ _).mpr c3)]
      · rw [if_neg (fun q => c3 ((K2_eq _ _ _ _).mp q)), ih]
        have e4 : dget ((K2 u z, w) :: l) (K2 x' y') = dget l (K2 x' y') := by
          show (if D.eq (K2 u z) (K2 x' y') = true then some w else dget l _) = _
          rw [if_neg (fun q => c3 ((K2_eq _ _ _ _).mp q))]
        rw [e4]
theorem dget_any {x y : Tx} : ∀ {l : List (D × D)}, (l.any fun p => D.eq p.1 (K2 x y)) = (dget l (K2 x y)).isSome
  | [] => rfl
  | (a, w) :: l => by
    rw [List.any_cons, dget_any (l := l)]
    show (D.eq a (K2 x y) || _) = (if D.eq a (K2 x y) = true then some w else dget l (K2 x y)).isSome
    by_cases h : D.eq a (K2 x y) = true
    · rw [if_pos h, h]; rfl
    · rw [if_neg h]
      simp only [Bool.not_eq_true] at h
      rw [h]; rfl
theorem dget_put {x y x' y' : Tx} {v : D} {l : List (D × D)} (h : KD l) : dget (dput l (K2 x y) v) (K2 x' y') = if x = x' ∧ y = y' then some v else dget l (K2 x' y') := by
  unfold dput
  rw [dget_any]
  by_cases c : x = x' ∧ y = y'
  · obtain ⟨rfl, rfl⟩ := c
    cases e : dget l (K2 x y) with
    | some w => simp [dget_map h, e]
    | none =>
      simp only [Option.isSome_none, Bool.false_eq_true, if_false]
      rw [dget_app, e]
      show (if D.eq (K2 x y) (K2 x y) = true then some v else none) = _
      rw [if_pos ((K2_eq _ _ _ _).mpr ⟨rfl, rfl⟩)]; simp
  · cases e : dget l (K2 x y) with
    | some w => simp [dget_map h, c]
    | none =>
      simp only [Option.isSome_none, Bool.false_eq_true, if_false]
      rw [dget_app]
      have e2 : dget [(K2 x y, v)] (K2 x' y') = none := by
        show (if D.eq (K2 x y) (K2 x' y') = true then some v else none) = _
        rw [if_neg (fun q => c ((K2_eq _ _ _ _).mp q))]
      rw [e2, if_neg c]
      cases dget l (K2 x' y') <;> rfl
theorem KD_put {x y : Tx} {v : D} {l : List (D × D)} (h : KD l) : KD (dput l (K2 x y) v) := by
  unfold dput
  intro p hp
  split at hp
  · obtain ⟨q, hq, rfl⟩ := List.mem_map.mp hp
    by_cases c : D.eq q.1 (K2 x y) = true
    · rw [if_pos c]; exact h q hq
    · rw [if_neg c]; exact h q hq
  · rcases List.mem_append.mp hp with hp | hp
    · exact h p hp
    · cases List.mem_singleton.mp hp
      exact ⟨x, y, rfl⟩
theorem len_put {k v : D} {l : List (D × D)} : (dput l k v).length ≤ l.length + 1 := by
  unfold dput
  split <;> simp
end K05

set_option linter.all false
set_option maxRecDepth 100000
set_option autoImplicit false
set_option Elab.async false
set_option maxHeartbeats 1000000
namespace K05
open Iv
theorem str_bi {s : SR} {d : D} (w : Wt s d) (sm : Sm d) : biD "str" [d] = some (.val (.str (strD d))) := by
  have int : ∀ x : Int, 0 ≤ x → x < sml → biD "str" [.int x] = some (.val (.str (strD (.int x)))) := fun x h1 h2 => by
    have e : decide (x.natAbs.log2 < 1920) = true := decide_eq_true (Nat.lt_of_lt_of_le (small_log (k := 200) (by unfold sml at h2; omega) (by decide)) (by decide))
    simp only [biD, e, guardO, if_true, strD]
  cases w with
  | truth x => rfl
  | count x h1 _ => exact int x h1 sm
  | cost x h1 _ => exact int x h1 sm
  | costN => rfl
  | level t x h1 _ => exact int x h1 sm
  | table n p g x hx => exact int x (by omega) sm
/-- a row of weights -/
structure Row (s : SR) (row : List D) : Prop where
  wt : ∀ d ∈ row, Wt s d
  sm : ∀ d ∈ row, Sm d
  len : row.length ≤ 100
def KY (a b : D) : D := K2 (strD a) (strD b)
/-- entries of the table are right -/
def VC (s : SR) (row : List D) (l : List (D × D)) : Prop := KD l ∧ ∀ x y v, dget l (K2 x y) = some v → ∃ a b, a ∈ row ∧ b ∈ row ∧ x = strD a ∧ y = strD b ∧ v = .bl (mostR s a b)
theorem VC.nil {s : SR} {row : List D} : VC s row [] := ⟨fun p q => (by cases q), fun x y v q => (by cases q)⟩
theorem VC.put {s : SR} {row : List D} {l : List (D × D)} {a b : D} (h : VC s row l) (ha : a ∈ row) (hb : b ∈ row) : VC s row (dput l (KY a b) (.bl (mostR s a b))) := by
  refine ⟨KD_put h.1, fun x y v e => ?_⟩
  unfold KY at e
  rw [dget_put h.1] at e
  split at e
  · rename_i c
    cases e
    exact ⟨a, b, ha, hb, c.1.symm, c.2.symm, rfl⟩
  · exact h.2 x y v e
theorem VC.get {s : SR} {row : List D} {l : List (D × D)} {a b : D} (h : VC s row l) (R : Row s row) (ha : a ∈ row) (hb : b ∈ row) (e : (dget l (KY a b)).isSome = true) : dget l (KY a b) = some (.bl (mostR s a b)) := by
  obtain ⟨v, e⟩ := Option.isSome_iff_exists.mp e
  obtain ⟨a', b', ha', hb', e1, e2, rfl⟩ := h.2 _ _ _ e
  cases str_inj (R.wt a ha) (R.wt a' ha') e1
  cases str_inj (R.wt b hb) (R.wt b' hb') e2
  exact e
theorem has_put {l : List (D × D)} {a b a' b' v : D} (h : KD l) (e : (dget l (KY a' b')).isSome = true) : (dget (dput l (KY a b) v) (KY a' b')).isSome = true := by
  unfold KY at e ⊢
  rw [dget_put h]
  split
  · rfl
  · exact e
theorem has_new {l : List (D × D)} {a b v : D} (h : KD l) : (dget (dput l (KY a b) v) (KY a b)).isSome = true := by
  unfold KY
  rw [dget_put h, if_pos ⟨rfl, rfl⟩]; rfl
section
variable {m : Nat} {s : SR} {row : List D}
theorem below_in (h : s.ok) (R : Row s row) {a : D} (ha : a ∈ row) (l0 : List (D × D)) (h0 : VC s row l0) (hl : l0.length ≤ 10000) (s4 s5 : Sl) (f4 : fixS s4 = false) (f5 : fixS s5 = false) :
    ∃ l s4' s5', ex V (Iv.run V (m + 8)) [false, true] false l_law_below_0 [.sh s.d, .lk (.lst row), .ow (.dtn l0), .sh a, s4, s5] = .ok .nx [.sh s.d, .lk (.lst row), .ow (.dtn l), .sh a, s4', s5'] ∧ fixS s4' = false ∧ fixS s5' = false ∧
      VC s row l ∧ l.length ≤ l0.length + row.length ∧ (∀ a' b', (dget l0 (KY a' b')).isSome = true → (dget l (KY a' b')).isSome = true) ∧ (∀ b ∈ row, (dget l (KY a b)).isSome = true) := by
  obtain ⟨ρ', e, l, s4', s5', rfl, g4, g5, hv, hn, hk, hd⟩ := forL_pre (asg := fun d => asgT [false, true] (.var 4) (.val d)) (body := exs V (Iv.run V (m + 8)) [false, true] false w_law_below_0)
    (fun pre ρ => ∃ l s4 s5, ρ = [.sh s.d, .lk (.lst row), .ow (.dtn l), .sh a, s4, s5] ∧ fixS s4 = false ∧ fixS s5 = false ∧ VC s row l ∧ l.length ≤ l0.length + pre.length ∧ (∀ a' b', (dget l0 (KY a' b')).isSome = true → (dget l (KY a' b')).isSome = true) ∧ ∀ b ∈ pre, (dget l (KY a b)).isSome = true) row.length row [] (by simp) (fun b hb pre ρ hp ⟨l, s4, s5, e, f4, f5, hv, hn, hk, hd⟩ => by
      subst e
      have rl := R.len
      have k1 := at_most_ok (m := m) h (R.wt a ha) (R.wt b hb)
      have k2 := str_bi (R.wt a ha) (R.sm a ha)
      have k3 := str_bi (R.wt b hb) (R.sm b hb)
      have k4 : isiD (.bl (mostR s a b)) ["bool"] = true := rfl
      have k5 : setDT (.dtn l) (.tup [.str (strD a), .str (strD b)]) (.bl (mostR s a b)) = some (.dtn (dput l (KY a b) (.bl (mostR s a b)))) := by
        show guardO (D.keyT (K2 (strD a) (strD b)) && decide (l.length < sizeLine)) _ = _
        have : decide (l.length < sizeLine) = true := decide_eq_true (by unfold sizeLine; omega)
        rw [this, K2_key]; rfl
      refine ⟨[.sh s.d, .lk (.lst row), .ow (.dtn l), .sh a, .sh b, s5], [.sh s.d, .lk (.lst row), .ow (.dtn (dput l (KY a b) (.bl (mostR s a b)))), .sh a, .sh b, .sh (.bl (mostR s a b))], ?_, ?_, _, _, _, rfl, rfl, rfl, hv.put ha hb, ?_, fun a' b' q => has_put hv.1 (hk a' b' q), fun b' hb' => ?_⟩
      · simp [asgT, asgV, grd, bnd, putF, putSl, slot, f4]
      · simp [w_law_below_0, exs, ex, ev, evA, evS, bnd, ret, grd, getv, slot, rd, rdL, opt, truthD, tst, coldBi, callM, slsOf, slOf, refs, nodupN, putOuts, stv, mput, putSl, asgT, asgV, putF, isVarT, f5, k1, k2, k3, k4, k5, sizeLine]
      · have := len_put (k := KY a b) (v := .bl (mostR s a b)) (l := l)
        simp only [List.length_append, List.length_singleton]; omega
      · rcases List.mem_append.mp hb' with q | q
        · exact has_put hv.1 (hd b' q)
        · cases List.mem_singleton.mp q
          exact has_new hv.1) [.sh s.d, .lk (.lst row), .ow (.dtn l0), .sh a, s4, s5] ⟨l0, s4, s5, rfl, f4, f5, h0, by simp, fun _ _ q => q, fun _ q => by cases q⟩
  exact ⟨l, s4', s5', ex_for_lk rfl e, g4, g5, hv, by simpa using hn, hk, by simpa using hd⟩
theorem below_ok (h : s.ok) (R : Row s row) : ∃ l, Iv.run V (m + 9) "_law_below" [.sh s.d, .ow (.lst row)] = .ok (.fr (.dtn l)) [.sh s.d, .ow (.lst row)] ∧ ∀ a ∈ row, ∀ b ∈ row, dget l (KY a b) = some (.bl (mostR s a b)) := by
  obtain ⟨ρ', e, l, s3, s4, s5, rfl, g3, g4, g5, hv, hn, hd⟩ := forL_pre (asg := fun d => asgT [false, true] (.var 3) (.val d)) (body := exs V (Iv.run V (m + 8)) [false, true] false w_law_below_1)
    (fun pre ρ => ∃ l s3 s4 s5, ρ = [.sh s.d, .lk (.lst row), .ow (.dtn l), s3, s4, s5] ∧ fixS s3 = false ∧ fixS s4 = false ∧ fixS s5 = false ∧ VC s row l ∧ l.length ≤ pre.length * row.length ∧ ∀ a ∈ pre, ∀ b ∈ row, (dget l (KY a b)).isSome = true) row.length row [] (by simp) (fun a ha pre ρ hp ⟨l, s3, s4, s5, e, f3, f4, f5, hv, hn, hd⟩ => by
      subst e
      have rl := R.len
      have hb : pre.length * row.length ≤ 100 * 100 := Nat.mul_le_mul (by omega) rl
      obtain ⟨l', s4', s5', e, g4, g5, hv', hn', hk, hd'⟩ := below_in (m := m) h R ha l hv (by omega) s4 s5 f4 f5
      refine ⟨[.sh s.d, .lk (.lst row), .ow (.dtn l), .sh a, s4, s5], [.sh s.d, .lk (.lst row), .ow (.dtn l'), .sh a, s4', s5'], by simp [asgT, asgV, grd, bnd, putF, putSl, slot, f3], by simp [w_law_below_1, exs, bnd, e, ret], l', _, s4', s5', rfl, rfl, g4, g5, hv', ?_, fun a' ha' b hb => ?_⟩
      · rw [List.length_append, List.length_singleton, Nat.succ_mul]; omega
      · rcases List.mem_append.mp ha' with q | q
        · exact hk _ _ (hd a' q b hb)
        · cases List.mem_singleton.mp q
          exact hd' b hb) [.sh s.d, .lk (.lst row), .ow (.dtn []), .no, .no, .no] ⟨[], _, _, _, rfl, rfl, rfl, rfl, VC.nil, by simp, fun a q => absurd q (by simp)⟩
  refine ⟨l, ?_, fun a ha b hb => hv.get R ha hb (hd a (by simpa using ha) b hb)⟩
  have ef : ex V (Iv.run V (m + 8)) [false, true] false l_law_below_1 [.sh s.d, .ow (.lst row), .ow (.dtn []), .no, .no, .no] = .ok .nx [.sh s.d, .ow (.lst row), .ow (.dtn l), s3, s4, s5] := by
    have := ex_for_ow (V := V) (Φ := Iv.run V (m + 8)) (pn := [false, true]) (t := .var 3) (b := w_law_below_1) (j := 1) (l := row) (ρ := [.sh s.d, .ow (.lst row), .ow (.dtn []), .no, .no, .no]) rfl e
    exact this
  rw [run_eq (fn := f_law_below) rfl rfl]
  simp [f_law_below, b_law_below, exs, ef, ex, ev, bnd, ret, grd, getv, slot, asgT, asgV, putF, putSl, isVarT, fixS_no, retA, finish, maskO, isOw]
end
end K05

set_option linter.all false
set_option maxRecDepth 100000
set_option autoImplicit false
set_option Elab.async false
set_option maxHeartbeats 1000000
namespace K05
open Iv
theorem idx_tab {l : List (D × D)} {a b v : D} (h : dget l (KY a b) = some v) : idxD (.dtn l) (.tup [.str (strD a), .str (strD b)]) = some v := by
  show (guardO (D.keyT (K2 (strD a) (strD b))) ()).bind (fun _ => dget l (KY a b)) = some v
  rw [K2_key, h]; rfl
section
variable {m : Nat} {s : SR} {row : List D} {l : List (D × D)}
theorem order_c (h : s.ok) (R : Row s row) (hd : ∀ a ∈ row, ∀ b ∈ row, dget l (KY a b) = some (.bl (mostR s a b))) {a b : D} (ha : a ∈ row) (hb : b ∈ row) (s3 s6 : Sl) (f6 : fixS s6 = false) :
    ∃ s6', ex V (Iv.run V (m + 9)) [false, true] false l_law_order_0 [.sh s.d, .lk (.lst row), .ow (.dtn l), s3, .sh a, .sh b, s6] = .ok .nx [.sh s.d, .lk (.lst row), .ow (.dtn l), s3, .sh a, .sh b, s6'] ∧ fixS s6' = false := by
  obtain ⟨ρ', e, s6', rfl, g6⟩ := forL_all (asg := fun d => asgT [false, true] (.var 6) (.val d)) (body := exs V (Iv.run V (m + 9)) [false, true] false w_law_order_0)
    (fun ρ => ∃ s6, ρ = [.sh s.d, .lk (.lst row), .ow (.dtn l), s3, .sh a, .sh b, s6] ∧ fixS s6 = false) row (fun c hc ρ ⟨s6, e, f6⟩ => by
      subst e
      have wa := R.wt a ha
      have wb := R.wt b hb
      have wc := R.wt c hc
      have sa := R.sm a ha
      have sb := R.sm b hb
      have sc := R.sm c hc
      have k1 := str_bi wa sa
      have k2 := str_bi wb sb
      have k3 := str_bi wc sc
      have i1 := idx_tab (hd a ha b hb)
      have i2 := idx_tab (hd b hb c hc)
      have i3 := idx_tab (hd a ha c hc)
      have p1 := plus_ok (m := m + 1) h wa wc
      have p2 := plus_ok (m := m + 1) h wb wc
      have t1 := times_ok (m := m + 1) h wa wc
      have t2 := times_ok (m := m + 1) h wb wc
      have q1 := at_most_ok (m := m + 1) h (add_wt h wa wc sa sc) (add_wt h wb wc sb sc)
      have q2 := at_most_ok (m := m + 1) h (mul_wt h wa wc sa sc) (mul_wt h wb wc sb sc)
      have tr := most_trans h wa wb wc
      refine ⟨[.sh s.d, .lk (.lst row), .ow (.dtn l), s3, .sh a, .sh b, .sh c], [.sh s.d, .lk (.lst row), .ow (.dtn l), s3, .sh a, .sh b, .sh c], by simp [asgT, asgV, grd, bnd, putF, putSl, slot, f6], ?_, _, rfl, rfl⟩
      cases hab : mostR s a b with
      | false =>
        rw [hab] at i1
        simp [w_law_order_0, exs, ex, ev, evA, evS, bnd, ret, grd, getv, slot, rd, rdL, opt, truthD, tst, coldBi, stv, k1, k2, k3, i1, i2, i3, sizeLine]
      | true =>
        rw [hab] at i1
        rw [most_add h wa wb wc hab] at q1
        rw [most_mul h wa wb wc hab] at q2
        cases hbc : mostR s b c with
        | false =>
          rw [hbc] at i2
          simp [w_law_order_0, exs, ex, ev, evA, evS, bnd, ret, grd, getv, slot, rd, rdL, opt, truthD, tst, coldBi, callM, slsOf, slOf, refs, nodupN, putOuts, stv, k1, k2, k3, i1, i2, i3, p1, p2, t1, t2, q1, q2, sizeLine]
        | true =>
          rw [hbc] at i2
          rw [tr hab hbc] at i3
          simp [w_law_order_0, exs, ex, ev, evA, evS, bnd, ret, grd, getv, slot, rd, rdL, opt, truthD, tst, coldBi, callM, slsOf, slOf, refs, nodupN, putOuts, stv, k1, k2, k3, i1, i2, i3, p1, p2, t1, t2, q1, q2, sizeLine])
    [.sh s.d, .lk (.lst row), .ow (.dtn l), s3, .sh a, .sh b, s6] ⟨_, rfl, f6⟩
  exact ⟨s6', ex_for_lk rfl e, g6⟩
theorem order_b (h : s.ok) (R : Row s row) (hd : ∀ a ∈ row, ∀ b ∈ row, dget l (KY a b) = some (.bl (mostR s a b))) {a : D} (ha : a ∈ row) (s3 s5 s6 : Sl) (f5 : fixS s5 = false) (f6 : fixS s6 = false) :
    ∃ s5' s6', ex V (Iv.run V (m + 9)) [false, true] false l_law_order_1 [.sh s.d, .lk (.lst row), .ow (.dtn l), s3, .sh a, s5, s6] = .ok .nx [.sh s.d, .lk (.lst row), .ow (.dtn l), s3, .sh a, s5', s6'] ∧ fixS s5' = false ∧ fixS s6' = false := by
  obtain ⟨ρ', e, s5', s6', rfl, g5, g6⟩ := forL_all (asg := fun d => asgT [false, true] (.var 5) (.val d)) (body := exs V (Iv.run V (m + 9)) [false, true] false w_law_order_1)
    (fun ρ => ∃ s5 s6, ρ = [.sh s.d, .lk (.lst row), .ow (.dtn l), s3, .sh a, s5, s6] ∧ fixS s5 = false ∧ fixS s6 = false) row (fun b hb ρ ⟨s5, s6, e, f5, f6⟩ => by
      subst e
      obtain ⟨s6', e, g6⟩ := order_c (m := m) h R hd ha hb s3 s6 f6
      exact ⟨[.sh s.d, .lk (.lst row), .ow (.dtn l), s3, .sh a, .sh b, s6], [.sh s.d, .lk (.lst row), .ow (.dtn l), s3, .sh a, .sh b, s6'], by simp [asgT, asgV, grd, bnd, putF, putSl, slot, f5], by simp [w_law_order_1, exs, bnd, e, ret], _, _, rfl, rfl, g6⟩)
    [.sh s.d, .lk (.lst row), .ow (.dtn l), s3, .sh a, s5, s6] ⟨_, _, rfl, f5, f6⟩
  exact ⟨s5', s6', ex_for_lk rfl e, g5, g6⟩
theorem order_ok (h : s.ok) (R : Row s row) : Iv.run V (m + 10) "_law_order" [.sh s.d, .ow (.lst row)] = .ok (.val (.bl true)) [.sh s.d, .ow (.lst row)] := by
  obtain ⟨l, kb, hd⟩ := below_ok (m := m) h R
  have kz := zeroOf_ok (m := m + 2) h
  obtain ⟨ρ', e, s4, s5, s6, rfl, g4, g5, g6⟩ := forL_all (asg := fun d => asgT [false, true] (.var 4) (.val d)) (body := exs V (Iv.run V (m + 9)) [false, true] false w_law_order_2)
    (fun ρ => ∃ s4 s5 s6, ρ = [.sh s.d, .lk (.lst row), .ow (.dtn l), .sh (zeroR s), s4, s5, s6] ∧ fixS s4 = false ∧ fixS s5 = false ∧ fixS s6 = false) row (fun a ha ρ ⟨s4, s5, s6, e, f4, f5, f6⟩ => by
      subst e
      have wa := R.wt a ha
      obtain ⟨s5', s6', e, g5, g6⟩ := order_b (m := m) h R hd ha (.sh (zeroR s)) s5 s6 f5 f6
      have k1 := str_bi wa (R.sm a ha)
      have i1 := idx_tab (hd a ha a ha)
      rw [most_refl h wa] at i1
      have q1 := at_most_ok (m := m + 1) h (zero_wt h) wa
      rw [most_zero h wa] at q1
      refine ⟨[.sh s.d, .lk (.lst row), .ow (.dtn l), .sh (zeroR s), .sh a, s5, s6], [.sh s.d, .lk (.lst row), .ow (.dtn l), .sh (zeroR s), .sh a, s5', s6'], by simp [asgT, asgV, grd, bnd, putF, putSl, slot, f4], ?_, _, _, _, rfl, rfl, g5, g6⟩
      simp [w_law_order_2, exs, e, ex, ev, evA, evS, bnd, ret, grd, getv, slot, rd, rdL, opt, truthD, tst, coldBi, callM, slsOf, slOf, refs, nodupN, putOuts, stv, k1, i1, q1, sizeLine])
    [.sh s.d, .lk (.lst row), .ow (.dtn l), .sh (zeroR s), .no, .no, .no] ⟨_, _, _, rfl, rfl, rfl, rfl⟩
  have ef : ex V (Iv.run V (m + 9)) [false, true] false l_law_order_2 [.sh s.d, .ow (.lst row), .ow (.dtn l), .sh (zeroR s), .no, .no, .no] = .ok .nx [.sh s.d, .ow (.lst row), .ow (.dtn l), .sh (zeroR s), s4, s5, s6] := by
    have := ex_for_ow (V := V) (Φ := Iv.run V (m + 9)) (pn := [false, true]) (t := .var 4) (b := w_law_order_2) (j := 1) (l := row) (ρ := [.sh s.d, .ow (.lst row), .ow (.dtn l), .sh (zeroR s), .no, .no, .no]) rfl e
    exact this
  rw [run_eq (fn := f_law_order) rfl rfl]
  have c1 : cmpD .Is (.dtn l) .non = some false := rfl
  simp [f_law_order, b_law_order, exs, ef, ex, ev, evA, bnd, ret, grd, getv, slot, rd, rdL, opt, truthD, tst, callM, slsOf, slOf, refs, nodupN, putOuts, owAt, kb, kz, c1, asgT, asgV, putF, putSl, isVarT, fixS_no, retA, finish, maskO, isOw]
end
end K05

set_option linter.all false
set_option maxRecDepth 100000
set_option autoImplicit false
set_option Elab.async false
set_option maxHeartbeats 1000000
namespace K05
open Iv
/-! ### identities -/
abbrev wSum : D := .str [115, 117, 109]
abbrev wSq : D := .str [115, 113, 117, 97, 114, 101]
abbrev wAb : D := .str [97, 98, 115, 111, 114, 98]
def idem (n : Nat) (p : List (List Nat)) : Bool := (List.range n).all fun a => at2 p a a == a
def abso (n : Nat) (p : List (List Nat)) : Bool := (List.range n).all fun a => at2 p a (one n) == one n
def words (x y z : Bool) : List D := (if x = true then [wSum] else []) ++ (if y = true then [wSq] else []) ++ (if z = true then [wAb] else [])
theorem allBl_map {α : Type} (f : α → Bool) : ∀ (l : List α), allBl (l.map fun a => D.bl (f a)) = some (l.map f)
  | [] => rfl
  | a :: l => by
    show (allBl (l.map fun a => D.bl (f a))).map (f a :: ·) = _
    rw [allBl_map f l]; rfl
theorem bi_all {α : Type} (f : α → Bool) (l : List α) : biD "all" [.lst (l.map fun a => D.bl (f a))] = some (.val (.bl (l.all f))) := by
  show (allBl (l.map fun a => D.bl (f a))).map (fun bs => A.val (.bl (bs.all id))) = _
  rw [allBl_map]
  show some (A.val (D.bl ((l.map f).all id))) = _
  rw [List.all_map]; rfl
theorem natOf_int (a : Nat) : natOf (.int a) = a := rfl
section
variable {m n : Nat} {p g : List (List Nat)}
theorem eq_nat (x y : Nat) : cmpD .Eq (.int x) (.int y) = some (x == y) := by
  show some ((x : Int) == (y : Int)) = _
  congr 1
  by_cases h : x = y
  · subst h; simp
  · have h2 : (x : Int) ≠ (y : Int) := by omega
    rw [beq_eq_false_iff_ne.mpr h2, beq_eq_false_iff_ne.mpr h]
theorem comp_id (h : TabOk n p g) (f : Nat → Bool) (e : CE) (s1 s2 s3 : Sl) (hs3 : lockS s3 = s3 ∨ True)
    (he : ∀ a, a < n → ev V (Iv.run V m) false e [.sh (tabD p g), .sh (.int n), s2, s3, .sh (.int a)] = .ok (.val (.bl (f a))) [.sh (tabD p g), .sh (.int n), s2, s3, .sh (.int a)]) :
    ev V (Iv.run V m) false (.comp e (.var 4) "range" [(.var 1)] [] [4] 5) [.sh (tabD p g), .sh (.int n), s2, s3, .no] = .ok (.fr (.lst ((List.range n).map fun a => D.bl (f a)))) [.sh (tabD p g), .sh (.int n), s2, s3, .no] := by
  have n6 := h.n6
  have e1 : ((List.range n).map fun a => D.bl (f a)) = (rngD n).map fun d => D.bl (f (natOf d)) := by
    unfold rngD
    rw [List.map_map]
    apply List.map_congr_left
    intro a _
    rfl
  rw [e1]
  refine ev_comp (as := [.val (.int n)]) (ds := [.int n]) (items := rngD n) (fun d => D.bl (f (natOf d))) rfl rfl rfl rfl ?_ (by simp [rngD, sizeLine]; omega) (fun x hx => ?_)
  · show guardO (rngOk (n : Int)) (rngL 0 (n : Int).toNat) = _
    rw [rngOk_nat (by omega), Int.toNat_natCast, rngL0]; rfl
  · obtain ⟨a, ha, rfl⟩ := mem_rng hx
    refine ⟨[.sh (tabD p g), .sh (.int n), s2, s3, .sh (.int a)], [.sh (tabD p g), .sh (.int n), s2, s3, .sh (.int a)], [.sh (tabD p g), .sh (.int n), s2, s3, .sh (.int a)], rfl, rfl, ?_, rfl⟩
    rw [bnd_ok' (he a ha)]
    rfl
theorem table_id_ok (h : TabOk n p g) : Iv.run V (m + 1) "table_identities" [.sh (tabD p g)] = .ok (.val (.tup (words (idem n p) (idem n g) (abso n p)))) [.sh (tabD p g)] := by
  have n1 := h.n1
  have n6 := h.n6
  have o : one n < n := by unfold one; split <;> omega
  have e3 := glen h.P
  have mo := min_one n1
  have q0 : ∀ s2 s3, ev V (Iv.run V m) false q_table_identities_0 [.sh (tabD p g), .sh (.int n), s2, s3, .no] = .ok (.fr (.lst ((List.range n).map fun a => D.bl (at2 p a a == a)))) [.sh (tabD p g), .sh (.int n), s2, s3, .no] := fun s2 s3 => by
    refine comp_id h (fun a => at2 p a a == a) _ .no s2 s3 (.inr trivial) fun a ha => ?_
    have i1 := idx_grid h.P ha
    have i2 := idx_row h.P ha ha
    have c := eq_nat (at2 p a a) a
    simp [ev, bnd, ret, getv, slot, rd, opt, t1, i1, i2, c]
  have q1 : ∀ s2 s3, ev V (Iv.run V m) false q_table_identities_1 [.sh (tabD p g), .sh (.int n), s2, s3, .no] = .ok (.fr (.lst ((List.range n).map fun a => D.bl (at2 g a a == a)))) [.sh (tabD p g), .sh (.int n), s2, s3, .no] := fun s2 s3 => by
    refine comp_id h (fun a => at2 g a a == a) _ .no s2 s3 (.inr trivial) fun a ha => ?_
    have i1 := idx_grid h.G ha
    have i2 := idx_row h.G ha ha
    have c := eq_nat (at2 g a a) a
    simp [ev, bnd, ret, getv, slot, rd, opt, t2, i1, i2, c]
  have q2 : ∀ s3, ev V (Iv.run V m) false q_table_identities_2 [.sh (tabD p g), .sh (.int n), .sh (.int (one n : Nat)), s3, .no] = .ok (.fr (.lst ((List.range n).map fun a => D.bl (at2 p a (one n) == one n)))) [.sh (tabD p g), .sh (.int n), .sh (.int (one n : Nat)), s3, .no] := fun s3 => by
    refine comp_id h (fun a => at2 p a (one n) == one n) _ .no (.sh (.int (one n : Nat))) s3 (.inr trivial) fun a ha => ?_
    have i1 := idx_grid h.P ha
    have i2 := idx_row h.P ha o
    have c := eq_nat (at2 p a (one n)) (one n)
    simp [ev, bnd, ret, getv, slot, rd, opt, t1, i1, i2, c]
  have a0 : biD "all" [.lst ((List.range n).map fun a => D.bl (at2 p a a == a))] = some (.val (.bl (idem n p))) := bi_all _ _
  have a1 : biD "all" [.lst ((List.range n).map fun a => D.bl (at2 g a a == a))] = some (.val (.bl (idem n g))) := bi_all _ _
  have a2 : biD "all" [.lst ((List.range n).map fun a => D.bl (at2 p a (one n) == one n))] = some (.val (.bl (abso n p))) := bi_all _ _
  have tu : ∀ l, biD "tuple" [.lst l] = some (.val (.tup l)) := fun l => rfl
  have ap : ∀ (l : List D) d, l.length ≤ 5 → mthD "append" (.lst l) [d] = some (some (.lst (l ++ [d])), .val .non) := fun l d hl => by
    show guardO (decide (l.length < sizeLine)) _ = _
    have : decide (l.length < sizeLine) = true := decide_eq_true (by unfold sizeLine; omega)
    rw [this]; rfl
  have mk : ∀ l : List D, mkind "append" (.lst l) = true := fun l => rfl
  have kp : keeps "append" = true := rfl
  have ap0 := ap [] wSum (by decide)
  have ap1 := ap [] wSq (by decide)
  have ap2 := ap [] wAb (by decide)
  have ap3 := ap [wSum] wSq (by decide)
  have ap4 := ap [wSum] wAb (by decide)
  have ap5 := ap [wSq] wAb (by decide)
  have ap6 := ap [wSum, wSq] wAb (by decide)
  rw [run_eq (fn := f_table_identities) rfl rfl]
  cases b0 : idem n p <;> cases b1 : idem n g <;> cases b2 : abso n p <;> rw [b0] at a0 <;> rw [b1] at a1 <;> rw [b2] at a2 <;>
    simp [f_table_identities, b_table_identities, words, exs, ex, ev, evA, evS, bnd, ret, grd, getv, slot, rd, rdL, opt, truthD, tst, coldBi, t1, e3, mo, binD, q0, q1, q2, a0, a1, a2, tu, ap0, ap1, ap2, ap3, ap4, ap5, ap6, mk, kp, mput, stv, asgT, asgV, putF, putSl, isVarT, fixS_no, retA, finish, maskO, isOw, sizeLine]
end
end K05

set_option linter.all false
set_option maxRecDepth 100000
set_option autoImplicit false
set_option Elab.async false
set_option maxHeartbeats 1000000
namespace K05
open Iv
/-- x + x = x holds -/
def sumd : SR → Bool
  | .truth => true
  | .level _ => true
  | .table n p _ => idem n p
  | .cost => true
  | .count => false
def listed : SR → Prop
  | .truth => True
  | .level _ => True
  | .table _ _ _ => True
  | _ => False
theorem ident_ok {m : Nat} {s : SR} (h : s.ok) (hl : listed s) : ∃ ws, Iv.run V (m + 7) "identities" [.sh s.d] = .ok (.val (.tup ws)) [.sh s.d] ∧ cmpD .In wSum (.tup ws) = some (sumd s) := by
  have k1 := check_s (m := m) h
  have gl : V.glob "ALL_IDENTITIES" = some (.tup [wSum, wSq, wAb]) := rfl
  have c0 : cmpD .In wSum (.tup [wSum, wSq, wAb]) = some true := by decide
  cases s with
  | count => exact hl.elim
  | cost => exact hl.elim
  | truth =>
    have k2 : Iv.run V (m + 6) "identities_in" [.sh SR.truth.d] = .ok (.val (.tup [wSum, wSq, wAb])) [.sh SR.truth.d] := rfl
    refine ⟨_, ?_, c0⟩
    rw [run_eq (fn := f_identities) rfl rfl]
    simp [f_identities, b_identities, exs, ex, ev, evA, evS, evO, evTs, bnd, ret, grd, getv, slot, rd, rdL, opt, truthD, tst, biD, coldBi, callM, slsOf, slOf, refs, nodupN, pickL, idxD, ixN, inD, memD, putOuts, owAt, cmpD, ltD, leD, D.cmpable, D.pln, D.plnL, D.dep, D.depL, D.pe, D.peL, D.isNon, guardO, isiD, tyNames, binD, asgT, asgTs, seqOf, asgV, putF, putSl, stv, isVarT, fixS_sh, fixS_no, fixS_ow, retA, finish, maskO, isOw, sizeLine, fail, k1, k2]
  | level t =>
    have k2 : Iv.run V (m + 6) "identities_in" [.sh (SR.level t).d] = .ok (.val (.tup [wSum, wSq, wAb])) [.sh (SR.level t).d] := rfl
    refine ⟨_, ?_, c0⟩
    rw [run_eq (fn := f_identities) rfl rfl]
    simp [f_identities, b_identities, exs, ex, ev, evA, evS, evO, evTs, bnd, ret, grd, getv, slot, rd, rdL, opt, truthD, tst, biD, coldBi, callM, slsOf, slOf, refs, nodupN, pickL, idxD, ixN, inD, memD, putOuts, owAt, cmpD, ltD, leD, D.cmpable, D.pln, D.plnL, D.dep, D.depL, D.pe, D.peL, D.isNon, guardO, isiD, tyNames, binD, asgT, asgTs, seqOf, asgV, putF, putSl, stv, isVarT, fixS_sh, fixS_no, fixS_ow, retA, finish, maskO, isOw, sizeLine, fail, k1, k2]
  | table n p g =>
    have k3 := table_id_ok (m := m + 4) h
    have k2 : Iv.run V (m + 6) "identities_in" [.sh (SR.table n p g).d] = .ok (.val (.tup (words (idem n p) (idem n g) (abso n p)))) [.sh (SR.table n p g).d] := by
      rw [run_eq (fn := f_identities_in) rfl rfl]
      simp [f_identities_in, b_identities_in, exs, ex, ev, evA, evS, evO, evTs, bnd, ret, grd, getv, slot, rd, rdL, opt, truthD, tst, coldBi, callM, slsOf, slOf, refs, nodupN, pickL, inD, memD, owAt, cmpD, ltD, leD, D.cmpable, D.pln, D.plnL, D.dep, D.depL, D.pe, D.peL, D.isNon, guardO, binD, asgT, asgTs, seqOf, asgV, putF, putSl, stv, isVarT, fixS_sh, fixS_no, fixS_ow, retA, finish, maskO, isOw, fail, putOuts, SR.d, t0, k3]
    refine ⟨words (idem n p) (idem n g) (abso n p), ?_, ?_⟩
    · rw [run_eq (fn := f_identities) rfl rfl]
      simp [f_identities, b_identities, exs, ex, ev, evA, evS, evO, evTs, bnd, ret, grd, getv, slot, rd, rdL, opt, truthD, tst, biD, coldBi, callM, slsOf, slOf, refs, nodupN, pickL, idxD, ixN, inD, memD, putOuts, owAt, cmpD, ltD, leD, D.cmpable, D.pln, D.plnL, D.dep, D.depL, D.pe, D.peL, D.isNon, guardO, isiD, tyNames, binD, asgT, asgTs, seqOf, asgV, putF, putSl, stv, isVarT, fixS_sh, fixS_no, fixS_ow, retA, finish, maskO, isOw, sizeLine, fail, k1, k2]
    · show _ = some (idem n p)
      cases idem n p <;> cases idem n g <;> cases abso n p <;> decide
theorem summed_ok {s : SR} {a b : D} (h : s.ok) (hs : sumd s = true) (wa : Wt s a) (wb : Wt s b) (hl : listed s) : mostR s a b = D.pe (addR s a b) b := by
  cases wa with
  | truth x => cases wb with
    | truth y => cases x <;> cases y <;> rfl
  | count x _ _ => exact hl.elim
  | cost x _ _ => exact hl.elim
  | costN => exact hl.elim
  | level t x _ _ => cases wb with
    | level _ y _ _ =>
      show decide (x ≤ y) = ((if y > x then y else x) == y)
      by_cases c : x ≤ y
      · rw [decide_eq_true c]
        split
        · simp
        · have : x = y := by omega
          subst this; simp
      · rw [decide_eq_false c, if_neg (by omega)]
        exact (beq_eq_false_iff_ne.mpr (by omega)).symm
  | table n p g x hx => cases wb with
    | table _ _ _ y hy =>
      have hi : ∀ a, a < n → at2 p a a = a := fun a ha => by
        have := List.all_eq_true.mp (show idem n p = true from hs) a (List.mem_range.mpr ha)
        simpa using this
      show ((List.range n).any fun c => at2 p (x : Int).toNat c == (y : Int).toNat) = (((at2 p (x : Int).toNat (y : Int).toNat : Nat) : Int) == (y : Int))
      rw [Int.toNat_natCast, Int.toNat_natCast]
      rw [Bool.eq_iff_iff, beq_iff_eq]
      constructor
      · intro q
        obtain ⟨u, hu, e⟩ := tab_ex q
        have : at2 p x y = y := by rw [← e, ← h.pg x x u hx hx hu, hi x hx]
        rw [this]
      · intro q
        exact tab_of (c := y) hy (by omega)
theorem any_app (f : D → Bool) (l : List D) (d : D) : (l ++ [d]).any f = (l.any f || f d) := by
  rw [List.any_append]; simp
section
variable {m : Nat} {s : SR} {row : List D}
theorem sums_c (h : s.ok) (hr : ∀ d ∈ row, Wt s d) {a b : D} (wa : Wt s a) (wb : Wt s b) (s2 s5 s7 : Sl) (f7 : fixS s7 = false) :
    ∃ s7', ex V (Iv.run V (m + 8)) [false, true] false l_law_by_sums_0 [.sh s.d, .lk (.lst row), s2, .sh a, .sh b, s5, .sh (.bl false), s7] = .ok .nx [.sh s.d, .lk (.lst row), s2, .sh a, .sh b, s5, .sh (.bl (row.any fun c => D.pe (addR s a c) b)), s7'] ∧ fixS s7' = false := by
  obtain ⟨ρ', e, s7', rfl, g7⟩ := forL_pre (asg := fun d => asgT [false, true] (.var 7) (.val d)) (body := exs V (Iv.run V (m + 8)) [false, true] false w_law_by_sums_0)
    (fun pre ρ => ∃ s7, ρ = [.sh s.d, .lk (.lst row), s2, .sh a, .sh b, s5, .sh (.bl (pre.any fun c => D.pe (addR s a c) b)), s7] ∧ fixS s7 = false) row.length row [] (by simp) (fun c hc pre ρ _ ⟨s7, e, f7⟩ => by
      subst e
      have wc := hr c hc
      have p1 := plus_ok (m := m) h wa wc
      have c1 := flat_eq (addR_flat s wa wc) (wt_flat wb)
      refine ⟨[.sh s.d, .lk (.lst row), s2, .sh a, .sh b, s5, .sh (.bl (pre.any fun c => D.pe (addR s a c) b)), .sh c], [.sh s.d, .lk (.lst row), s2, .sh a, .sh b, s5, .sh (.bl ((pre ++ [c]).any fun c => D.pe (addR s a c) b)), .sh c], by simp [asgT, asgV, grd, bnd, putF, putSl, slot, f7], ?_, _, rfl, rfl⟩
      rw [any_app]
      cases hp : D.pe (addR s a c) b with
      | true =>
        rw [hp] at c1
        simp [w_law_by_sums_0, exs, ex, ev, evA, bnd, ret, grd, getv, slot, rd, opt, truthD, tst, callM, slsOf, slOf, refs, nodupN, putOuts, p1, c1, asgT, asgV, putF, putSl, isVarT, fixS_sh]
      | false =>
        rw [hp] at c1
        simp [w_law_by_sums_0, exs, ex, ev, evA, bnd, ret, grd, getv, slot, rd, opt, truthD, tst, callM, slsOf, slOf, refs, nodupN, putOuts, p1, c1])
    [.sh s.d, .lk (.lst row), s2, .sh a, .sh b, s5, .sh (.bl false), s7] ⟨_, rfl, f7⟩
  exact ⟨s7', ex_for_lk rfl (by simpa using e), g7⟩
theorem sums_b (h : s.ok) (hls : listed s) (hl : listR s = some row) {a : D} (wa : Wt s a) (s4 s5 s6 s7 : Sl) (f4 : fixS s4 = false) (f5 : fixS s5 = false) (f6 : fixS s6 = false) (f7 : fixS s7 = false) :
    ∃ s4' s5' s6' s7', ex V (Iv.run V (m + 8)) [false, true] false l_law_by_sums_1 [.sh s.d, .lk (.lst row), .sh (.bl (sumd s)), .sh a, s4, s5, s6, s7] = .ok .nx [.sh s.d, .lk (.lst row), .sh (.bl (sumd s)), .sh a, s4', s5', s6', s7'] ∧ fixS s4' = false ∧ fixS s5' = false ∧ fixS s6' = false ∧ fixS s7' = false := by
  have hr : ∀ d ∈ row, Wt s d := fun d hd => list_wt hl hd
  obtain ⟨ρ', e, s4', s5', s6', s7', rfl, g4, g5, g6, g7⟩ := forL_all (asg := fun d => asgT [false, true] (.var 4) (.val d)) (body := exs V (Iv.run V (m + 8)) [false, true] false w_law_by_sums_1)
    (fun ρ => ∃ s4 s5 s6 s7, ρ = [.sh s.d, .lk (.lst row), .sh (.bl (sumd s)), .sh a, s4, s5, s6, s7] ∧ fixS s4 = false ∧ fixS s5 = false ∧ fixS s6 = false ∧ fixS s7 = false) row (fun b hb ρ ⟨s4, s5, s6, s7, e, f4, f5, f6, f7⟩ => by
      subst e
      have wb := hr b hb
      have k1 := at_most_ok (m := m) h wa wb
      obtain ⟨s7', e, g7⟩ := sums_c (m := m) h hr wa wb (.sh (.bl (sumd s))) (.sh (.bl (mostR s a b))) s7 f7
      rw [most_any hl wa wb] at e
      have p1 := plus_ok (m := m) h wa wb
      have c1 := flat_eq (addR_flat s wa wb) (wt_flat wb)
      have c2 : ∀ x : Bool, cmpD .NotEq (.bl x) (.bl x) = some false := fun x => by cases x <;> rfl
      have c3 := c2 (mostR s a b)
      refine ⟨[.sh s.d, .lk (.lst row), .sh (.bl (sumd s)), .sh a, .sh b, s5, s6, s7], [.sh s.d, .lk (.lst row), .sh (.bl (sumd s)), .sh a, .sh b, .sh (.bl (mostR s a b)), .sh (.bl (mostR s a b)), s7'], by simp [asgT, asgV, grd, bnd, putF, putSl, slot, f4], ?_, _, _, _, _, rfl, rfl, rfl, rfl, g7⟩
      cases hs : sumd s with
      | false =>
        rw [hs] at e
        simp [w_law_by_sums_1, exs, e, ex, ev, evA, bnd, ret, grd, getv, slot, rd, opt, truthD, tst, callM, slsOf, slOf, refs, nodupN, putOuts, k1, c3, asgT, asgV, putF, putSl, isVarT, f5, f6]
      | true =>
        rw [hs] at e
        rw [← summed_ok h hs wa wb hls] at c1
        simp [w_law_by_sums_1, exs, e, ex, ev, evA, bnd, ret, grd, getv, slot, rd, opt, truthD, tst, callM, slsOf, slOf, refs, nodupN, putOuts, k1, p1, c1, c3, asgT, asgV, putF, putSl, isVarT, f5, f6])
    [.sh s.d, .lk (.lst row), .sh (.bl (sumd s)), .sh a, s4, s5, s6, s7] ⟨_, _, _, _, rfl, f4, f5, f6, f7⟩
  exact ⟨s4', s5', s6', s7', ex_for_lk rfl e, g4, g5, g6, g7⟩
theorem sums_ok (h : s.ok) (hls : listed s) (hl : listR s = some row) : Iv.run V (m + 9) "_law_by_sums" [.sh s.d, .ow (.lst row)] = .ok (.val (.bl true)) [.sh s.d, .ow (.lst row)] := by
  obtain ⟨ws, ki, kin⟩ := ident_ok (m := m + 1) h hls
  obtain ⟨ρ', e, s3, s4, s5, s6, s7, rfl, g3, g4, g5, g6, g7⟩ := forL_all (asg := fun d => asgT [false, true] (.var 3) (.val d)) (body := exs V (Iv.run V (m + 8)) [false, true] false w_law_by_sums_2)
    (fun ρ => ∃ s3 s4 s5 s6 s7, ρ = [.sh s.d, .lk (.lst row), .sh (.bl (sumd s)), s3, s4, s5, s6, s7] ∧ fixS s3 = false ∧ fixS s4 = false ∧ fixS s5 = false ∧ fixS s6 = false ∧ fixS s7 = false) row (fun a ha ρ ⟨s3, s4, s5, s6, s7, e, f3, f4, f5, f6, f7⟩ => by
      subst e
      obtain ⟨s4', s5', s6', s7', e, g4, g5, g6, g7⟩ := sums_b (m := m) h hls hl (list_wt hl ha) s4 s5 s6 s7 f4 f5 f6 f7
      exact ⟨[.sh s.d, .lk (.lst row), .sh (.bl (sumd s)), .sh a, s4, s5, s6, s7], [.sh s.d, .lk (.lst row), .sh (.bl (sumd s)), .sh a, s4', s5', s6', s7'], by simp [asgT, asgV, grd, bnd, putF, putSl, slot, f3], by simp [w_law_by_sums_2, exs, bnd, e, ret], _, _, _, _, _, rfl, rfl, g4, g5, g6, g7⟩)
    [.sh s.d, .lk (.lst row), .sh (.bl (sumd s)), .no, .no, .no, .no, .no] ⟨_, _, _, _, _, rfl, rfl, rfl, rfl, rfl, rfl⟩
  have ef : ex V (Iv.run V (m + 8)) [false, true] false l_law_by_sums_2 [.sh s.d, .ow (.lst row), .sh (.bl (sumd s)), .no, .no, .no, .no, .no] = .ok .nx [.sh s.d, .ow (.lst row), .sh (.bl (sumd s)), s3, s4, s5, s6, s7] := by
    have := ex_for_ow (V := V) (Φ := Iv.run V (m + 8)) (pn := [false, true]) (t := .var 3) (b := w_law_by_sums_2) (j := 1) (l := row) (ρ := [.sh s.d, .ow (.lst row), .sh (.bl (sumd s)), .no, .no, .no, .no, .no]) rfl e
    exact this
  rw [run_eq (fn := f_law_by_sums) rfl rfl]
  simp [f_law_by_sums, b_law_by_sums, exs, ef, ex, ev, evA, bnd, ret, grd, getv, slot, rd, rdL, opt, truthD, tst, callM, slsOf, slOf, refs, nodupN, putOuts, ki, kin, asgT, asgV, putF, putSl, isVarT, fixS_no, retA, finish, maskO, isOw]
end
end K05

set_option linter.all false
set_option maxRecDepth 100000
set_option autoImplicit false
set_option Elab.async false
set_option maxHeartbeats 4000000
namespace K05
open Iv
theorem list_sm {s : SR} {l : List D} (h : s.ok) (hl : listR s = some l) {d : D} (hd : d ∈ l) : Sm d := by
  have int : ∀ k : Nat, k < 100 → Sm (.int k) := fun k hk => by show ((k : Nat) : Int) < sml; unfold sml; omega
  cases s with
  | count => cases hl
  | cost => cases hl
  | truth =>
    cases hl
    rcases List.mem_cons.mp hd with rfl | hd
    · trivial
    · rcases List.mem_cons.mp hd with rfl | hd
      · trivial
      · cases hd
  | level t =>
    cases hl
    obtain ⟨k, hk, rfl⟩ := mem_rng hd
    exact int k (by have := h.2; omega)
  | table n p g =>
    cases hl
    obtain ⟨k, hk, rfl⟩ := mem_rng hd
    exact int k (by have := h.n6; omega)
theorem cut_mem {l : List D} {lo hi : Option Int} {d : D} (h : d ∈ cutL l lo hi) : d ∈ l := List.mem_of_mem_drop (List.mem_of_mem_take h)
theorem cut_len {l : List D} {lo hi : Option Int} : (cutL l lo hi).length ≤ l.length := by
  unfold cutL
  simp only [List.length_take, List.length_drop]
  omega
def cutR (l : List D) (st : Int) : List D := cutL (cutL l (some st) none ++ cutL l none (some st)) none (some 3)
theorem cut_row {s : SR} {l : List D} (h : s.ok) (hl : listR s = some l) (h7 : l.length ≤ 7) (st : Int) : Row s (cutR l st) := by
  have mem : ∀ d ∈ cutR l st, d ∈ l := fun d hd => by
    rcases List.mem_append.mp (cut_mem hd) with q | q
    · exact cut_mem q
    · exact cut_mem q
  refine ⟨fun d hd => list_wt hl (mem d hd), fun d hd => list_sm h hl (mem d hd), ?_⟩
  have e1 := cut_len (l := cutL l (some st) none ++ cutL l none (some st)) (lo := none) (hi := some 3)
  have e2 := cut_len (l := l) (lo := some st) (hi := none)
  have e3 := cut_len (l := l) (lo := none) (hi := some st)
  rw [List.length_append] at e1
  unfold cutR
  omega
theorem pick_ok (ns : List Int) (k : Nat) (hk : k ≤ 12) (hl : ns.length ≤ 63) (hb : ∀ z ∈ ns, z.natAbs.log2 ≤ 1048576) (s2 s3 s4 s5 s6 : Sl) (f2 : fixS s2 = false) (f3 : fixS s3 = false) :
    ∃ s a b c l, s.ok ∧ listed s ∧ listR s = some l ∧ 1 ≤ l.length ∧ l.length ≤ 7 ∧ PoolOk 40 a b c ∧
      exs V (Iv.run V 11) [false] false (w_law_0.take 3) [.sh (.lst (ns.map D.int)), .sh (.int k), s2, s3, s4, s5, s6, .no] = .ok .nx [.sh (.lst (ns.map D.int)), .sh (.int k), .ow (poolD a b c), .sh s.d, s4, s5, s6, .no] := by
  obtain ⟨a, b, e0, P⟩ := pool_ok (V := V) rfl (n := 10) ns k hk hl hb
  have e0 : Iv.run V 11 "_law_pool" [.sh (.lst (ns.map D.int)), .sh (.int k)] = .ok (.fr (poolD a b k)) [.sh (.lst (ns.map D.int)), .sh (.int k)] := e0
  obtain ⟨x, a1, b1, c1, e1, hx, P1⟩ := pullN (n := 10) (L := 6) P (by decide) (by decide) (by decide)
  have e1 : Iv.run V 11 "_law_pull" [.ow (poolD a b k), .sh (.int 6)] = .ok (.val (.int x)) [.ow (poolD a1 b1 c1), .sh (.int 6)] := e1
  obtain ⟨q, a2, b2, c2, e2, hq, P2⟩ := pullN (n := 10) (L := 2) P1 (by decide) (by decide) (by decide)
  have e2 : Iv.run V 11 "_law_pull" [.ow (poolD a1 b1 c1), .sh (.int 2)] = .ok (.val (.int q)) [.ow (poolD a2 b2 c2), .sh (.int 2)] := e2
  obtain ⟨y, a3, b3, c3, e3, hy, P3⟩ := pullN (n := 10) (L := 4) P2 (by decide) (by decide) (by decide)
  have e3 : Iv.run V 11 "_law_pull" [.ow (poolD a2 b2 c2), .sh (.int 4)] = .ok (.val (.int y)) [.ow (poolD a3 b3 c3), .sh (.int 4)] := e3
  have d0 : w_law_0.take 3 = [w_law_0[0], w_law_0[1], w_law_0[2]] := rfl
  have q01 : q = 0 ∨ q = 1 := by omega
  by_cases hy0 : 0 < y
  · have ly : (0 : Int) < (y : Int) := by omega
    obtain ⟨w, n, t, a4, b4, c4, C, hn, P4, e4⟩ := table_ok (m := 9) P3 (by decide)
    have e4 : Iv.run V 11 "_law_table" [.ow (poolD a3 b3 c3)] = .ok (.val (tabD (gridP w n t) (gridG w n t))) [.ow (poolD a4 b4 c4)] := e4
    have hn1 := C.T.n1
    refine ⟨.table n (gridP w n t) (gridG w n t), a4, b4, c4, _, C.T, trivial, rfl, by simp [rngD]; omega, by simp [rngD]; omega, PoolOk.mono P4 (by decide), ?_⟩
    rw [d0]
    rcases q01 with rfl | rfl <;> simp [w_law_0, exs, ex, ev, evA, evS, evO, evTs, bnd, ret, grd, getv, slot, rd, rdL, opt, truthD, tst, biD, coldBi, callM, slsOf, slOf, refs, nodupN, pickL, idxD, ixN, inD, memD, putOuts, owAt, cmpD, ltD, leD, D.cmpable, D.pln, D.plnL, D.dep, D.depL, D.pe, D.peL, D.isNon, guardO, isiD, tyNames, binD, asgT, asgTs, seqOf, asgV, putF, putSl, stv, isVarT, fixS_sh, fixS_no, fixS_ow, retA, finish, maskO, isOw, sizeLine, fail, SR.d, e0, e1, e2, e3, e4, ly, hy0, f2, f3]
  · have ly : ¬ (0 : Int) < (y : Int) := by omega
    rcases q01 with rfl | rfl
    · refine ⟨.truth, a3, b3, c3, _, trivial, trivial, rfl, by decide, by decide, PoolOk.mono P3 (by decide), ?_⟩
      rw [d0]
      simp [w_law_0, exs, ex, ev, evA, evS, evO, evTs, bnd, ret, grd, getv, slot, rd, rdL, opt, truthD, tst, biD, coldBi, callM, slsOf, slOf, refs, nodupN, pickL, idxD, ixN, inD, memD, putOuts, owAt, cmpD, ltD, leD, D.cmpable, D.pln, D.plnL, D.dep, D.depL, D.pe, D.peL, D.isNon, guardO, isiD, tyNames, binD, asgT, asgTs, seqOf, asgV, putF, putSl, stv, isVarT, fixS_sh, fixS_no, fixS_ow, retA, finish, maskO, isOw, sizeLine, fail, SR.d, e0, e1, e2, e3, ly, hy0, f2, f3]
    · refine ⟨.level (1 + x), a3, b3, c3, _, ⟨by omega, by omega⟩, trivial, rfl, by simp [rngD], by simp [rngD]; omega, PoolOk.mono P3 (by decide), ?_⟩
      rw [d0]
      simp [w_law_0, exs, ex, ev, evA, evS, evO, evTs, bnd, ret, grd, getv, slot, rd, rdL, opt, truthD, tst, biD, coldBi, callM, slsOf, slOf, refs, nodupN, pickL, idxD, ixN, inD, memD, putOuts, owAt, cmpD, ltD, leD, D.cmpable, D.pln, D.plnL, D.dep, D.depL, D.pe, D.peL, D.isNon, guardO, isiD, tyNames, binD, asgT, asgTs, seqOf, asgV, putF, putSl, stv, isVarT, fixS_sh, fixS_no, fixS_ow, retA, finish, maskO, isOw, sizeLine, fail, SR.d, e0, e1, e2, e3, ly, hy0, f2, f3]
theorem rest4_ok (sc : D) (k : Nat) {s : SR} {a b c : Int} {l : List D} (h : s.ok) (hls : listed s) (hl : listR s = some l) (l1 : 1 ≤ l.length) (l7 : l.length ≤ 7) (P : PoolOk 40 a b c) (s4 s5 s6 : Sl) (f4 : fixS s4 = false) (f5 : fixS s5 = false) (f6 : fixS s6 = false) :
    ∃ t2 t4 t5 t6, exs V (Iv.run V 11) [false] false (w_law_0.drop 3) [.sh sc, .sh (.int k), .ow (poolD a b c), .sh s.d, s4, s5, s6, .no] = .ok .nx [.sh sc, .sh (.int k), t2, .sh s.d, t4, t5, t6, .no] ∧ fixS t2 = false ∧ fixS t4 = false ∧ fixS t5 = false ∧ fixS t6 = false := by
  obtain ⟨st, a1, b1, c1, e1, hst, P1⟩ := pullN (n := 10) (L := l.length) P (by decide) l1 (by omega)
  obtain ⟨q, a2, b2, c2, e2, hq, P2⟩ := pullN (n := 10) (L := 2) P1 (by decide) (by decide) (by decide)
  have e2 : Iv.run V 11 "_law_pull" [.ow (poolD a1 b1 c1), .sh (.int 2)] = .ok (.val (.int q)) [.ow (poolD a2 b2 c2), .sh (.int 2)] := e2
  have g1 : Iv.run V 11 "all_weights" [.sh s.d] = .ok (.val (.tup l)) [.sh s.d] := all_ok (m := 4) h hl
  have g2 : Iv.run V 11 "_law_order" [.sh s.d, .ow (.lst (cutR l st))] = .ok (.val (.bl true)) [.sh s.d, .ow (.lst (cutR l st))] := order_ok (m := 1) h (cut_row h hl l7 st)
  have g3 : Iv.run V 11 "_law_by_sums" [.sh s.d, .ow (.lst l)] = .ok (.val (.bl true)) [.sh s.d, .ow (.lst l)] := sums_ok (m := 2) h hls hl
  have n1 : cmpD .Gt (.int (l.length : Int)) (.int 7) = some false := by
    show some (decide ((7 : Int) < (l.length : Int))) = _
    rw [decide_eq_false (by omega)]
  have n2 : cmpD .Lt (.int (l.length : Int)) (.int 1) = some false := by
    show some (decide ((l.length : Int) < (1 : Int))) = _
    rw [decide_eq_false (by omega)]
  have b1' : biD "list" [.tup l] = some (.fr (.lst l)) := rfl
  have b2' : biD "len" [.lst l] = some (.val (.int (l.length : Int))) := rfl
  have sl1 : slcD (.lst l) (some (st : Int)) none = some (.fr (.lst (cutL l (some (st : Int)) none))) := rfl
  have sl2 : slcD (.lst l) none (some (st : Int)) = some (.fr (.lst (cutL l none (some (st : Int))))) := rfl
  have sl3 : slcD (.lst (cutL l (some (st : Int)) none ++ cutL l none (some (st : Int)))) none (some 3) = some (.fr (.lst (cutR l st))) := rfl
  have ad : binD .Add (.lst (cutL l (some (st : Int)) none)) (.lst (cutL l none (some (st : Int)))) = some (.fr (.lst (cutL l (some (st : Int)) none ++ cutL l none (some (st : Int))))) := by
    have e2 := cut_len (l := l) (lo := some (st : Int)) (hi := none)
    have e3 := cut_len (l := l) (lo := none) (hi := some (st : Int))
    show guardO (decide ((cutL l (some (st : Int)) none).length + (cutL l none (some (st : Int))).length ≤ sizeLine)) _ = _
    have : decide ((cutL l (some (st : Int)) none).length + (cutL l none (some (st : Int))).length ≤ sizeLine) = true := decide_eq_true (by unfold sizeLine; omega)
    rw [this]; rfl
  have plain : ∀ pl : SR, pl.ok → (pl = .cost ∨ pl = .count) → ∃ (w0 w1 w2 w3 : D) (a6 b6 c6 : Int), Row pl [w0, w1, w2, w3] ∧ ev V (Iv.run V 11) false q_law_0 [.sh sc, .sh (.int k), .ow (poolD a2 b2 c2), .sh s.d, .ow (.lst l), .sh (.int st), .sh pl.d, .no] = .ok (.fr (.lst [w0, w1, w2, w3])) [.sh sc, .sh (.int k), .ow (poolD a6 b6 c6), .sh s.d, .ow (.lst l), .sh (.int st), .sh pl.d, .no] := fun pl hp hc => by
    obtain ⟨w0, a3, b3, c3, v0, m0, P3, k0⟩ := weight_ok (m := 8) hp P2 (by decide)
    obtain ⟨w1, a4, b4, c4, v1, m1, P4, k1⟩ := weight_ok (m := 8) hp P3 (by decide)
    obtain ⟨w2, a5, b5, c5, v2, m2, P5, k2⟩ := weight_ok (m := 8) hp P4 (by decide)
    obtain ⟨w3, a6, b6, c6, v3, m3, P6, k3⟩ := weight_ok (m := 8) hp P5 (by decide)
    have k0 : Iv.run V 11 "_law_weight" [.ow (poolD a2 b2 c2), .sh pl.d] = .ok (.val w0) [.ow (poolD a3 b3 c3), .sh pl.d] := k0
    have k1 : Iv.run V 11 "_law_weight" [.ow (poolD a3 b3 c3), .sh pl.d] = .ok (.val w1) [.ow (poolD a4 b4 c4), .sh pl.d] := k1
    have k2 : Iv.run V 11 "_law_weight" [.ow (poolD a4 b4 c4), .sh pl.d] = .ok (.val w2) [.ow (poolD a5 b5 c5), .sh pl.d] := k2
    have k3 : Iv.run V 11 "_law_weight" [.ow (poolD a5 b5 c5), .sh pl.d] = .ok (.val w3) [.ow (poolD a6 b6 c6), .sh pl.d] := k3
    refine ⟨w0, w1, w2, w3, a6, b6, c6, ⟨fun d hd => ?_, fun d hd => ?_, by simp⟩, ?_⟩
    · simp only [List.mem_cons, List.not_mem_nil, or_false] at hd
      rcases hd with rfl | rfl | rfl | rfl <;> assumption
    · simp only [List.mem_cons, List.not_mem_nil, or_false] at hd
      rcases hd with rfl | rfl | rfl | rfl <;> assumption
    · have it : itemsOf "range" [.int 4] = some [.int 0, .int 1, .int 2, .int 3] := by rfl
      have pn : pnOf [7] 8 = [true, true, true, true, true, true, true, false] := by decide
      simp [q_law_0, ev, evA, evTs, bnd, ret, grd, getv, slot, rd, rdL, opt, lenIs, refs, it, locked, toLock, mapAt, within, wipeR, backR, compL, pn, asgT, asgV, putF, putSl, fixS_no, fixS_sh, callM, slsOf, slOf, nodupN, putOuts, owAt, k0, k1, k2, k3, stv, sizeLine, Out.mapR]
  have d0 : w_law_0.drop 3 = [w_law_0[3], w_law_0[4], w_law_0[5], w_law_0[6], w_law_0[7], w_law_0[8]] := rfl
  have q01 : q = 0 ∨ q = 1 := by omega
  rcases q01 with rfl | rfl
  · obtain ⟨w0, w1, w2, w3, a6, b6, c6, R, k6⟩ := plain .cost trivial (.inl rfl)
    have g4 : Iv.run V 11 "_law_order" [.sh SR.cost.d, .ow (.lst [w0, w1, w2, w3])] = .ok (.val (.bl true)) [.sh SR.cost.d, .ow (.lst [w0, w1, w2, w3])] := order_ok (m := 1) trivial R
    have dc : SR.cost.d = .tup [.str [99, 111, 115, 116]] := rfl
    rw [dc] at k6 g4
    refine ⟨.ow (poolD a6 b6 c6), .ow (.lst l), .sh (.int st), .sh SR.cost.d, ?_, rfl, rfl, rfl, rfl⟩
    rw [d0]
    simp [w_law_0, exs, ex, ev, evA, evO, evS, bnd, ret, grd, getv, slot, rd, rdL, opt, truthD, tst, coldBi, callM, slsOf, slOf, refs, nodupN, putOuts, owAt, stv, e1, e2, g1, g2, g3, g4, k6, n1, n2, b1', b2', sl1, sl2, sl3, ad, idxD, ixN, sizeLine, asgT, asgV, putF, putSl, isVarT, f4, f5, f6, dc]
  · obtain ⟨w0, w1, w2, w3, a6, b6, c6, R, k6⟩ := plain .count trivial (.inr rfl)
    have g4 : Iv.run V 11 "_law_order" [.sh SR.count.d, .ow (.lst [w0, w1, w2, w3])] = .ok (.val (.bl true)) [.sh SR.count.d, .ow (.lst [w0, w1, w2, w3])] := order_ok (m := 1) trivial R
    have dc : SR.count.d = .tup [.str [99, 111, 117, 110, 116]] := rfl
    rw [dc] at k6 g4
    refine ⟨.ow (poolD a6 b6 c6), .ow (.lst l), .sh (.int st), .sh SR.count.d, ?_, rfl, rfl, rfl, rfl⟩
    rw [d0]
    simp [w_law_0, exs, ex, ev, evA, evO, evS, bnd, ret, grd, getv, slot, rd, rdL, opt, truthD, tst, coldBi, callM, slsOf, slOf, refs, nodupN, putOuts, owAt, stv, e1, e2, g1, g2, g3, g4, k6, n1, n2, b1', b2', sl1, sl2, sl3, ad, idxD, ixN, sizeLine, asgT, asgV, putF, putSl, isVarT, f4, f5, f6, dc]
end K05

set_option linter.all false
set_option maxRecDepth 100000
set_option autoImplicit false
set_option Elab.async false
set_option maxHeartbeats 4000000
namespace K05
open Iv
theorem turn_all (ns : List Int) (k : Nat) (hk : k ≤ 12) (hl : ns.length ≤ 63) (hb : ∀ z ∈ ns, z.natAbs.log2 ≤ 1048576) (s2 s3 s4 s5 s6 : Sl) (f2 : fixS s2 = false) (f3 : fixS s3 = false) (f4 : fixS s4 = false) (f5 : fixS s5 = false) (f6 : fixS s6 = false) :
    ∃ t2 t3 t4 t5 t6, exs V (Iv.run V 11) [false] false w_law_0 [.sh (.lst (ns.map D.int)), .sh (.int k), s2, s3, s4, s5, s6, .no] = .ok .nx [.sh (.lst (ns.map D.int)), .sh (.int k), t2, t3, t4, t5, t6, .no] ∧
      fixS t2 = false ∧ fixS t3 = false ∧ fixS t4 = false ∧ fixS t5 = false ∧ fixS t6 = false := by
  obtain ⟨s, a, b, c, l, h, hls, hL, l1, l7, P, e1⟩ := pick_ok ns k hk hl hb s2 s3 s4 s5 s6 f2 f3
  obtain ⟨t2, t4, t5, t6, e2, g2, g4, g5, g6⟩ := rest4_ok (.lst (ns.map D.int)) k h hls hL l1 l7 P s4 s5 s6 f4 f5 f6
  refine ⟨t2, .sh s.d, t4, t5, t6, ?_, g2, rfl, g4, g5, g6⟩
  have d0 : w_law_0 = w_law_0.take 3 ++ w_law_0.drop 3 := (List.take_append_drop 3 _).symm
  rw [d0, exs_app _ _ e1]
  exact e2
theorem loop_ok (ns : List Int) (hl : ns.length ≤ 63) (hb : ∀ z ∈ ns, z.natAbs.log2 ≤ 1048576) (n : Nat) (hn : n ≤ 12) :
    ∃ ρ, forL (fun d => asgT [false] (.var 1) (.val d)) (exs V (Iv.run V 11) [false] false w_law_0) (rngL 0 n) [.sh (.lst (ns.map D.int)), .no, .no, .no, .no, .no, .no, .no] = .ok .nx ρ := by
  obtain ⟨ρ', e, _⟩ := forL_cnt (asg := fun d => asgT [false] (.var 1) (.val d)) (body := exs V (Iv.run V 11) [false] false w_law_0) (fun j ρ => ∃ s1 s2 s3 s4 s5 s6, ρ = [.sh (.lst (ns.map D.int)), s1, s2, s3, s4, s5, s6, .no] ∧ fixS s1 = false ∧ fixS s2 = false ∧ fixS s3 = false ∧ fixS s4 = false ∧ fixS s5 = false ∧ fixS s6 = false) 0 n 0 (fun k hk _ ρ ⟨s1, s2, s3, s4, s5, s6, e, f1, f2, f3, f4, f5, f6⟩ => by
    subst e
    obtain ⟨t2, t3, t4, t5, t6, e, h2, h3, h4, h5, h6⟩ := turn_all ns k (by omega) hl hb s2 s3 s4 s5 s6 f2 f3 f4 f5 f6
    refine ⟨_, _, ?_, e, _, _, _, _, _, _, rfl, rfl, h2, h3, h4, h5, h6⟩
    simp [asgT, asgV, grd, bnd, putF, slot, putSl, f1]) [.sh (.lst (ns.map D.int)), .no, .no, .no, .no, .no, .no, .no] ⟨_, _, _, _, _, _, rfl, rfl, rfl, rfl, rfl, rfl, rfl⟩
  exact ⟨ρ', e⟩
theorem pure_law (ns : List Int) (h1 : ns.length ≤ 63) (h2 : ∀ z ∈ ns, PySem.Builtin.Int.intBits z ≤ 1048576) : ∃ outs, Iv.run V 12 "law" [.sh (.lst (ns.map D.int))] = .ok (.val (.bl true)) outs := by
  have hb : ∀ z ∈ ns, z.natAbs.log2 ≤ 1048576 := fun z hz => intBits_log (h2 z hz)
  let M : Int := if (if (4 : Int) < (ns.length : Int) then 4 else (ns.length : Int)) > 1 then (if (4 : Int) < (ns.length : Int) then 4 else (ns.length : Int)) else 1
  have hM : M.toNat ≤ 12 ∧ rngOk M = true := by
    refine ⟨?_, ?_⟩
    · show (if (if (4 : Int) < (ns.length : Int) then 4 else (ns.length : Int)) > 1 then (if (4 : Int) < (ns.length : Int) then 4 else (ns.length : Int)) else 1).toNat ≤ 12
      split <;> (try split) <;> omega
    · show rngOk (if (if (4 : Int) < (ns.length : Int) then 4 else (ns.length : Int)) > 1 then (if (4 : Int) < (ns.length : Int) then 4 else (ns.length : Int)) else 1) = true
      unfold rngOk
      apply decide_eq_true
      split <;> (try split) <;> omega
  obtain ⟨ρ, e⟩ := loop_ok ns h1 hb M.toNat hM.1
  refine ⟨[.sh (.lst (ns.map D.int))], ?_⟩
  rw [run_eq (V := V) (n := 11) (fn := f_law) rfl rfl]
  have eL : ex V (Iv.run V 11) [false] false l_law_0 [.sh (.lst (ns.map D.int)), .no, .no, .no, .no, .no, .no, .no] = .ok .nx ρ := by
    refine ex_for (as := [.val (.int M)]) (ds := [.int M]) (items := rngL 0 M.toNat) ?_ rfl rfl ?_ e
    · simp [evA, ev, bnd, ret, grd, getv, slot, rd, rdL, opt, biD, coldBi, M]
    · show guardO (rngOk M) (rngL 0 M.toNat) = _
      rw [hM.2]; rfl
  have mk : ∀ ρ : Rho, maskO [.sh (.lst (ns.map D.int))] ρ = [.sh (.lst (ns.map D.int))] := fun ρ => by cases ρ <;> rfl
  have hn : f_law.nn - f_law.np = 7 := rfl
  have hbd : f_law.body = b_law := rfl
  rw [hn, hbd]
  show finish _ (exs V (Iv.run V 11) [false] false _ [.sh (.lst (ns.map D.int)), .no, .no, .no, .no, .no, .no, .no]) = _
  simp [b_law, exs, eL, ex, ev, bnd, ret, retA, finish, mk]
end K05

set_option linter.all false
set_option maxRecDepth 100000
set_option autoImplicit false
set_option Elab.async false
set_option maxHeartbeats 0
open Iv
open PySem PySem.W PySem.Calls PyProof.Rows
theorem PySem.Challenge.cw_sourceweights_k05_order_of_weights_holds : PySem.Challenge.rw_sourceweights_k05_order_of_weights.Holds := by
  w_on; o_law
  refine HandSHeadRun.head_any (r := K05.R) (q := view K05.R.prog [K05.lawAt]) (H := hookI 4 K05.S) (ob := K05.ob) (M := 3000) (loose := K05.names) (d := HandSHeadRun.topDef K05.R.prog K05.lawAt) (kwd := []) K05.ob_eq
    (by kernel_rfl) (fun s => by kernel_rfl) K05.run (by kernel_rfl) (by kernel_rfl) (by kernel_rfl) (by rfl) (by first | assumption | decide +kernel) (by decide +kernel) ⟨rfl, rfl, rfl, rfl, rfl, by decide +kernel⟩ ?hw ?hc
  case hw => w_witness2
  case hc =>
    exact law_end (l := PySem.Challenge.rw_sourceweights_k05_order_of_weights) (n := 63) (x := "script") (e := K05.e_law) K05.fit rfl (by decide) (by kernel_rfl) ⟨rfl, by decide, by decide⟩ (by kernel_rfl) rfl rfl K05.pure_law

