import PyProof.Rows.All
import Wide.All
import OpenK.AllK
import Wide.FinOn
import HandS.ForMost
import HandS.ForExc
import HandS.Wide
import HandS.Walk
import HandS.Lambda
import KE.DataCmp
import KE.SortData
import HandS.TupAny
import HandS.Deep
import HandS.Text
import HandS.Flow
import HandS.Star
import HandS.Zip
import KE.GoesZip
import KE.GoesEnum
import KE.GoesMore
import HandS.Comp
import HandS.IsInst
import KE.DataMinMax
import HandS.ExcInit
import HandS.ExcOwn
import HandS.ExcField
import HandS.Small
import HandS.Style
import HandS.WideMore
import HandS.HeadHook1
import HandS.HeadHook2
import HandS.HeadHook4
import HandS.HeadWalk
import HandS.EndTab
import HandS.Defaults
import HandS.Words
import HandS.HeadHook3
import HandS.SetFor
import HandS.TryMany
import HandS.Conv
import PyProof.TableCode
import PySem.Challenge.RW_shortnames_k12_whole_odds
import KE.KStateDown
import HandS.Head0
import HandS.Head1
import HandS.Head2
section
set_option autoImplicit false
namespace DS
/-! DP: values as trees, the plain evaluator's combinators. -/

inductive D where
  | non | bl (b : Bool) | int (i : Int) | str (x : List Nat)
  | tup (xs : List D) | lst (xs : List D) | dct (kvs : List (D × D)) | set (xs : List D)
  | ins (c : Nat) (fs : List (Nat × D)) | lam (k : Nat) | cell (k : Nat)
  deriving Inhabited

mutual
/-- same data (None, bools, ints, texts, tuples, lists) -/
def D.eqv : D → D → Bool
  | .non, .non => true
  | .bl a, .bl b => a == b
  | .bl a, .int b => (if a then 1 else 0) == b
  | .int a, .bl b => a == (if b then 1 else 0)
  | .int a, .int b => a == b
  | .str a, .str b => a == b
  | .tup a, .tup b => D.eqvs a b
  | .lst a, .lst b => D.eqvs a b
  | _, _ => false
termination_by structural x => x
def D.eqvs : List D → List D → Bool
  | [], [] => true
  | a :: as, b :: bs => D.eqv a b && D.eqvs as bs
  | _, _ => false
termination_by structural x => x
end
mutual
/-- data of at most so deep lists and tuples -/
def D.dat : Nat → D → Bool
  | _, .non => true
  | _, .bl _ => true
  | _, .int _ => true
  | _, .str _ => true
  | n + 1, .tup xs => D.dats n xs
  | n + 1, .lst xs => D.dats n xs
  | _, _ => false
termination_by structural _ x => x
def D.dats : Nat → List D → Bool
  | _, [] => true
  | n, x :: xs => D.dat n x && D.dats n xs
termination_by structural _ x => x
end
/-- == of two data -/
def eqD (a b : D) : Option Bool := if D.dat 8 a && D.dat 8 b then some (D.eqv a b) else none
def neD (a b : D) : Option Bool := if D.dat 8 a && D.dat 8 b then some (!D.eqv a b) else none

mutual
/-- data of one shape: their order is told -/
def D.alike : D → D → Bool
  | .non, .non => true
  | .bl _, .bl _ => true
  | .int _, .int _ => true
  | .str _, .str _ => true
  | .tup a, .tup b => D.alikes a b
  | .lst a, .lst b => D.alikes a b
  | _, _ => false
termination_by structural x => x
def D.alikes : List D → List D → Bool
  | a :: as, b :: bs => D.alike a b && D.alikes as bs
  | [], _ => true
  | _ :: _, [] => true
termination_by structural x => x
end
mutual
/-- < of alike data -/
def D.lt : D → D → Bool
  | .bl a, .bl b => !a && b
  | .int a, .int b => decide (a < b)
  | .str a, .str b => decide (a < b)
  | .tup a, .tup b => D.lts a b
  | .lst a, .lst b => D.lts a b
  | _, _ => false
termination_by structural x => x
def D.lts : List D → List D → Bool
  | [], [] => false
  | [], _ :: _ => true
  | _ :: _, [] => false
  | a :: as, b :: bs => if D.eqv a b = true then D.lts as bs else D.lt a b
termination_by structural x => x
end
def D.isNon : D → Bool
  | .non => true
  | _ => false
def cmpOk (a b : D) : Bool := D.dat 8 a && D.dat 8 b && D.alike a b && !D.isNon a
def ltD (a b : D) : Option Bool := if cmpOk a b then some (D.lt a b) else none
def gtD (a b : D) : Option Bool := if cmpOk a b then some (D.lt b a) else none
def leD (a b : D) : Option Bool := if cmpOk a b then some (!D.lt b a) else none
def geD (a b : D) : Option Bool := if cmpOk a b then some (!D.lt a b) else none

/-- a slot: a value; a list or a dict of the frame's own, which may change; one that is read alone; the object that an __init__ makes -/
inductive Sl where
  | v (d : D) | o (d : D) | r (d : D) | s (d : D)
abbrev Loc := List (Option Sl)
abbrev Mem := List D
inductive Res (α : Type) where
  | ok (a : α) (l : Loc) (m : Mem)
  | ex (c : Nat) (fs : List D) (l : Loc) (m : Mem)
  | bad
/-- a call's end -/
inductive RC where
  | ok (d : D) (m : Mem)
  | ex (c : Nat) (fs : List D) (m : Mem)
  | bad
/-- a statement's end -/
inductive RS where
  | nx (l : Loc) (m : Mem) | rt (d : D) (l : Loc) (m : Mem) | bk (l : Loc) (m : Mem) | ct (l : Loc) (m : Mem)
  | ex (c : Nat) (fs : List D) (l : Loc) (m : Mem)
  | bad
@[simp] def Res.bind {α β : Type} (r : Res α) (f : α → Loc → Mem → Res β) : Res β := match r with
  | .ok a l m => f a l m
  | .ex c fs l m => .ex c fs l m
  | .bad => .bad
@[simp] def Res.then {α : Type} (r : Res α) (f : α → Loc → Mem → RS) : RS := match r with
  | .ok a l m => f a l m
  | .ex c fs l m => .ex c fs l m
  | .bad => .bad
@[simp] def RC.res (r : RC) (l : Loc) : Res D := match r with
  | .ok d m => .ok d l m
  | .ex c fs m => .ex c fs l m
  | .bad => .bad
@[simp] def lift {α : Type} (o : Option α) (l : Loc) (m : Mem) : Res α := match o with
  | some a => .ok a l m
  | none => .bad
abbrev Ex := Loc → Mem → Res D
abbrev Ea := Loc → Mem → Res (List D)
abbrev Et := Loc → Mem → Res Bool
abbrev Es := Loc → Mem → RS
/-- an operand: a value, or a name whose content is read when the operator comes -/
inductive Op where
  | val (d : D) | slot (i : Nat)
abbrev Ep := Loc → Mem → Res Op
abbrev Epa := Loc → Mem → Res (List Op)
@[simp] def Sl.get : Sl → D
  | .v d => d | .o d => d | .r d => d | .s d => d
/-- it may change -/
def Sl.chg : Sl → Bool
  | .o _ => true | .s _ => true
  | _ => false
@[simp] def Op.get (x : Op) (l : Loc) : Option D := match x with
  | .val d => some d
  | .slot i => match l[i]? with
    | some (some s) => some s.get
    | _ => none

/-! ### expressions -/
@[simp] def eC (d : D) : Ex := fun l m => .ok d l m
/-- a name as a value: what was the frame's own is never changed again -/
@[simp] def eV (i : Nat) : Ex := fun l m => match l[i]? with
  | some (some (.v d)) => .ok d l m
  | some (some (.o d)) => .ok d (l.set i (some (.v d))) m
  | _ => .bad
/-- a name as an operand -/
@[simp] def pV (i : Nat) : Ep := fun l m => match l[i]? with
  | some (some _) => .ok (.slot i) l m
  | _ => .bad
@[simp] def pE (e : Ex) : Ep := fun l m => (e l m).bind fun d l m => .ok (.val d) l m
@[simp] def eOp1 (f : D → Option D) (a : Ep) : Ex := fun l m => (a l m).bind fun x l m => match x.get l with
  | some d => lift (f d) l m
  | none => .bad
@[simp] def eOp2 (f : D → D → Option D) (a b : Ep) : Ex := fun l m => (a l m).bind fun x l m => (b l m).bind fun y l m => match x.get l, y.get l with
  | some d, some e => lift (f d e) l m
  | _, _ => .bad
@[simp] def tOp2 (f : D → D → Option Bool) (a b : Ep) : Et := fun l m => (a l m).bind fun x l m => (b l m).bind fun y l m => match x.get l, y.get l with
  | some d, some e => lift (f d e) l m
  | _, _ => .bad
@[simp] def tOp1 (f : D → Option Bool) (a : Ep) : Et := fun l m => (a l m).bind fun x l m => match x.get l with
  | some d => lift (f d) l m
  | none => .bad
/-- a test as a value -/
@[simp] def eT (t : Et) : Ex := fun l m => (t l m).bind fun b l m => .ok (.bl b) l m
@[simp] def tNot (t : Et) : Et := fun l m => (t l m).bind fun b l m => .ok (!b) l m
@[simp] def tAnd (a b : Et) : Et := fun l m => (a l m).bind fun x l m => if x = true then b l m else .ok false l m
@[simp] def tOr (a b : Et) : Et := fun l m => (a l m).bind fun x l m => if x = true then .ok true l m else b l m
/-- a, b values: the first a bool -/
@[simp] def eAnd (a b : Ex) : Ex := fun l m => (a l m).bind fun x l m => match x with
  | .bl true => b l m
  | .bl false => .ok (.bl false) l m
  | _ => .bad
@[simp] def eOr (a b : Ex) : Ex := fun l m => (a l m).bind fun x l m => match x with
  | .bl true => .ok (.bl true) l m
  | .bl false => b l m
  | _ => .bad
@[simp] def eIf (t : Et) (a b : Ex) : Ex := fun l m => (t l m).bind fun x l m => if x = true then a l m else b l m
/-- a test by two comparisons: b asked once -/
@[simp] def tChain (f g : D → D → Option Bool) (a b c : Ep) : Et := fun l m => (a l m).bind fun x l m => (b l m).bind fun y l m => match x.get l, y.get l with
  | some d, some e => match f d e with
    | some true => (c l m).bind fun z l m => match y.get l, z.get l with
      | some e', some h => lift (g e' h) l m
      | _, _ => .bad
    | some false => .ok false l m
    | none => .bad
  | _, _ => .bad
@[simp] def aNil : Ea := fun l m => .ok [] l m
@[simp] def aCons (e : Ex) (r : Ea) : Ea := fun l m => (e l m).bind fun d l m => (r l m).bind fun ds l m => .ok (d :: ds) l m
@[simp] def pNil : Epa := fun l m => .ok [] l m
@[simp] def pCons (e : Ep) (r : Epa) : Epa := fun l m => (e l m).bind fun d l m => (r l m).bind fun ds l m => .ok (d :: ds) l m
def sizeMax : Nat := 16777216
def sz (xs : List D) : Option (List D) := if xs.length ≤ sizeMax then some xs else none
@[simp] def eTup (a : Ea) : Ex := fun l m => (a l m).bind fun ds l m => lift ((sz ds).map .tup) l m
@[simp] def eLst (a : Ea) : Ex := fun l m => (a l m).bind fun ds l m => lift ((sz ds).map .lst) l m
/-! ### calls -/
abbrev CallT := Nat → List D → Mem → RC
/-- a def of the text -/
@[simp] def eCall (call : CallT) (k : Nat) (a : Ea) : Ex := fun l m => (a l m).bind fun ds l m => (call k ds m).res l
/-- the thing itself: what stands in a changing object -/
@[simp] def seen (m : Mem) : D → Option D
  | .cell k => m[k]?
  | d => some d
/-- a method of an own class, by the object's class; ms: the classes' defs -/
@[simp] def eMeth (call : CallT) (ms : List (Nat × Nat)) (o : Ex) (a : Ea) : Ex := fun l m => (o l m).bind fun d l m => match seen m d with
  | some (.ins c _) => match ms.lookup c with
    | some k => (a l m).bind fun ds l m => (call k (d :: ds) m).res l
    | none => .bad
  | _ => .bad
/-- a new object: its __init__ hands back the object -/
@[simp] def eNew (call : CallT) (k : Nat) (a : Ea) : Ex := eCall call k a
def eNew0 (c : Nat) : Ex := eC (.ins c [])
/-- a def's body -/
@[simp] def startL (ds : List D) (k : Nat) : Loc := ds.map (fun d => some (.v d)) ++ List.replicate k none
@[simp] def endR : RS → RC
  | .rt d _ m => .ok d m
  | .nx _ m => .ok .non m
  | .ex c fs _ m => .ex c fs m
  | _ => .bad
/-- a def of a parameters, k more names -/
@[simp] def defD (a k : Nat) (b : Es) (ds : List D) (m : Mem) : RC := if ds.length = a then endR (b (startL ds k) m) else .bad
/-- an __init__: the object stands in the first slot -/
@[simp] def endI : RS → RC
  | .nx (some (.s d) :: _) m => .ok d m
  | .ex c fs _ m => .ex c fs m
  | _ => .bad
@[simp] def initD (c a k : Nat) (b : Es) (ds : List D) (m : Mem) : RC := if ds.length = a then endI (b (some (.s (.ins c [])) :: startL ds k) m) else .bad

/-! ### statements -/
@[simp] def sSet (i : Nat) (e : Ex) : Es := fun l m => (e l m).then fun d l m => .nx (l.set i (some (.v d))) m
@[simp] def sSetO (i : Nat) (e : Ex) : Es := fun l m => (e l m).then fun d l m => .nx (l.set i (some (.o d))) m
@[simp] def sRet (e : Ex) : Es := fun l m => (e l m).then fun d l m => .rt d l m
@[simp] def sRetN : Es := fun l m => .rt .non l m
@[simp] def sPass : Es := fun l m => .nx l m
@[simp] def sBrk : Es := fun l m => .bk l m
@[simp] def sCnt : Es := fun l m => .ct l m
@[simp] def sDrop (e : Ex) : Es := fun l m => (e l m).then fun _ l m => .nx l m
@[simp] def sSeq (a b : Es) : Es := fun l m => match a l m with
  | .nx l m => b l m
  | r => r
@[simp] def sIf (t : Et) (a b : Es) : Es := fun l m => (t l m).then fun x l m => if x = true then a l m else b l m
@[simp] def sRaise (c n : Nat) (a : Ea) : Es := fun l m => (a l m).then fun ds l m => if ds.length = n then .ex c ds l m else .bad

/-- targets -/
inductive Tg where
  | nm (i : Nat) | tp (ts : List Tg)
mutual
@[simp] def Tg.put : Tg → D → Loc → Option Loc
  | .nm i, d, l => some (l.set i (some (.v d)))
  | .tp ts, .tup ds, l => Tg.puts ts ds l
  | .tp _, _, _ => none
termination_by structural x => x
@[simp] def Tg.puts : List Tg → List D → Loc → Option Loc
  | [], [], l => some l
  | t :: ts, d :: ds, l => match Tg.put t d l with
    | some l => Tg.puts ts ds l
    | none => none
  | _, _, _ => none
termination_by structural x => x
end
mutual
/-- the names of a target -/
def Tg.slots : Tg → List Nat
  | .nm i => [i]
  | .tp ts => Tg.slotss ts
termination_by structural x => x
def Tg.slotss : List Tg → List Nat
  | [] => []
  | t :: ts => t.slots ++ Tg.slotss ts
termination_by structural x => x
end
@[simp] def sAsg (tg : Tg) (e : Ex) : Es := fun l m => (e l m).then fun d l m => match tg.put d l with
  | some l => .nx l m
  | none => .bad

/-! ### loops -/
abbrev Ei := Loc → Mem → Res (List D)
def forLoop (tg : Tg) (b : Es) : List D → Loc → Mem → RS
  | [], l, m => .nx l m
  | d :: ds, l, m => match tg.put d l with
    | some l => match b l m with
      | .nx l m => forLoop tg b ds l m
      | .ct l m => forLoop tg b ds l m
      | .bk l m => .nx l m
      | r => r
    | none => .bad
@[simp] def sFor (tg : Tg) (it : Ei) (b : Es) : Es := fun l m => (it l m).then fun ds l m => forLoop tg b ds l m
def whileLoop (t : Et) (b : Es) : Nat → Loc → Mem → RS
  | 0, _, _ => .bad
  | n + 1, l, m => match t l m with
    | .ok true l m => match b l m with
      | .nx l m => whileLoop t b n l m
      | .ct l m => whileLoop t b n l m
      | .bk l m => .nx l m
      | r => r
    | .ok false l m => .nx l m
    | .ex c fs l m => .ex c fs l m
    | .bad => .bad
def sWhile (n : Nat) (t : Et) (b : Es) : Es := fun l m => whileLoop t b n l m
@[simp] def roS : Option Sl → Option Sl
  | some (.o d) => some (.r d)
  | some (.s d) => some (.r d)
  | s => s
def roL (l : Loc) : Loc := l.map roS
def wipeL (l : Loc) : List Nat → Loc
  | [] => l
  | i :: is => (wipeL l is).set i none
/-- one turn's locals are dropped -/
def lcLoop (tg : Tg) (t : Et) (e : Ex) (l0 : Loc) : List D → List D → Mem → Res (List D)
  | [], acc, m => .ok acc l0 m
  | d :: ds, acc, m => match tg.put d l0 with
    | some l => match t l m with
      | .ok true l m => match e l m with
        | .ok x _ m => if acc.length < sizeMax then lcLoop tg t e l0 ds (acc ++ [x]) m else .bad
        | _ => .bad
      | .ok false _ m => lcLoop tg t e l0 ds acc m
      | _ => .bad
    | none => .bad
@[simp] def tYes : Et := fun l m => .ok true l m
/-- a list comprehension; own: the slots of its own names -/
@[simp] def eLC (own : List Nat) (tg : Tg) (it : Ei) (t : Et) (e : Ex) : Ex := fun l m => (it l m).bind fun ds l m =>
  match lcLoop tg t e (wipeL (roL l) own) ds [] m with
  | .ok xs _ m => .ok (.lst xs) l m
  | _ => .bad
/-- items to be walked -/
def itemsD : D → Option (List D)
  | .lst xs => some xs
  | .tup xs => some xs
  | .str x => some (x.map fun c => .str [c])
  | .dct kvs => some (kvs.map (·.1))
  | _ => none
def rangeL (lo hi : Int) : List D := (List.range (hi - lo).toNat).map fun i => .int (lo + (i : Nat))
def small (i : Int) : Bool := decide (-4611686018427387904 ≤ i) && decide (i < 4611686018427387904)
def rangeD1 : List D → Option (List D)
  | [.int j] => if small j then some (rangeL 0 j) else none
  | _ => none
def rangeD2 : List D → Option (List D)
  | [.int i, .int j] => if small i && small j then some (rangeL i j) else none
  | _ => none
@[simp] def iP (f : D → Option (List D)) (p : Ep) : Ei := fun l m => (p l m).bind fun x l m => match x.get l with
  | some d => lift (f d) l m
  | none => .bad
@[simp] def iE (e : Ex) (f : D → Option (List D)) : Ei := fun l m => (e l m).bind fun d l m => lift (f d) l m
@[simp] def iA (a : Ea) (f : List D → Option (List D)) : Ei := fun l m => (a l m).bind fun ds l m => lift (f ds) l m
end DS
namespace DS
/-! ### operators by values -/
def bits64 (i : Int) : Bool := decide (-18446744073709551616 < i) && decide (i < 18446744073709551616)
def mulOk (i j : Int) : Bool := bits64 i || bits64 j || decide (i.natAbs.log2 + j.natAbs.log2 < 1000000)
def divOk (j : Int) : Bool := decide (0 < j) && decide (j.natAbs.log2 < 9000)
def powOk (i j : Int) : Bool := decide (0 ≤ j) && decide (j ≤ 1000000) && bits64 i
def ix63 (i : Int) : Bool := decide (-9223372036854775808 ≤ i) && decide (i < 9223372036854775808)
@[simp] def addD : D → D → Option D
  | .int a, .int b => some (.int (a + b))
  | .str a, .str b => if a.length + b.length ≤ sizeMax then some (.str (a ++ b)) else none
  | .tup a, .tup b => if a.length + b.length ≤ sizeMax then some (.tup (a ++ b)) else none
  | _, _ => none
@[simp] def subD : D → D → Option D
  | .int a, .int b => some (.int (a - b))
  | _, _ => none
def mulD : D → D → Option D
  | .int a, .int b => if mulOk a b then some (.int (a * b)) else none
  | _, _ => none
def fdivD : D → D → Option D
  | .int a, .int b => if divOk b then some (.int (a / b)) else none
  | _, _ => none
def modD : D → D → Option D
  | .int a, .int b => if decide (0 < b) then some (.int (a % b)) else none
  | _, _ => none
def powD : D → D → Option D
  | .int a, .int b => if powOk a b then some (.int (a ^ b.toNat)) else none
  | _, _ => none
@[simp] def negD : D → Option D
  | .int a => some (.int (-a))
  | _ => none
/-- list + list, list * int: new lists -/
@[simp] def catD : D → D → Option D
  | .lst a, .lst b => if a.length + b.length ≤ sizeMax then some (.lst (a ++ b)) else none
  | _, _ => none
def repD : D → D → Option D
  | .lst a, .int k => if ix63 k && decide (a.length * k.toNat ≤ sizeMax) then some (.lst (List.replicate k.toNat a).flatten) else none
  | _, _ => none
@[simp] def isNonD (a b : D) : Option Bool := match b with
  | .non => match a with
    | .cell _ => none | .lam _ => none
    | a => some a.isNon
  | _ => none
@[simp] def notNonD (a b : D) : Option Bool := (isNonD a b).map (!·)
/-- b in a text, a list, a tuple, a dict -/
def inD (x c : D) : Option Bool := match c with
  | .str s => match x with
    | .str [k] => some (s.contains k)
    | _ => none
  | .lst ds => if D.dat 8 x && D.dats 8 ds then some (ds.any fun z => D.eqv z x) else none
  | .tup ds => if D.dat 8 x && D.dats 8 ds then some (ds.any fun z => D.eqv z x) else none
  | .dct kvs => match x with
    | .int _ => some (kvs.any fun z => D.eqv z.1 x)
    | .str _ => some (kvs.any fun z => D.eqv z.1 x)
    | _ => none
  | _ => none
def notInD (x c : D) : Option Bool := (inD x c).map (!·)
@[simp] def truthD : D → Option Bool
  | .non => some false
  | .bl b => some b
  | .int i => some (i != 0)
  | .str x => some (!x.isEmpty)
  | .lst x => some (!x.isEmpty)
  | .tup x => some (!x.isEmpty)
  | .dct x => some (!x.isEmpty)
  | _ => none
end DS
namespace DS
/-! ### dicts -/
def isKey : D → Bool
  | .int _ => true
  | .str _ => true
  | _ => false
def getK (kvs : List (D × D)) (k : D) : Option D := (kvs.find? fun z => D.eqv z.1 k).map (·.2)
def hasK (kvs : List (D × D)) (k : D) : Bool := kvs.any fun z => D.eqv z.1 k
def setK (kvs : List (D × D)) (k v : D) : List (D × D) := if hasK kvs k = true then kvs.map (fun z => if D.eqv z.1 k = true then (z.1, v) else z) else kvs ++ [(k, v)]
def delK (kvs : List (D × D)) (k : D) : List (D × D) := kvs.filter fun z => !D.eqv z.1 k
end DS
namespace DS
/-! ### subscripts -/
def idx (n : Nat) (i : Int) : Option Nat := if 0 ≤ i then (if i < (n : Int) then some i.toNat else none) else (if -(n : Int) ≤ i then some (i + (n : Int)).toNat else none)
def ixD (a i : D) : Option D := match a with
  | .lst xs => match i with
    | .int i => match idx xs.length i with
      | some j => xs[j]?
      | none => none
    | _ => none
  | .tup xs => match i with
    | .int i => match idx xs.length i with
      | some j => xs[j]?
      | none => none
    | _ => none
  | .str xs => match i with
    | .int i => match idx xs.length i with
      | some j => (xs[j]?).map fun c => .str [c]
      | none => none
    | _ => none
  | .dct kvs => if isKey i = true then getK kvs i else none
  | _ => none
def six (n d : Nat) : Option Int → Nat
  | none => d
  | some v => if v < 0 then (v + (n : Int)).toNat else min v.toNat n
def cut {α : Type} (xs : List α) (lo hi : Option Int) : List α := (xs.drop (six xs.length 0 lo)).take (six xs.length xs.length hi - six xs.length 0 lo)
def partD : Option D → Option (Option Int)
  | none => some none
  | some (.int i) => some (some i)
  | _ => none
/-- a slice of a text, a tuple; of a list: a new one -/
def slD (a : D) (lo hi : Option Int) : Option D := match a with
  | .str xs => some (.str (cut xs lo hi))
  | .tup xs => some (.tup (cut xs lo hi))
  | _ => none
def slF (a : D) (lo hi : Option Int) : Option D := match a with
  | .lst xs => some (.lst (cut xs lo hi))
  | _ => none
abbrev Ez := Loc → Mem → Res (Option Int)
@[simp] def zNone : Ez := fun l m => .ok none l m
@[simp] def zSome (e : Ex) : Ez := fun l m => (e l m).bind fun d l m => match d with
  | .int i => .ok (some i) l m
  | _ => .bad
@[simp] def eSl (f : D → Option Int → Option Int → Option D) (a : Ep) (lo hi : Ez) : Ex := fun l m => (a l m).bind fun x l m => (lo l m).bind fun i l m => (hi l m).bind fun j l m => match x.get l with
  | some d => lift (f d i j) l m
  | none => .bad
def starD : D → Option (List D)
  | .lst xs => some xs
  | .tup xs => some xs
  | _ => none
@[simp] def aStar (p : Ep) (r : Ea) : Ea := fun l m => (p l m).bind fun x l m => match x.get l with
  | some d => match starD d with
    | some xs => (r l m).bind fun ds l m => .ok (xs ++ ds) l m
    | none => .bad
  | none => .bad
/-- an attribute of objects of the classes cs -/
def fldC (cs : List Nat) (f : Nat) : D → Option D
  | .ins c fs => if cs.contains c = true then fs.lookup f else none
  | _ => none
@[simp] def eFld (cs : List Nat) (f : Nat) (p : Ep) : Ex := fun l m => (p l m).bind fun x l m => match x.get l with
  | some d => match seen m d with
    | some d => lift (fldC cs f d) l m
    | none => .bad
  | none => .bad
end DS
namespace DS
/-! ### iterables by operands -/
@[simp] def opsGet (l : Loc) : List Op → Option (List D)
  | [] => some []
  | o :: os => match o.get l with
    | some d => match opsGet l os with
      | some ds => some (d :: ds)
      | none => none
    | none => none
@[simp] def iPA (f : List D → Option (List D)) (a : Epa) : Ei := fun l m => (a l m).bind fun os l m => match opsGet l os with
  | some ds => lift (f ds) l m
  | none => .bad
/-- what enumerate and zip take -/
def seqD : D → Option (List D)
  | .lst xs => some xs
  | .tup xs => some xs
  | .str x => some (x.map fun c => .str [c])
  | _ => none
def enumL (ds : List D) : List D := (List.range ds.length).zipWith (fun i d => .tup [.int (i : Nat), d]) ds
def enumD : List D → Option (List D)
  | [d] => (seqD d).map enumL
  | _ => none
def zipL (xs ys : List D) : List D := xs.zipWith (fun x y => .tup [x, y]) ys
def zipD : List D → Option (List D)
  | [a, b] => match seqD a, seqD b with
    | some xs, some ys => some (zipL xs ys)
    | _, _ => none
  | _ => none
def itemsKV : D → Option (List D)
  | .dct kvs => some (kvs.map fun z => .tup [z.1, z.2])
  | _ => none
def valuesD : D → Option (List D)
  | .dct kvs => some (kvs.map (·.2))
  | _ => none
def rangeD3 : List D → Option (List D)
  | [.int i, .int j, .int c] => if c = -1 ∧ small i = true ∧ small j = true then some ((List.range (i - j).toNat).map fun k => .int (i - (k : Nat))) else none
  | _ => none
end DS
namespace DS
/-- own things that are never changed again, from here on -/
@[simp] def fzS (l : Loc) : List Nat → Loc
  | [] => l
  | i :: is => match l[i]? with
    | some (some (.o d)) => fzS (l.set i (some (.v d))) is
    | _ => fzS l is
@[simp] def eFz (is : List Nat) (e : Ex) : Ex := fun l m => e (fzS l is) m
end DS
namespace DS
/-! ### built-in functions, by values -/
@[simp] def eB (f : List D → Option D) (a : Epa) : Ex := fun l m => (a l m).bind fun os l m => match opsGet l os with
  | some ds => lift (f ds) l m
  | none => .bad
@[simp] def kindD : D → Option Nat
  | .non => some 0 | .bl _ => some 1 | .int _ => some 2 | .str _ => some 3 | .lst _ => some 4 | .tup _ => some 5 | .dct _ => some 6
  | _ => none
/-- isinstance: the answers for the built-in kinds, for own classes -/
@[simp] def isiD (bs : List Bool) (os : List (Nat × Bool)) : D → Option Bool
  | .ins c _ => os.lookup c
  | d => match kindD d with
    | some i => bs[i]?
    | none => none
@[simp] def eIsi (bs : List Bool) (os : List (Nat × Bool)) (p : Ep) : Ex := fun l m => (p l m).bind fun x l m => match x.get l with
  | some d => match seen m d with
    | some d => lift ((isiD bs os d).map .bl) l m
    | none => .bad
  | none => .bad
def lenD : List D → Option D
  | [.str x] => some (.int x.length)
  | [.lst x] => some (.int x.length)
  | [.tup x] => some (.int x.length)
  | [.dct x] => some (.int x.length)
  | _ => none
def absD : List D → Option D
  | [.int i] => some (.int (if i < 0 then -i else i))
  | _ => none
def max2D : List D → Option D
  | [.int i, .int j] => some (.int (if j > i then j else i))
  | _ => none
def min2D : List D → Option D
  | [.int i, .int j] => some (.int (if j < i then j else i))
  | _ => none
def intD : List D → Option D
  | [.int i] => some (.int i)
  | [.bl b] => some (.int (if b then 1 else 0))
  | _ => none
def boolD : List D → Option D
  | [.int i] => some (.bl (i != 0))
  | [.bl b] => some (.bl b)
  | _ => none
def intsD : List D → Option (List Int)
  | [] => some []
  | .int i :: ds => (intsD ds).map (i :: ·)
  | _ => none
def blsD : List D → Option (List Bool)
  | [] => some []
  | .bl i :: ds => (blsD ds).map (i :: ·)
  | _ => none
def sumD : List D → Option D
  | [.lst xs] => (intsD xs).map fun ns => .int ns.sum
  | _ => none
def anyD : List D → Option D
  | [.lst xs] => (blsD xs).map fun bs => .bl (bs.any id)
  | _ => none
def allD : List D → Option D
  | [.lst xs] => (blsD xs).map fun bs => .bl (bs.all id)
  | _ => none
/-- data of one shape -/
def alikeAll (xs : List D) : Bool := D.dats 8 xs && xs.all (fun a => xs.all fun b => D.alike a b) && xs.all fun a => !a.isNon
def minF (x : D) (xs : List D) : D := xs.foldl (fun a y => if D.lt y a = true then y else a) x
def maxF (x : D) (xs : List D) : D := xs.foldl (fun a y => if D.lt a y = true then y else a) x
def bestD (f : D → List D → D) : List D → Option D
  | [.lst (x :: xs)] => if alikeAll (x :: xs) = true then some (f x xs) else none
  | [.tup (x :: xs)] => if alikeAll (x :: xs) = true then some (f x xs) else none
  | _ => none
def listD : List D → Option D
  | [.lst xs] => some (.lst xs)
  | [.tup xs] => some (.lst xs)
  | _ => none
def listKD : List D → Option D
  | [.dct kvs] => some (.lst (kvs.map (·.1)))
  | _ => none
def tupleD : List D → Option D
  | [.lst xs] => some (.tup xs)
  | [.tup xs] => some (.tup xs)
  | _ => none
def dictD : List D → Option D
  | [.dct xs] => some (.dct xs)
  | _ => none
end DS
namespace DS
/-! ### things that change -/
@[simp] def cgGet (l : Loc) (m : Mem) (i : Nat) : Option D := match l[i]? with
  | some (some (.o d)) => some d
  | some (some (.s d)) => some d
  | some (some (.v (.cell k))) => m[k]?
  | _ => none
@[simp] def cgL (l : Loc) (i : Nat) (d : D) : Loc := match l[i]? with
  | some (some (.o _)) => l.set i (some (.o d))
  | some (some (.s _)) => l.set i (some (.s d))
  | _ => l
@[simp] def cgM (l : Loc) (m : Mem) (i : Nat) (d : D) : Mem := match l[i]? with
  | some (some (.v (.cell k))) => m.set k d
  | _ => m
/-- the thing that slot i names becomes what f tells -/
@[simp] def cgSet (l : Loc) (m : Mem) (i : Nat) (o : Option D) : RS := match o with
  | some d => .nx (cgL l i d) (cgM l m i d)
  | none => .bad
@[simp] def appD : D → D → Option D
  | .lst xs, d => if xs.length < sizeMax then some (.lst (xs ++ [d])) else none
  | _, _ => none
def isLst : D → Bool
  | .lst _ => true
  | _ => false
/-- x.append(e) -/
@[simp] def sApp (i : Nat) (e : Ex) : Es := fun l m => match cgGet l m i with
  | some (.lst _) => (e l m).then fun d l m => match cgGet l m i with
    | some o => cgSet l m i (appD o d)
    | none => .bad
  | _ => .bad
def putD : D → D → D → Option D
  | .lst xs, .int k, d => match idx xs.length k with
    | some j => some (.lst (xs.set j d))
    | none => none
  | .dct kvs, k, d => if isKey k = true ∧ kvs.length < sizeMax then some (.dct (setK kvs k d)) else none
  | _, _, _ => none
/-- x[j] = e -/
@[simp] def sPut (i : Nat) (j e : Ex) : Es := fun l m => (e l m).then fun d l m => match cgGet l m i with
  | some _ => (j l m).then fun k l m => match cgGet l m i with
    | some o => cgSet l m i (putD o k d)
    | none => .bad
  | none => .bad
/-- x[j] op= e -/
@[simp] def sAugP (f : D → D → Option D) (i : Nat) (j e : Ex) : Es := fun l m => match cgGet l m i with
  | some _ => (j l m).then fun k l m => match cgGet l m i with
    | some o => match ixD o k with
      | some a => (e l m).then fun b l m => match f a b with
        | some c => match cgGet l m i with
          | some o => cgSet l m i (putD o k c)
          | none => .bad
        | none => .bad
      | none => .bad
    | none => .bad
  | none => .bad
/-- x op= e -/
@[simp] def sAug (f : D → D → Option D) (i : Nat) (e : Ex) : Es := fun l m => match l[i]? with
  | some (some (.v a)) => (e l m).then fun b l m => match f a b with
    | some c => .nx (l.set i (some (.v c))) m
    | none => .bad
  | _ => .bad
/-- += of ints, of texts -/
@[simp] def addI : D → D → Option D
  | .int a, .int b => some (.int (a + b))
  | .str a, .str b => if a.length + b.length ≤ sizeMax then some (.str (a ++ b)) else none
  | _, _ => none
/-- x += [..]: x is made longer -/
@[simp] def sExt (i : Nat) (e : Ex) : Es := fun l m => match l[i]? with
  | some (some (.o (.lst _))) => (e l m).then fun b l m => match l[i]? with
    | some (some (.o (.lst xs))) => match b with
      | .lst ys => if xs.length + ys.length ≤ sizeMax then .nx (l.set i (some (.o (.lst (xs ++ ys))))) m else .bad
      | _ => .bad
    | _ => .bad
  | _ => .bad
/-- attributes are stored -/
def putFs (f : Nat) (d : D) : List (Nat × D) → List (Nat × D)
  | [] => [(f, d)]
  | (g, x) :: r => if g = f then (g, d) :: r else (g, x) :: putFs f d r
def putAt (cs : List Nat) (f : Nat) : D → D → Option D
  | .ins c fs, d => if cs.contains c = true ∧ fs.length < 1000 then some (.ins c (putFs f d fs)) else none
  | _, _ => none
/-- x.f = e -/
def sFld (cs : List Nat) (f i : Nat) (e : Ex) : Es := fun l m => (e l m).then fun d l m => match cgGet l m i with
  | some o => cgSet l m i (putAt cs f o d)
  | none => .bad
def clsD : D → Option Nat
  | .ins c _ => some c
  | _ => none
/-- x.f op= e -/
def sFldA (g : D → D → Option D) (cs : List Nat) (f i : Nat) (e : Ex) : Es := fun l m => match cgGet l m i with
  | some o0 => match fldC cs f o0 with
    | some a => (e l m).then fun b l m => match g a b with
      | some c => match cgGet l m i with
        | some o => if clsD o0 = clsD o then cgSet l m i (putAt cs f o c) else .bad
        | none => .bad
      | none => .bad
    | none => .bad
  | none => .bad
end DS
end

section
set_option autoImplicit false
namespace DS
/-! DP2: more combinators. -/
@[simp] def putsL : List Nat → List D → Loc → Option Loc
  | [], [], l => some l
  | i :: is, d :: ds, l => putsL is ds (l.set i (some (.v d)))
  | _, _, _ => none
/-- x, y = a, b -/
@[simp] def sPar (is : List Nat) (a : Ea) : Es := fun l m => (a l m).then fun ds l m => match putsL is ds l with
  | some l => .nx l m
  | none => .bad
/-- turns of a while loop: more than are asked for -/
def fuel : Nat := 2 ^ 100000
end DS
namespace DS
/-! ### a changing object of one's own -/
mutual
/-- nothing in it may change -/
def D.noC : D → Bool
  | .tup xs => D.noCs xs
  | .lst xs => D.noCs xs
  | .dct kvs => D.noKs kvs
  | .set xs => D.noCs xs
  | .ins _ fs => D.noFs fs
  | .lam _ => false
  | .cell _ => false
  | _ => true
termination_by structural x => x
def D.noCs : List D → Bool
  | [] => true
  | x :: xs => D.noC x && D.noCs xs
termination_by structural x => x
def D.noKs : List (D × D) → Bool
  | [] => true
  | x :: xs => D.noK x && D.noKs xs
termination_by structural x => x
def D.noK : D × D → Bool
  | (_, d) => D.noC d
termination_by structural x => x
def D.noFs : List (Nat × D) → Bool
  | [] => true
  | x :: xs => D.noF x && D.noFs xs
termination_by structural x => x
def D.noF : Nat × D → Bool
  | (_, d) => D.noC d
termination_by structural x => x
end
/-- the block's end: its own object is gone -/
def endC (n : Nat) : RS → RS
  | .rt d l m => if d.noC = true ∧ D.noCs (m.take n) = true then .rt d (List.replicate l.length none) (m.take n) else .bad
  | .ex c fs l m => if D.noCs fs = true ∧ D.noCs (m.take n) = true then .ex c fs (List.replicate l.length none) (m.take n) else .bad
  | _ => .bad
/-- x = e, e a new thing that others may change, and what follows -/
def sCell (i : Nat) (e : Ex) (b : Es) : Es := fun l m => (e l m).then fun d l m => endC m.length (b (l.set i (some (.v (.cell m.length)))) (m ++ [d]))
end DS
namespace DS
/-! ### sets -/
def nub : List Int → List Int
  | [] => []
  | x :: xs => if xs.contains x = true then nub xs else x :: nub xs
/-- len(set(x)), x of ints -/
def lenSetD : List D → Option D
  | [.lst xs] => match intsD xs with
    | some ns => if ns.length ≤ 4000 then some (.int (nub ns).length) else none
    | none => none
  | [.tup xs] => match intsD xs with
    | some ns => if ns.length ≤ 4000 then some (.int (nub ns).length) else none
    | none => none
  | _ => none
end DS
namespace DS
/-! ### lambdas -/
/-- x(), x a lambda of the text; lams: what they do, without slots -/
@[simp] def eLamCall (lams : Nat → Ex) (i : Nat) : Ex := fun l m => match l[i]? with
  | some (some (.v (.lam j))) => match lams j [] m with
    | .ok d _ m => .ok d l m
    | .ex c fs _ m => .ex c fs l m
    | .bad => .bad
  | _ => .bad
end DS
namespace DS
/-! ### try / except -/
/-- a part of what a clause hands back: the caught exception's field, a constant -/
inductive HdI where
  | fld (j : Nat) | con (d : D)
@[simp] def HdI.get (fs : List D) : HdI → Option D
  | .fld j => fs[j]?
  | .con d => some d
/-- what a clause hands back; i: the slot of its name -/
inductive HdD where
  | one (i : Nat) (x : HdI) | two (i : Nat) (x y : HdI) | con (d : D)
@[simp] def HdD.get (n : Nat) (fs : List D) : HdD → Option D
  | .one i x => if i < n then x.get fs else none
  | .two i x y => if i < n then match x.get fs, y.get fs with
    | some a, some b => some (.tup [a, b])
    | _, _ => none else none
  | .con d => some d
/-- the clauses, one after the other: for each class whether it is caught -/
@[simp] def tryH : List (List (Nat × Bool) × HdD) → Nat → List D → Loc → Mem → RS
  | [], c, fs, l, m => .ex c fs l m
  | (tab, h) :: r, c, fs, l, m => match tab.lookup c with
    | some true => match h.get l.length fs with
      | some d => .rt d l m
      | none => .bad
    | some false => tryH r c fs l m
    | none => .bad
@[simp] def sTry (b : Es) (hs : List (List (Nat × Bool) × HdD)) : Es := fun l m => match b l m with
  | .ex c fs l m => tryH hs c fs l m
  | r => r
end DS
namespace DS
/-- a def of n names that asks the lambda it got (fe, at the maker's names) within try, hands back els else -/
@[simp] def eRef (n : Nat) (fe : Ex) (hs : List (List (Nat × Bool) × HdD)) (els : D) : Ex := fun l m => match fe (roL l) m with
  | .ok _ _ m => .ok els l m
  | .ex c fs _ m => match tryH hs c fs (List.replicate n none) m with
    | .rt d _ m => .ok d l m
    | _ => .bad
  | .bad => .bad
/-- the lambda asked -/
@[simp] def eAct (fe : Ex) (l0 : Loc) : Ex := fun l m => match fe (roL l0) m with
  | .ok d _ m => .ok d l m
  | .ex c fs _ m => .ex c fs l m
  | .bad => .bad
end DS
namespace DS
/-! ### max, min of ints; list(range(..)) -/
def bestI (f : Int → Int → Int) : List D → Option D
  | [.lst xs] => match intsD xs with
    | some (n :: ns) => some (.int (ns.foldl f n))
    | _ => none
  | [.tup xs] => match intsD xs with
    | some (n :: ns) => some (.int (ns.foldl f n))
    | _ => none
  | _ => none
def maxI : List D → Option D := bestI max
def minI : List D → Option D := bestI min
def rg1 : D → Option D
  | .int j => if small j = true ∧ j.toNat ≤ 16777216 then some (.lst (rangeL 0 j)) else none
  | _ => none
def rg2 : D → D → Option D
  | .int i, .int j => if small i = true ∧ small j = true ∧ (j - i).toNat ≤ 16777216 then some (.lst (rangeL i j)) else none
  | _, _ => none
@[simp] def eRg1 (e : Ex) : Ex := fun l m => (e l m).bind fun d l m => lift (rg1 d) l m
@[simp] def eRg2 (a b : Ex) : Ex := fun l m => (a l m).bind fun d l m => (b l m).bind fun e l m => lift (rg2 d e) l m
end DS
namespace DS
/-- x[j], x perhaps a changing object -/
@[simp] def eIx (a b : Ep) : Ex := fun l m => (a l m).bind fun x l m => (b l m).bind fun y l m => match x.get l, y.get l with
  | some d, some e => match seen m d with
    | some d => lift (ixD d e) l m
    | none => .bad
  | _, _ => .bad
end DS
end

section
set_option Elab.async false
set_option linter.all false
set_option maxRecDepth 100000
set_option maxHeartbeats 2000000
namespace DS
open PySem PySem.Spec PyProof.Rows L2

/-- where things stand: classes, field names, the exceptions' fields, the changing objects -/
structure Tab where
  cls : Nat → Addr
  fld : Nat → Str
  nf : Nat
  xf : Nat → List Str
  lamP : Nat → Addr → Addr → Heap → Prop
  lamQ : Str
  tq : Addr → Str
  ts : List Addr
  γ : List Addr
  ι : List Addr
  B : Hp
/-- what may change behind the entry -/
abbrev Tab.free (T : Tab) : List Addr := T.γ ++ T.ι

def tx (l : List Nat) : Str := ⟨l.toArray⟩
def KeyD : Key → D → Prop
  | .inl i, d => d = .int i
  | .inr x, d => ∃ l, x = tx l ∧ d = .str l ∧ (∀ c ∈ l, c < 1114112) ∧ l.length ≤ 16777216
/-- a list that never changes again -/
def FzL (K : PySem.W.Frag) (H : Hp) (a : Addr) (xs : List V) : Prop := ∃ o, H a = some (.frz o (.lst xs))
mutual
inductive Rep (T : Tab) (K : PySem.W.Frag) (H : Hp) : V → D → Prop
  | non : Rep T K H .non .non
  | bl (b : Bool) : Rep T K H (.bl b) (.bl b)
  | int (i : Int) : Rep T K H (.int i) (.int i)
  | str (l : List Nat) : (∀ c ∈ l, c < 1114112) → l.length ≤ 16777216 → Rep T K H (.str (tx l)) (.str l)
  | tup {a : Addr} {xs : List V} {ds : List D} : SqT K H a xs → Reps T K H xs ds → Rep T K H (.ref a) (.tup ds)
  | lst {a : Addr} {xs : List V} {ds : List D} : FzL K H a xs → Reps T K H xs ds → Rep T K H (.ref a) (.lst ds)
  | dct {a : Addr} {o : Obj} {kvs : List (Key × V)} {ds : List (D × D)} : H a = some (.frz o (.dK kvs)) → RepKs T K H kvs ds → Rep T K H (.ref a) (.dct ds)
  | ins {a : Addr} {o : Obj} {dx : Addr} {c : Nat} {fs : List (Str × V)} {ds : List (Nat × D)} : H a = some (.frz o (.ins (T.cls c) dx fs)) → RepFs T K H fs ds → Rep T K H (.ref a) (.ins c ds)
  | lam {a c : Addr} {k : Nat} : H a = some (.ext (T.lamP k c a)) → H c = some (LamX.CodeO c T.lamQ) → Rep T K H (.ref a) (.lam k)
  | cell {a : Addr} {k : Nat} : T.γ[k]? = some a → Rep T K H (.ref a) (.cell k)
inductive Reps (T : Tab) (K : PySem.W.Frag) (H : Hp) : List V → List D → Prop
  | nil : Reps T K H [] []
  | cons {v : V} {d : D} {vs : List V} {ds : List D} : Rep T K H v d → Reps T K H vs ds → Reps T K H (v :: vs) (d :: ds)
inductive RepKs (T : Tab) (K : PySem.W.Frag) (H : Hp) : List (Key × V) → List (D × D) → Prop
  | nil : RepKs T K H [] []
  | cons {k : Key} {c : D} {v : V} {d : D} {vs : List (Key × V)} {ds : List (D × D)} : KeyD k c → Rep T K H v d → RepKs T K H vs ds → RepKs T K H ((k, v) :: vs) ((c, d) :: ds)
inductive RepFs (T : Tab) (K : PySem.W.Frag) (H : Hp) : List (Str × V) → List (Nat × D) → Prop
  | nil : RepFs T K H [] []
  | cons {f : Nat} {v : V} {d : D} {vs : List (Str × V)} {ds : List (Nat × D)} : f < T.nf → Rep T K H v d → RepFs T K H vs ds → RepFs T K H ((T.fld f, v) :: vs) ((f, d) :: ds)
end

/-- what is told of the heap is told on -/
structure Mono (H H' : Hp) : Prop where
  frz : ∀ a o u, H a = some (.frz o u) → H' a = some (.frz o u)
  tup : ∀ a xs, H a = some (.tup xs) → H' a = some (.tup xs)
  ext : ∀ a φ, H a = some (.ext φ) → H' a = some (.ext φ)
theorem Mono.refl {H : Hp} : Mono H H := ⟨fun _ _ _ e => e, fun _ _ e => e, fun _ _ e => e⟩
theorem Mono.trans {H H1 H2 : Hp} (a : Mono H H1) (b : Mono H1 H2) : Mono H H2 := ⟨fun c o u e => b.frz c o u (a.frz c o u e), fun c xs e => b.tup c xs (a.tup c xs e), fun c x e => b.ext c x (a.ext c x e)⟩
section
variable {T : Tab} {K : PySem.W.Frag} {H H' : Hp}
theorem SqT.mono {a : Addr} {xs : List V} (m : Mono H H') (h : SqT K H a xs) : SqT K H' a xs := by
  rcases h with (h | ⟨o, h⟩) | h
  · exact .inl (.inl (m.tup _ _ h))
  · exact .inl (.inr ⟨o, m.frz _ _ _ h⟩)
  · exact .inr h
theorem FzL.mono {a : Addr} {xs : List V} (m : Mono H H') (h : FzL K H a xs) : FzL K H' a xs := by
  obtain ⟨o, h⟩ := h
  exact ⟨o, m.frz _ _ _ h⟩
theorem FzL.sq {a : Addr} {xs : List V} (h : FzL K H a xs) : SqL K H a xs := by
  obtain ⟨o, h⟩ := h
  exact .inl (.inr ⟨o, h⟩)
mutual
theorem Rep.mono (m : Mono H H') {v : V} {d : D} (h : Rep T K H v d) : Rep T K H' v d := match h with
  | .non => .non
  | .bl b => .bl b
  | .int i => .int i
  | .str l b z => .str l b z
  | .tup s r => .tup (SqT.mono m s) (Reps.mono m r)
  | .lst s r => .lst (FzL.mono m s) (Reps.mono m r)
  | .dct e r => .dct (m.frz _ _ _ e) (RepKs.mono m r)
  | .ins e r => .ins (m.frz _ _ _ e) (RepFs.mono m r)
  | .lam e g => .lam (m.ext _ _ e) (m.ext _ _ g)
  | .cell e => .cell e
theorem Reps.mono (m : Mono H H') {vs : List V} {ds : List D} (h : Reps T K H vs ds) : Reps T K H' vs ds := match h with
  | .nil => .nil
  | .cons r t => .cons (Rep.mono m r) (Reps.mono m t)
theorem RepKs.mono (m : Mono H H') {vs : List (Key × V)} {ds : List (D × D)} (h : RepKs T K H vs ds) : RepKs T K H' vs ds := match h with
  | .nil => .nil
  | .cons k r t => .cons k (Rep.mono m r) (RepKs.mono m t)
theorem RepFs.mono (m : Mono H H') {vs : List (Str × V)} {ds : List (Nat × D)} (h : RepFs T K H vs ds) : RepFs T K H' vs ds := match h with
  | .nil => .nil
  | .cons q r t => .cons q (Rep.mono m r) (RepFs.mono m t)
end
theorem Reps.length {vs : List V} {ds : List D} (h : Reps T K H vs ds) : vs.length = ds.length := match h with
  | .nil => rfl
  | .cons _ t => by simp [Reps.length t]
theorem Reps.append {vs ws : List V} {ds es : List D} (h : Reps T K H vs ds) (g : Reps T K H ws es) : Reps T K H (vs ++ ws) (ds ++ es) := match h with
  | .nil => g
  | .cons r t => .cons r (Reps.append t g)
theorem Reps.get {vs : List V} {ds : List D} (h : Reps T K H vs ds) {i : Nat} {v : V} (e : vs[i]? = some v) : ∃ d, ds[i]? = some d ∧ Rep T K H v d := match h, i, e with
  | .nil, _, e => by simp at e
  | .cons r _, 0, e => by simp at e; subst e; exact ⟨_, rfl, r⟩
  | .cons _ t, i + 1, e => by
    obtain ⟨d, h1, h2⟩ := Reps.get t (i := i) (by simpa using e)
    exact ⟨d, by simpa using h1, h2⟩
theorem Reps.get' {vs : List V} {ds : List D} (h : Reps T K H vs ds) {i : Nat} {d : D} (e : ds[i]? = some d) : ∃ v, vs[i]? = some v ∧ Rep T K H v d := match h, i, e with
  | .nil, _, e => by simp at e
  | .cons r _, 0, e => by simp at e; subst e; exact ⟨_, rfl, r⟩
  | .cons _ t, i + 1, e => by
    obtain ⟨d, h1, h2⟩ := Reps.get' t (i := i) (by simpa using e)
    exact ⟨d, by simpa using h1, h2⟩
end

/-- an object that may change -/
inductive Own (T : Tab) (K : PySem.W.Frag) (H : Hp) (a : Addr) : D → Prop
  | lst {xs : List V} {ds : List D} : H a = some (.lst xs) → Reps T K H xs ds → Own T K H a (.lst ds)
  | dct {kvs : List (Key × V)} {ds : List (D × D)} : H a = some (.dK kvs) → RepKs T K H kvs ds → Own T K H a (.dct ds)
  | ins {c : Nat} {dx : Addr} {fs : List (Str × V)} {ds : List (Nat × D)} : H a = some (.ins (T.cls c) dx fs) → RepFs T K H fs ds → Own T K H a (.ins c ds)
theorem Own.mono {T : Tab} {K : PySem.W.Frag} {H H' : Hp} {a : Addr} {d : D} (m : Mono H H') (e : H' a = H a) (h : Own T K H a d) : Own T K H' a d := by
  cases h with
  | lst p r => exact .lst (e.trans p) (r.mono m)
  | dct p r => exact .dct (e.trans p) (r.mono m)
  | ins p r => exact .ins (e.trans p) (r.mono m)
theorem Own.there {T : Tab} {K : PySem.W.Frag} {H : Hp} {a : Addr} {d : D} (h : Own T K H a d) : ∃ o, H a = some o ∧ Mut (some o) ∧ (∀ q u, o ≠ .frz q u) ∧ (∀ xs, o ≠ .tup xs) ∧ (∀ ps, o ≠ .tbl ps) ∧ ∀ φ, o ≠ .ext φ := by
  cases h with
  | lst p r => exact ⟨_, p, trivial, (fun _ _ z => nomatch z), (fun _ z => nomatch z), (fun _ z => nomatch z), (fun _ z => nomatch z)⟩
  | dct p r => exact ⟨_, p, trivial, (fun _ _ z => nomatch z), (fun _ z => nomatch z), (fun _ z => nomatch z), (fun _ z => nomatch z)⟩
  | ins p r => exact ⟨_, p, trivial, (fun _ _ z => nomatch z), (fun _ z => nomatch z), (fun _ z => nomatch z), (fun _ z => nomatch z)⟩

/-- readable: a value, or what stands at an object that may change -/
def RepR (T : Tab) (K : PySem.W.Frag) (H : Hp) (v : V) (d : D) : Prop := Rep T K H v d ∨ ∃ a, v = .ref a ∧ Own T K H a d

/-- all but the changing objects and the tables stays; tq: the name that a table's code objects bear -/
structure Stay (tq : Addr → Str) (F : List Addr) (H H' : Hp) : Prop where
  at_ : ∀ a o, H a = some o → a ∉ F → (∀ ps, o ≠ .tbl ps) → H' a = some o
  tb : ∀ a ps, H a = some (.tbl ps) → ∃ more, H' a = some (.tbl (ps ++ more))
  tn : ∀ P, LamX.TabS H P (tq P) → LamX.TabS H' P (tq P)
theorem Stay.refl {tq : Addr → Str} {F : List Addr} {H : Hp} : Stay tq F H H := ⟨fun _ _ e _ _ => e, fun _ _ e => ⟨#[], by rw [e]; simp⟩, fun _ z => z⟩
theorem Stay.trans {tq : Addr → Str} {F : List Addr} {H H1 H2 : Hp} (a : Stay tq F H H1) (b : Stay tq F H1 H2) : Stay tq F H H2 := ⟨fun c o e n t => b.at_ c o (a.at_ c o e n t) n t, fun c ps e => by
  obtain ⟨m1, e1⟩ := a.tb c ps e
  obtain ⟨m2, e2⟩ := b.tb c _ e1
  exact ⟨m1 ++ m2, by rw [e2, Array.append_assoc]⟩, fun P z => b.tn P (a.tn P z)⟩
theorem Stay.sub {tq : Addr → Str} {F G : List Addr} {H H' : Hp} (s : Stay tq F H H') (h : ∀ a ∈ F, a ∈ G) : Stay tq G H H' := ⟨fun a o e n t => s.at_ a o e (fun z => n (h a z)) t, s.tb, s.tn⟩
/-- a table stays, the code objects too -/
theorem tabS_keep {H H' : Hp} {P : Addr} {q : Str} (h : LamX.TabS H P q) (k : ∀ ps, H P = some (.tbl ps) → H' P = some (.tbl ps)) (m : ∀ a φ, H a = some (.ext φ) → H' a = some (.ext φ)) : LamX.TabS H' P q := by
  obtain ⟨ps, a1, a2, a3⟩ := h
  exact ⟨ps, k ps a1, a2, fun p cv hc => by
    obtain ⟨c, e1, e2⟩ := a3 p cv hc
    exact ⟨c, e1, m _ _ e2⟩⟩

structure MemR (T : Tab) (K : PySem.W.Frag) (H : Hp) (m : Mem) : Prop where
  len : m.length = T.γ.length
  nd : T.γ.Nodup
  tb : ∀ P ∈ T.ts, LamX.TabS H P (T.tq P)
  at_ : ∀ (k : Nat) (a : Addr) (d : D), T.γ[k]? = some a → m[k]? = some d → Own T K H a d

/-- the tables of code objects that are told -/
abbrev TbR (H : Hp) (P : Addr) : Prop := ∃ ps : Array Value, H P = some (.tbl ps)

def SlR (T : Tab) (K : PySem.W.Frag) (H : Hp) (v : V) : Sl → Prop
  | .v d => Rep T K H v d
  | .o d => ∃ a, v = .ref a ∧ Own T K H a d ∧ (T.B a = none ∨ a ∈ T.ι) ∧ a ∉ T.γ
  | .r d => ∃ a, v = .ref a ∧ Own T K H a d ∧ ((∃ o, T.B a = some o) ∧ a ∉ T.ι) ∧ a ∉ T.γ
  | .s d => ∃ a, v = .ref a ∧ Own T K H a d ∧ a ∈ T.ι ∧ a ∉ T.γ

/-- the slots, the changing objects and the heap are as the evaluator tells -/
structure Rel (T : Tab) (K : PySem.W.Frag) (l : Loc) (m : Mem) (σ : L2.St) (H : Hp) : Prop where
  len : σ.length = l.length
  sl : ∀ (i : Nat) (s : Sl), l[i]? = some (some s) → ∃ v, σ[i]? = some (some v) ∧ SlR T K H v s
  ap : ∀ (i j : Nat) (s t : Sl) (a : Addr), i ≠ j → l[i]? = some (some s) → l[j]? = some (some t) → s.chg = true → t.chg = true → σ[i]? = some (some (.ref a)) → σ[j]? = some (some (.ref a)) → False
  mem : MemR T K H m
  stay : Stay T.tq T.free T.B H

/-- an object that no slot tells to be changing -/
structure Fresh (T : Tab) (l : Loc) (σ : L2.St) (p : Addr) : Prop where
  n0 : T.B p = none ∨ p ∈ T.ι
  ng : p ∉ T.γ
  sl : ∀ (j : Nat) (s : Sl), l[j]? = some (some s) → σ[j]? = some (some (.ref p)) → ∃ d, s = .v d

/-- an exception's class, its own dict -/
def ExcR (T : Tab) (K : PySem.W.Frag) (H : Hp) (c : Nat) (fs : List D) (cls : Value) (dd : Option Addr) : Prop :=
  cls = .ref (T.cls c) ∧ ((fs = [] ∧ dd = none) ∨ ∃ d vs, dd = some d ∧ H d = some (.xd ((T.xf c).zip vs).reverse) ∧ Reps T K H vs fs ∧ (T.xf c).length = vs.length)

/-- what is to hold where an expression ends -/
def post {α : Type} (T : Tab) (K : PySem.W.Frag) (W : WX) (r : Res α) (σ : L2.St) (H : Hp) (k : α → Loc → Mem → Hp → Prop) : Prop := match r with
  | .ok a l m => ∀ H', Mono H H' → Rel T K l m σ H' → k a l m H'
  | .ex c fs l m => ∀ cls dd H', Mono H H' → Rel T K l m σ H' → ExcR T K H' c fs cls dd → W cls dd σ H'
  | .bad => False
section
variable {α β : Type} {T : Tab} {K : PySem.W.Frag} {W : WX} {σ : L2.St} {H H' : Hp}
theorem post.mono {r : Res α} {k : α → Loc → Mem → Hp → Prop} (h : post T K W r σ H k) (m : Mono H H') : post T K W r σ H' k := by
  cases r with
  | ok a l mm => exact fun H'' m' R => h H'' (m.trans m') R
  | ex c fs l mm => exact fun cls dd H'' m' R x => h cls dd H'' (m.trans m') R x
  | bad => exact h
theorem post.imp {r : Res α} {k k' : α → Loc → Mem → Hp → Prop} (h : post T K W r σ H k) (i : ∀ a l m H', Mono H H' → Rel T K l m σ H' → k a l m H' → k' a l m H') : post T K W r σ H k' := by
  cases r with
  | ok a l mm => exact fun H'' m' R => i a l mm H'' m' R (h H'' m' R)
  | ex c fs l mm => exact h
  | bad => exact h
theorem post.imp2 {r : Res α} {k k' : α → Loc → Mem → Hp → Prop} (h : post T K W r σ H k) (i : ∀ a l m H', Mono H H' → Rel T K l m σ H' → (∀ H'', Mono H' H'' → Rel T K l m σ H'' → k a l m H'') → k' a l m H') : post T K W r σ H k' := by
  cases r with
  | ok a l mm => exact fun H'' m' R => i a l mm H'' m' R fun H3 m3 R3 => h H3 (m'.trans m3) R3
  | ex c fs l mm => exact h
  | bad => exact h
theorem post.bind {r : Res α} {f : α → Loc → Mem → Res β} {k : β → Loc → Mem → Hp → Prop} (h : post T K W (r.bind f) σ H k) :
    post T K W r σ H fun a l m H' => Rel T K l m σ H' ∧ post T K W (f a l m) σ H' k := by
  cases r with
  | ok a l mm => exact fun H'' m' R => ⟨R, post.mono h m'⟩
  | ex c fs l mm => exact h
  | bad => exact h
end

/-! ### judgements -/
def tD (T : Tab) (K : PySem.W.Frag) (W : WX) (f : Ex) : TE := fun σ H Q => ∃ l m, Rel T K l m σ H ∧ post T K W (f l m) σ H fun d _ _ H' => ∀ v, Rep T K H' v d → Q v H'
def tDA (T : Tab) (K : PySem.W.Frag) (W : WX) (f : Ea) : TA := fun σ H Q => ∃ l m, Rel T K l m σ H ∧ post T K W (f l m) σ H fun ds _ _ H' => ∀ vs, Reps T K H' vs ds → Q vs H'
def tDT (T : Tab) (K : PySem.W.Frag) (W : WX) (f : Et) : TT := fun σ H Q => ∃ l m, Rel T K l m σ H ∧ post T K W (f l m) σ H fun b _ _ H' => Q b H'
/-- an operand: a slot's content is read when the operator comes -/
def OpV (T : Tab) (K : PySem.W.Frag) (σ : L2.St) (H : Hp) (v : V) : Op → Prop
  | .val d => Rep T K H v d
  | .slot i => σ[i]? = some (some v)
def tDP (T : Tab) (K : PySem.W.Frag) (W : WX) (f : Ep) : TE := fun σ H Q => ∃ l m, Rel T K l m σ H ∧ post T K W (f l m) σ H fun o _ _ H' => ∀ v, OpV T K σ H' v o → Q v H'
/-- a fresh object that may still change -/
def tDF (T : Tab) (K : PySem.W.Frag) (W : WX) (f : Ex) : TE := fun σ H Q => ∃ l m, Rel T K l m σ H ∧ post T K W (f l m) σ H fun d l' _ H' => ∀ p, Own T K H' p d → Fresh T l' σ p → Q (.ref p) H'
abbrev DE (T : Tab) (X : Cx) (W : WX) (e : Expr) (f : Ex) : Prop := PE X e (tD T X.K W f)
abbrev DT (T : Tab) (X : Cx) (W : WX) (e : Expr) (f : Et) : Prop := PT X e (tDT T X.K W f)
abbrev DA (T : Tab) (X : Cx) (W : WX) (e : List Expr) (f : Ea) : Prop := L2.PA X e (tDA T X.K W f)
abbrev DO (T : Tab) (X : Cx) (W : WX) (e : Expr) (f : Ep) : Prop := PE X e (tDP T X.K W f)
abbrev DF (T : Tab) (X : Cx) (W : WX) (e : Expr) (f : Ex) : Prop := PE X e (tDF T X.K W f)
def postS (T : Tab) (K : PySem.W.Frag) (W : WX) (r : RS) (D : Ends) (H : Hp) : Prop := match r with
  | .nx l m => ∀ σ' H', Mono H H' → Rel T K l m σ' H' → D.nx σ' H'
  | .rt d l m => ∀ v σ' H', Mono H H' → Rel T K l m σ' H' → Rep T K H' v d → D.rt v H'
  | .bk l m => ∀ σ' H', Mono H H' → Rel T K l m σ' H' → D.bk σ' H'
  | .ct l m => ∀ σ' H', Mono H H' → Rel T K l m σ' H' → D.ct σ' H'
  | .ex c fs l m => ∀ cls dd σ' H', Mono H H' → Rel T K l m σ' H' → ExcR T K H' c fs cls dd → W cls dd σ' H'
  | .bad => False
def tS (T : Tab) (K : PySem.W.Frag) (W : WX) (f : Es) : TS := fun D σ H => ∃ l m, Rel T K l m σ H ∧ postS T K W (f l m) D H
abbrev DSt (T : Tab) (X : Cx) (W : WX) (s : Stmt) (f : Es) : Prop := PS X s (tS T X.K W f)
abbrev DSs (T : Tab) (X : Cx) (W : WX) (s : List Stmt) (f : Es) : Prop := PSs X s (tS T X.K W f)
end DS
end

section
set_option Elab.async false
set_option linter.all false
set_option maxRecDepth 100000
set_option maxHeartbeats 2000000
namespace DS
open PySem PySem.Spec PyProof.Rows L2

theorem pe_weak {X : Cx} {e : Expr} {t t' : TE} (h : PE X e t) (w : ∀ σ H Q, t' σ H Q → t σ H Q) : PE X e t' :=
  ⟨fun pins s σ H Q I q => h.run pins s σ H Q I (w σ H Q q)⟩
theorem pt_weak {X : Cx} {e : Expr} {t t' : TT} (h : PT X e t) (w : ∀ σ H Q, t' σ H Q → t σ H Q) : PT X e t' :=
  ⟨fun pins s σ H Q I q => h.run pins s σ H Q I (w σ H Q q)⟩
theorem pa_weak {X : Cx} {e : List Expr} {t t' : TA} (h : L2.PA X e t) (w : ∀ σ H Q, t' σ H Q → t σ H Q) : L2.PA X e t' :=
  ⟨fun pos pins s σ H Q I q => h.run pos pins s σ H Q I (w σ H Q q)⟩
theorem ps_weak {X : Cx} {s : Stmt} {t t' : TS} (h : PS X s t) (w : ∀ D σ H, t' D σ H → t D σ H) : PS X s t' :=
  ⟨fun pins s σ H D I q => h.run pins s σ H D I (w D σ H q)⟩
theorem pss_weak {X : Cx} {s : List Stmt} {t t' : TS} (h : PSs X s t) (w : ∀ D σ H, t' D σ H → t D σ H) : PSs X s t' :=
  ⟨fun pins s σ H D I q => h.run pins s σ H D I (w D σ H q)⟩

section
variable {T : Tab} {K : PySem.W.Frag} {H H' H1 : Hp} {X : Cx} {W : WX} {l l' : Loc} {m m' : Mem} {σ : L2.St}

/-- all stays, new objects may have come -/
structure Grow (H H' : Hp) : Prop where
  at_ : ∀ a o, H a = some o → (∀ ps, o ≠ .tbl ps) → H' a = some o
  tb : ∀ a ps, H a = some (.tbl ps) → ∃ more, H' a = some (.tbl (ps ++ more))
  tn : ∀ P q, LamX.TabS H P q → LamX.TabS H' P q
theorem Grow.of (h : ∀ a o, H a = some o → H' a = some o) : Grow H H' := ⟨fun a o e _ => h a o e, fun a ps e => ⟨#[], by rw [h a _ e]; simp⟩, fun P q z => tabS_keep z (fun ps e => h _ _ e) fun a φ e => h _ _ e⟩
theorem Grow.refl : Grow H H := .of fun _ _ e => e
theorem Grow.upd {a : Addr} {o : HO} (h : H a = none) : Grow H (upd H a o) := .of fun b u e => by rw [upd_ne (ne_of_none e h)]; exact e
theorem Grow.stay {tq : Addr → Str} {F : List Addr} (g : Grow H H') : Stay tq F H H' := ⟨fun a o e _ n => g.at_ a o e n, g.tb, fun P z => g.tn P _ z⟩
theorem Grow.trans (a : Grow H H1) (b : Grow H1 H') : Grow H H' :=
  let s : Stay (fun _ => "") [] H H' := (a.stay).trans b.stay
  ⟨fun c o e n => s.at_ c o e (by simp) n, s.tb, fun P q z => b.tn P q (a.tn P q z)⟩
theorem Grow.mono (g : Grow H H') : Mono H H' := ⟨fun _ _ _ e => g.at_ _ _ e (fun _ z => nomatch z), fun _ _ e => g.at_ _ _ e (fun _ z => nomatch z), fun _ _ e => g.at_ _ _ e (fun _ z => nomatch z)⟩
theorem MemR.not_γ (M : MemR T K H m) {a : Addr} {o : HO} (e : H a = some o) (h : ¬ Mut (some o) ∨ ∃ φ, o = .ext φ) : a ∉ T.γ := fun hm => by
  obtain ⟨k, hk⟩ := List.getElem?_of_mem hm
  have hlt : k < m.length := by rw [M.len]; exact (List.getElem?_eq_some_iff.mp hk).1
  obtain ⟨o', e', mu, _, _, _, nx⟩ := (M.at_ k a m[k] hk (by simp [hlt])).there
  rw [e] at e'; cases e'
  rcases h with h | ⟨φ, h⟩
  · exact h mu
  · exact nx φ h
theorem Stay.mono (s : Stay T.tq T.γ H H') (M : MemR T K H m) : Mono H H' :=
  ⟨fun a o u e => s.at_ a _ e (M.not_γ e (.inl fun z => z)) (fun _ z => nomatch z), fun a xs e => s.at_ a _ e (M.not_γ e (.inl fun z => z)) (fun _ z => nomatch z),
    fun a φ e => s.at_ a _ e (M.not_γ e (.inr ⟨φ, rfl⟩)) (fun _ z => nomatch z)⟩
theorem MemR.grow (M : MemR T K H m) (g : Grow H H') : MemR T K H' m := ⟨M.len, M.nd, fun P hP => g.tn P _ (M.tb P hP), fun k a d h1 h2 => by
  have o := M.at_ k a d h1 h2
  obtain ⟨u, e, _, _, _, nt, _⟩ := o.there
  exact o.mono g.mono ((g.at_ _ _ e nt).trans e.symm)⟩
theorem SlR.keep (h : SlR T K H v s) (mo : Mono H H') (k : ∀ a o, H a = some o → a ∉ T.γ → (∀ ps, o ≠ .tbl ps) → H' a = some o) : SlR T K H' v s := by
  cases s with
  | v d => exact Rep.mono mo h
  | o d =>
    obtain ⟨a, e, ow, n, ng⟩ := h
    obtain ⟨u, eu, _, _, _, nt, _⟩ := ow.there
    exact ⟨a, e, ow.mono mo ((k a u eu ng nt).trans eu.symm), n, ng⟩
  | r d =>
    obtain ⟨a, e, ow, n, ng⟩ := h
    obtain ⟨u, eu, _, _, _, nt, _⟩ := ow.there
    exact ⟨a, e, ow.mono mo ((k a u eu ng nt).trans eu.symm), n, ng⟩
  | s d =>
    obtain ⟨a, e, ow, n, ng⟩ := h
    obtain ⟨u, eu, _, _, _, nt, _⟩ := ow.there
    exact ⟨a, e, ow.mono mo ((k a u eu ng nt).trans eu.symm), n, ng⟩
theorem Rel.grow (R : Rel T K l m σ H) (g : Grow H H') : Rel T K l m σ H' := ⟨R.len, fun i s e => by
    obtain ⟨v, h1, h2⟩ := R.sl i s e
    exact ⟨v, h1, h2.keep g.mono fun a o e _ nt => g.at_ a o e nt⟩, R.ap, R.mem.grow g, R.stay.trans g.stay⟩
/-- behind a call -/
theorem Rel.call (R : Rel T K l m σ H) (s : Stay T.tq T.γ H H') (M : MemR T K H' m') : Rel T K l m' σ H' := ⟨R.len, fun i s' e => by
    obtain ⟨v, h1, h2⟩ := R.sl i s' e
    exact ⟨v, h1, h2.keep (s.mono R.mem) s.at_⟩, R.ap, M, R.stay.trans (s.sub fun _ z => List.mem_append_left _ z)⟩
theorem Rel.lt (R : Rel T K l m σ H) {i : Nat} {s : Option Sl} (e : l[i]? = some s) : i < σ.length := by rw [R.len]; exact (List.getElem?_eq_some_iff.mp e).1
/-- a value comes into a slot -/
theorem Rel.set (R : Rel T K l m σ H) {i : Nat} {v : V} {d : D} (r : Rep T K H v d) : Rel T K (l.set i (some (.v d))) m (σ.set i (some v)) H := by
  refine ⟨by simp [R.len], fun j s e => ?_, fun j k s1 s2 a hjk e1 e2 c1 c2 e3 e4 => ?_, R.mem, R.stay⟩
  · by_cases hj : j = i
    · subst hj
      have hlt : j < l.length := by
        have := (List.getElem?_eq_some_iff.mp e).1
        simpa using this
      rw [List.getElem?_set_self hlt] at e
      cases e
      exact ⟨v, List.getElem?_set_self (by rw [R.len]; exact hlt), r⟩
    · rw [List.getElem?_set_ne (Ne.symm hj)] at e
      obtain ⟨u, h1, h2⟩ := R.sl j s e
      exact ⟨u, by rw [List.getElem?_set_ne (Ne.symm hj)]; exact h1, h2⟩
  · have q1 : j ≠ i := by
      rintro rfl
      have hlt : j < l.length := by
        have := (List.getElem?_eq_some_iff.mp e1).1
        simpa using this
      rw [List.getElem?_set_self hlt] at e1
      cases e1
      cases c1
    have q2 : k ≠ i := by
      rintro rfl
      have hlt : k < l.length := by
        have := (List.getElem?_eq_some_iff.mp e2).1
        simpa using this
      rw [List.getElem?_set_self hlt] at e2
      cases e2
      cases c2
    rw [List.getElem?_set_ne (Ne.symm q1)] at e1 e3
    rw [List.getElem?_set_ne (Ne.symm q2)] at e2 e4
    exact R.ap j k s1 s2 a hjk e1 e2 c1 c2 e3 e4
/-- a new object of the frame's own comes into a slot -/
theorem Rel.setO (R : Rel T K l m σ H) {i : Nat} {p : Addr} {d : D} (o : Own T K H p d) (F : Fresh T l σ p) : Rel T K (l.set i (some (.o d))) m (σ.set i (some (.ref p))) H := by
  have hl : ∀ {j : Nat} {w : Option Sl}, (l.set i (some (.o d)))[j]? = some w → j < l.length := fun e => by
    have := (List.getElem?_eq_some_iff.mp e).1
    simpa using this
  have nw : ∀ {j : Nat} {s : Sl}, l[j]? = some (some s) → s.chg = true → σ[j]? = some (some (.ref p)) → False := fun e c h => by
    obtain ⟨d', e'⟩ := F.sl _ _ e h
    subst e'
    cases c
  refine ⟨by simp [R.len], fun j s e => ?_, fun j k s1 s2 a hjk e1 e2 c1 c2 e3 e4 => ?_, R.mem, R.stay⟩
  · by_cases hj : j = i
    · subst hj
      have hlt := hl e
      rw [List.getElem?_set_self hlt] at e
      cases e
      exact ⟨.ref p, List.getElem?_set_self (by rw [R.len]; exact hlt), p, rfl, o, F.n0, F.ng⟩
    · rw [List.getElem?_set_ne (Ne.symm hj)] at e
      obtain ⟨u, h1, h2⟩ := R.sl j s e
      exact ⟨u, by rw [List.getElem?_set_ne (Ne.symm hj)]; exact h1, h2⟩
  · by_cases q1 : j = i
    · by_cases q2 : k = i
      · exact hjk (q1.trans q2.symm)
      · subst q1
        rw [List.getElem?_set_self (by rw [R.len]; exact hl e1)] at e3
        rw [List.getElem?_set_ne (Ne.symm q2)] at e2 e4
        cases e3
        exact nw e2 c2 e4
    · by_cases q2 : k = i
      · subst q2
        rw [List.getElem?_set_self (by rw [R.len]; exact hl e2)] at e4
        rw [List.getElem?_set_ne (Ne.symm q1)] at e1 e3
        cases e4
        exact nw e1 c1 e3
      · rw [List.getElem?_set_ne (Ne.symm q1)] at e1 e3
        rw [List.getElem?_set_ne (Ne.symm q2)] at e2 e4
        exact R.ap j k s1 s2 a hjk e1 e2 c1 c2 e3 e4
/-- the object at a is never changed again -/
def fzO (o : Obj) : HO → HO := .frz o
theorem Mono.fz {a : Addr} {u : HO} {o : Obj} (e : H a = some u) (mu : Mut (some u)) (nx : ∀ φ, u ≠ .ext φ) : Mono H (upd H a (.frz o u)) := by
  have ne : ∀ b w, H b = some w → w ≠ u → b ≠ a := fun b w h n z => by subst z; rw [e] at h; exact n (Option.some.inj h).symm
  refine ⟨fun b q w h => ?_, fun b xs h => ?_, fun b φ h => ?_⟩
  · rw [upd_ne (ne b _ h (by rintro rfl; exact mu))]; exact h
  · rw [upd_ne (ne b _ h (by rintro rfl; exact mu))]; exact h
  · rw [upd_ne (ne b _ h (Ne.symm (nx φ)))]; exact h
theorem Own.fz {a : Addr} {d : D} {u : HO} {o : Obj} (w : Own T K H a d) (e : H a = some u) : Rep T K (upd H a (.frz o u)) (.ref a) d := by
  obtain ⟨u', e', mu, _, _, _, nx⟩ := w.there
  rw [e] at e'; cases e'
  have mo : Mono H (upd H a (.frz o u)) := Mono.fz e mu nx
  cases w with
  | lst p r => rw [e] at p; cases p; exact .lst ⟨o, upd_same⟩ (r.mono mo)
  | dct p r => rw [e] at p; cases p; exact .dct upd_same (r.mono mo)
  | ins p r => rw [e] at p; cases p; exact .ins upd_same (r.mono mo)
theorem Rel.fz (R : Rel T K l m σ H) {i : Nat} {d : D} {a : Addr} {u : HO} {o : Obj} (hi : l[i]? = some (some (.o d))) (hs : σ[i]? = some (some (.ref a))) (e : H a = some u) :
    Mono H (upd H a (.frz o u)) ∧ Rep T K (upd H a (.frz o u)) (.ref a) d ∧ Rel T K (l.set i (some (.v d))) m σ (upd H a (.frz o u)) := by
  obtain ⟨v, h1, h2⟩ := R.sl i _ hi
  rw [hs] at h1; cases h1
  obtain ⟨a', ea, ow, n0, ng⟩ := h2
  cases ea
  obtain ⟨u', e', mu, _, _, nt, nx⟩ := ow.there
  rw [e] at e'; cases e'
  have mo : Mono H (upd H a (.frz o u)) := Mono.fz e mu nx
  have rp := ow.fz (o := o) e
  have keep : ∀ b w, H b = some w → b ≠ a → upd H a (.frz o u) b = some w := fun b w h q => by rw [upd_ne q]; exact h
  have hlt : i < l.length := (List.getElem?_eq_some_iff.mp hi).1
  refine ⟨mo, rp, by simp [R.len], fun j s ej => ?_, fun j k s1 s2 b hjk e1 e2 c1 c2 e3 e4 => ?_, ⟨R.mem.len, R.mem.nd, fun P hP => tabS_keep (R.mem.tb P hP) (fun ps e2 => keep _ _ e2 (by rintro rfl; rw [e] at e2; exact nt _ (Option.some.inj e2))) mo.ext, fun k b d' hk hm => ?_⟩, fun b w hb ngb ntb => ?_, fun b ps hb => ?_, fun P z => tabS_keep (R.stay.tn P z) (fun ps e2 => keep _ _ e2 (by rintro rfl; rw [e] at e2; exact nt _ (Option.some.inj e2))) mo.ext⟩
  · by_cases hj : j = i
    · subst hj
      rw [List.getElem?_set_self hlt] at ej
      cases ej
      exact ⟨_, hs, rp⟩
    · rw [List.getElem?_set_ne (Ne.symm hj)] at ej
      obtain ⟨v, h1, h2⟩ := R.sl j s ej
      refine ⟨v, h1, ?_⟩
      cases s with
      | v d' => exact Rep.mono mo h2
      | o d' =>
        obtain ⟨b, eb, owb, nb, ngb⟩ := h2
        subst eb
        obtain ⟨w, ew, _⟩ := owb.there
        have q : b ≠ a := by
          rintro rfl
          exact R.ap j i _ _ b hj ej hi rfl rfl h1 hs
        exact ⟨b, rfl, owb.mono mo ((keep b w ew q).trans ew.symm), nb, ngb⟩
      | s d' =>
        obtain ⟨b, eb, owb, nb, ngb⟩ := h2
        subst eb
        obtain ⟨w, ew, _⟩ := owb.there
        have q : b ≠ a := by
          rintro rfl
          exact R.ap j i _ _ b hj ej hi rfl rfl h1 hs
        exact ⟨b, rfl, owb.mono mo ((keep b w ew q).trans ew.symm), nb, ngb⟩
      | r d' =>
        obtain ⟨b, eb, owb, ⟨⟨ob, nb⟩, nι⟩, ngb⟩ := h2
        subst eb
        obtain ⟨w, ew, _⟩ := owb.there
        have q : b ≠ a := by
          rintro rfl
          rcases n0 with n0 | n0
          · rw [n0] at nb; cases nb
          · exact nι n0
        exact ⟨b, rfl, owb.mono mo ((keep b w ew q).trans ew.symm), ⟨⟨ob, nb⟩, nι⟩, ngb⟩
  · have q1 : j ≠ i := by
      rintro rfl
      rw [List.getElem?_set_self hlt] at e1; cases e1; cases c1
    have q2 : k ≠ i := by
      rintro rfl
      rw [List.getElem?_set_self hlt] at e2; cases e2; cases c2
    rw [List.getElem?_set_ne (Ne.symm q1)] at e1
    rw [List.getElem?_set_ne (Ne.symm q2)] at e2
    exact R.ap j k s1 s2 b hjk e1 e2 c1 c2 e3 e4
  · have owb := R.mem.at_ k b d' hk hm
    obtain ⟨w, ew, _⟩ := owb.there
    have q : b ≠ a := by
      rintro rfl
      exact ng (List.mem_of_getElem? hk)
    exact owb.mono mo ((keep b w ew q).trans ew.symm)
  · have q : b ≠ a := by
      rintro rfl
      rcases n0 with n0 | n0
      · rw [n0] at hb; cases hb
      · exact ngb (List.mem_append_right _ n0)
    exact keep b w (R.stay.at_ b w hb ngb ntb) q
  · obtain ⟨more, e2⟩ := R.stay.tb b ps hb
    have q : b ≠ a := by
      rintro rfl
      rw [e] at e2
      exact nt _ (Option.some.inj e2)
    exact ⟨more, keep b _ e2 q⟩
theorem MemR.none_γ {K : PySem.W.Frag} (M : MemR T K H m) {p : Addr} (hp : H p = none) : p ∉ T.γ := fun hm => by
  obtain ⟨k, hk⟩ := List.getElem?_of_mem hm
  have hlt : k < m.length := by rw [M.len]; exact (List.getElem?_eq_some_iff.mp hk).1
  obtain ⟨o', e', _⟩ := (M.at_ k p m[k] hk (by simp [hlt])).there
  rw [hp] at e'; cases e'
theorem Rel.fresh (R : Rel T K l m σ H1) {a : Addr} (n1 : H1 a = none) : Fresh T l σ a := by
  have ng := R.mem.none_γ n1
  refine ⟨?_, ng, fun j s ej hs => ?_⟩
  · cases q : T.B a with
    | none => exact .inl rfl
    | some w =>
      by_cases hw : ∃ ps, w = .tbl ps
      · obtain ⟨ps, rfl⟩ := hw
        obtain ⟨more, e2⟩ := R.stay.tb a ps q
        rw [n1] at e2; cases e2
      · by_cases hι : a ∈ T.ι
        · exact .inr hι
        · have := R.stay.at_ a w q (fun z => (List.mem_append.mp z).elim ng hι) fun ps z => hw ⟨ps, z⟩
          rw [n1] at this; cases this
  · obtain ⟨v', h1', h2'⟩ := R.sl j s ej
    rw [hs] at h1'; cases h1'
    cases s with
    | v d => exact ⟨d, rfl⟩
    | o d =>
      obtain ⟨b', eb, owb, _⟩ := h2'
      cases eb
      obtain ⟨w, ew, _⟩ := owb.there
      rw [n1] at ew; cases ew
    | r d =>
      obtain ⟨b', eb, owb, _⟩ := h2'
      cases eb
      obtain ⟨w, ew, _⟩ := owb.there
      rw [n1] at ew; cases ew
    | s d =>
      obtain ⟨b', eb, owb, _⟩ := h2'
      cases eb
      obtain ⟨w, ew, _⟩ := owb.there
      rw [n1] at ew; cases ew
/-- a new object is never changed again -/
theorem Rel.fzN {H2 : Hp} (R2 : Rel T K l m σ H2) {d : D} {a : Addr} {u : HO} {o : Obj} (F : Fresh T l σ a) (ow : Own T K H2 a d) (e : H2 a = some u) :
    Mono H2 (upd H2 a (.frz o u)) ∧ Rep T K (upd H2 a (.frz o u)) (.ref a) d ∧ Rel T K l m σ (upd H2 a (.frz o u)) := by
  obtain ⟨u', e', mu, _, _, nt, nx⟩ := ow.there
  rw [e] at e'; cases e'
  have mo : Mono H2 (upd H2 a (.frz o u)) := Mono.fz e mu nx
  have keep : ∀ b w, H2 b = some w → b ≠ a → upd H2 a (.frz o u) b = some w := fun b w h q => by rw [upd_ne q]; exact h
  refine ⟨mo, ow.fz e, R2.len, fun j s ej => ?_, R2.ap, ⟨R2.mem.len, R2.mem.nd, fun P hP => tabS_keep (R2.mem.tb P hP) (fun ps e2 => keep _ _ e2 (by rintro rfl; rw [e] at e2; exact nt _ (Option.some.inj e2))) mo.ext, fun k b d' hk hm => ?_⟩, fun b w hb ngb ntb => ?_, fun b ps hb => ?_, fun P z => tabS_keep (R2.stay.tn P z) (fun ps e2 => keep _ _ e2 (by rintro rfl; rw [e] at e2; exact nt _ (Option.some.inj e2))) mo.ext⟩
  · obtain ⟨v, h1, h2⟩ := R2.sl j s ej
    refine ⟨v, h1, ?_⟩
    have q1 : ∀ b, v = .ref b → (∃ d, s = .o d ∨ s = .r d ∨ s = .s d) → b ≠ a := by
      rintro b rfl ⟨d', hd⟩ rfl
      obtain ⟨d2, e2⟩ := F.sl j s ej h1
      rcases hd with rfl | rfl | rfl <;> cases e2
    cases s with
    | v d' => exact Rep.mono mo h2
    | o d' =>
      obtain ⟨b, eb, owb, nb, ngb⟩ := h2
      obtain ⟨w, ew, _⟩ := owb.there
      exact ⟨b, eb, owb.mono mo ((keep b w ew (q1 b eb ⟨d', .inl rfl⟩)).trans ew.symm), nb, ngb⟩
    | r d' =>
      obtain ⟨b, eb, owb, nb, ngb⟩ := h2
      obtain ⟨w, ew, _⟩ := owb.there
      exact ⟨b, eb, owb.mono mo ((keep b w ew (q1 b eb ⟨d', .inr (.inl rfl)⟩)).trans ew.symm), nb, ngb⟩
    | s d' =>
      obtain ⟨b, eb, owb, nb, ngb⟩ := h2
      obtain ⟨w, ew, _⟩ := owb.there
      exact ⟨b, eb, owb.mono mo ((keep b w ew (q1 b eb ⟨d', .inr (.inr rfl)⟩)).trans ew.symm), nb, ngb⟩
  · have owb := R2.mem.at_ k b d' hk hm
    obtain ⟨w, ew, _⟩ := owb.there
    have q : b ≠ a := by
      rintro rfl
      exact F.ng (List.mem_of_getElem? hk)
    exact owb.mono mo ((keep b w ew q).trans ew.symm)
  · have q : b ≠ a := by
      rintro rfl
      rcases F.n0 with n0 | n0
      · rw [n0] at hb; cases hb
      · exact ngb (List.mem_append_right _ n0)
    exact keep b w (R2.stay.at_ b w hb ngb ntb) q
  · obtain ⟨more, e2⟩ := R2.stay.tb b ps hb
    have q : b ≠ a := by
      rintro rfl
      rw [e] at e2
      exact nt _ (Option.some.inj e2)
    exact ⟨more, keep b _ e2 q⟩
end

/-! ### a thing is never changed again, from here on -/
def tFz (t : TE) : TE := fun σ H Q => t σ H fun v H1 => Q v H1 ∨ ∃ a u, v = .ref a ∧ H1 a = some u ∧ Mut (some u) ∧ ∀ o, Q v (upd H1 a (.frz o u))
theorem pe_fz {X : Cx} {e : Expr} {t : TE} (h : PE X e t) : PE X e (tFz t) := by
  refine ⟨fun pins s σ H Q I q => ?_⟩
  refine thn (h.run pins s σ H _ I q) fun v s1 ⟨x, H1, I1, r1, q1⟩ => ?_
  rcases q1 with q1 | ⟨a, u, ex, ea, mu, q1⟩
  · exact ⟨x, H1, I1, r1, q1⟩
  · subst ex
    obtain ⟨od, I2⟩ := I1.lock ea mu
    exact ⟨_, _, I2, r1, q1 od⟩

/-! ### names and constants -/
section
variable {T : Tab} {X : Cx} {W : WX} {pos : Pos}
theorem de_con {e : Expr} {d : D} {v : V} (h : PE X e (tC v)) (r : ∀ H, Rep T X.K H v d) : DE T X W e (eC d) := pe_weak h fun σ H Q ⟨l, m, R, q⟩ => q H Mono.refl R v (r H)
theorem de_int {i j} : DE T X W (.Constant (.int i) j pos) (eC (.int i)) := de_con pe_int fun _ => .int i
theorem de_bl {b j} : DE T X W (.Constant (.bool b) j pos) (eC (.bl b)) := de_con pe_bl fun _ => .bl b
theorem de_non {j} : DE T X W (.Constant .none j pos) (eC .non) := de_con pe_non fun _ => .non
theorem de_str {x : Str} {j} {l : List Nat} (h : x = tx l := by rfl) (b : (l.all (fun c => decide (c < 1114112)) && decide (l.length ≤ 16777216)) = true := by decide) : DE T X W (.Constant (.str x) j pos) (eC (.str l)) := de_con pe_str fun _ => by
  rw [Bool.and_eq_true] at b
  rw [h]; exact .str l (by simpa using b.1) (of_decide_eq_true b.2)
theorem de_var {i : Nat} {e : Expr} (h : PE X e (tVar i)) : DE T X W e (eV i) := pe_weak (pe_fz h) fun σ H Q ⟨l, m, R, q⟩ => by
  unfold eV at q
  split at q
  · rename_i d hd
    obtain ⟨v, h1, h2⟩ := R.sl i _ hd
    exact ⟨v, h1, .inl (q H Mono.refl R v h2)⟩
  · rename_i d hd
    obtain ⟨v, h1, h2⟩ := R.sl i _ hd
    obtain ⟨a, ea, ow, n0, ng⟩ := h2
    subst ea
    obtain ⟨u, eu, mu, _⟩ := ow.there
    refine ⟨_, h1, .inr ⟨a, u, rfl, eu, mu, fun o => ?_⟩⟩
    obtain ⟨mo, rp, R'⟩ := R.fz (o := o) hd h1 eu
    exact q _ mo R' _ rp
  · exact q.elim
theorem do_var {i : Nat} {e : Expr} (h : PE X e (tVar i)) : DO T X W e (pV i) := pe_weak h fun σ H Q ⟨l, m, R, q⟩ => by
  unfold pV at q
  split at q
  · rename_i s hd
    obtain ⟨v, h1, h2⟩ := R.sl i _ hd
    exact ⟨v, h1, q H Mono.refl R v h1⟩
  · exact q.elim
theorem do_val {e : Expr} {f : Ex} (h : DE T X W e f) : DO T X W e (pE f) := pe_weak h fun σ H Q ⟨l, m, R, q⟩ =>
  ⟨l, m, R, (post.bind q).imp fun d l1 m1 H1 mo R1 q1 v r => q1.2 H1 Mono.refl R1 v r⟩
/-- a fresh thing as a value -/
theorem de_fz {e : Expr} {f : Ex} (h : DF T X W e f) : DE T X W e f := pe_weak (pe_fz h) fun σ H Q ⟨l, m, R, q⟩ =>
  ⟨l, m, R, q.imp2 fun d l1 m1 H1 mo R1 q1 p ow F => by
    obtain ⟨u, eu, mu, _⟩ := ow.there
    refine .inr ⟨p, u, rfl, eu, mu, fun o => ?_⟩
    obtain ⟨mo3, rp, R3⟩ := R1.fzN (o := o) F ow eu
    exact q1 _ mo3 R3 _ rp⟩
end
end DS
end

section
set_option Elab.async false
set_option linter.all false
set_option maxRecDepth 100000
set_option maxHeartbeats 2000000
namespace DS
open PySem PySem.Spec PyProof.Rows L2

/-! ### data -/
mutual
def toPy : D → PyData
  | .non => .none
  | .bl b => .bool b
  | .int i => .int i
  | .str x => .str (tx x)
  | .tup xs => .tuple (toPys xs)
  | .lst xs => .list (toPys xs)
  | _ => .none
termination_by structural x => x
def toPys : List D → List PyData
  | [] => []
  | x :: xs => toPy x :: toPys xs
termination_by structural x => x
end
theorem tx_beq (a b : List Nat) : (tx a == tx b) = (a == b) := by
  by_cases h : a = b
  · subst h; simp
  · have h' : tx a ≠ tx b := fun e => h (by
      have := congrArg (fun s : Str => s.cps.toList) e
      simpa [tx] using this)
    rw [beq_eq_false_iff_ne.mpr h, beq_eq_false_iff_ne.mpr h']
mutual
theorem toPy_eqv : ∀ (n k : Nat) (a b : D), D.dat n a = true → D.dat k b = true → PyData.eqv (toPy a) (toPy b) = D.eqv a b
  | n, k, a, b, ha, hb => by
    cases a <;> first | (simp [D.dat] at ha; done) | skip
    all_goals (cases b <;> first | (simp [D.dat] at hb; done) | (simp [toPy, PyData.eqv, D.eqv, tx_beq]; done) | skip)
    · rename_i xs ys
      cases n with
      | zero => simp [D.dat] at ha
      | succ n =>
        cases k with
        | zero => simp [D.dat] at hb
        | succ k => simpa [toPy, PyData.eqv, D.eqv] using toPys_eqv n k xs ys (by simpa [D.dat] using ha) (by simpa [D.dat] using hb)
    · rename_i xs ys
      cases n with
      | zero => simp [D.dat] at ha
      | succ n =>
        cases k with
        | zero => simp [D.dat] at hb
        | succ k => simpa [toPy, PyData.eqv, D.eqv] using toPys_eqv n k xs ys (by simpa [D.dat] using ha) (by simpa [D.dat] using hb)
theorem toPys_eqv : ∀ (n k : Nat) (a b : List D), D.dats n a = true → D.dats k b = true → PyData.eqvAll (toPys a) (toPys b) = D.eqvs a b
  | _, _, [], [], _, _ => by simp [toPys, PyData.eqvAll, D.eqvs]
  | _, _, [], _ :: _, _, _ => by simp [toPys, PyData.eqvAll, D.eqvs]
  | _, _, _ :: _, [], _, _ => by simp [toPys, PyData.eqvAll, D.eqvs]
  | n, k, a :: as, b :: bs, ha, hb => by
    simp only [D.dats, Bool.and_eq_true] at ha hb
    simp [toPys, PyData.eqvAll, D.eqvs, toPy_eqv n k a b ha.1 hb.1, toPys_eqv n k as bs ha.2 hb.2]
end
section
variable {T : Tab} {K : PySem.W.Frag} {H : Hp}
mutual
theorem Rep.dp : ∀ {n : Nat} {v : V} {d : D}, Rep T K H v d → D.dat n d = true → Dp K H v (toPy d) ∧ (toPy d).canLay0 = true ∧ (toPy d).depth ≤ n
  | n, _, _, .non, _ => ⟨.non, by simp [toPy, PyData.canLay0], by simp [toPy, PyData.depth]⟩
  | n, _, _, .bl b, _ => ⟨.bl b, by simp [toPy, PyData.canLay0], by simp [toPy, PyData.depth]⟩
  | n, _, _, .int i, _ => ⟨.int i, by simp [toPy, PyData.canLay0], by simp [toPy, PyData.depth]⟩
  | n, _, _, .str l b _, _ => ⟨.str _, by simpa [toPy, PyData.canLay0, PyData.strOk, tx] using b, by simp [toPy, PyData.depth]⟩
  | 0, _, _, .tup s r, h => by simp [D.dat] at h
  | n + 1, _, _, .tup s r, h => by
    obtain ⟨a, b, c⟩ := Reps.dp (n := n) r (by simpa [D.dat] using h)
    exact ⟨.tup s a, by simpa [toPy, PyData.canLay0] using b, by simpa [toPy, PyData.depth] using c⟩
  | 0, _, _, .lst s r, h => by simp [D.dat] at h
  | n + 1, _, _, .lst s r, h => by
    obtain ⟨a, b, c⟩ := Reps.dp (n := n) r (by simpa [D.dat] using h)
    exact ⟨.lst s.sq a, by simpa [toPy, PyData.canLay0] using b, by simpa [toPy, PyData.depth] using c⟩
  | n, _, _, .dct e r, h => by simp [D.dat] at h
  | n, _, _, .ins e r, h => by simp [D.dat] at h
  | n, _, _, .lam e r, h => by simp [D.dat] at h
  | n, _, _, .cell e, h => by simp [D.dat] at h
theorem Reps.dp : ∀ {n : Nat} {vs : List V} {ds : List D}, Reps T K H vs ds → D.dats n ds = true → DpAll K H vs (toPys ds) ∧ PyData.canLayAll0 (toPys ds) = true ∧ PyData.depthAll (toPys ds) ≤ n
  | n, _, _, .nil, _ => ⟨.nil, by simp [toPys, PyData.canLayAll0], by simp [toPys, PyData.depthAll]⟩
  | n, _, _, .cons r t, h => by
    simp only [D.dats, Bool.and_eq_true] at h
    obtain ⟨a, b, c⟩ := Rep.dp r h.1
    obtain ⟨a', b', c'⟩ := Reps.dp t h.2
    exact ⟨.cons a a', by simp [toPys, PyData.canLayAll0, b, b'], by simp only [toPys, PyData.depthAll]; omega⟩
end
/-- readable things, by kind -/
theorem RepR.int {v : V} {i : Int} (h : RepR T K H v (.int i)) : v = .int i := by
  rcases h with h | ⟨a, e, h⟩
  · cases h; rfl
  · cases h
theorem RepR.bl {v : V} {b : Bool} (h : RepR T K H v (.bl b)) : v = .bl b := by
  rcases h with h | ⟨a, e, h⟩
  · cases h; rfl
  · cases h
theorem RepR.non {v : V} (h : RepR T K H v .non) : v = .non := by
  rcases h with h | ⟨a, e, h⟩
  · cases h; rfl
  · cases h
theorem RepR.str {v : V} {l : List Nat} (h : RepR T K H v (.str l)) : v = .str (tx l) ∧ (∀ c ∈ l, c < 1114112) ∧ l.length ≤ 16777216 := by
  rcases h with h | ⟨a, e, h⟩
  · cases h with
    | str _ b z => exact ⟨rfl, b, z⟩
  · cases h
theorem RepR.tup {v : V} {ds : List D} (h : RepR T K H v (.tup ds)) : ∃ a xs, v = .ref a ∧ SqT K H a xs ∧ Reps T K H xs ds := by
  rcases h with h | ⟨a, e, h⟩
  · cases h with
    | tup s r => exact ⟨_, _, rfl, s, r⟩
  · cases h
theorem RepR.lst {v : V} {ds : List D} (h : RepR T K H v (.lst ds)) : ∃ a xs, v = .ref a ∧ Rd H a (.lst xs) ∧ Reps T K H xs ds := by
  rcases h with h | ⟨a, e, h⟩
  · cases h with
    | lst s r => exact ⟨_, _, rfl, .inr s, r⟩
  · cases h with
    | lst p r => exact ⟨_, _, e, .inl p, r⟩
theorem RepR.dct {v : V} {ds : List (D × D)} (h : RepR T K H v (.dct ds)) : ∃ a kvs, v = .ref a ∧ Rd H a (.dK kvs) ∧ RepKs T K H kvs ds := by
  rcases h with h | ⟨a, e, h⟩
  · cases h with
    | dct s r => exact ⟨_, _, rfl, .inr ⟨_, s⟩, r⟩
  · cases h with
    | dct p r => exact ⟨_, _, e, .inl p, r⟩
theorem RepR.ins {v : V} {c : Nat} {ds : List (Nat × D)} (h : RepR T K H v (.ins c ds)) : ∃ a dx fs, v = .ref a ∧ Rd H a (.ins (T.cls c) dx fs) ∧ RepFs T K H fs ds := by
  rcases h with h | ⟨a, e, h⟩
  · cases h with
    | ins s r => exact ⟨_, _, _, rfl, .inr ⟨_, s⟩, r⟩
  · cases h with
    | ins p r => exact ⟨_, _, _, e, .inl p, r⟩
theorem RepR.dp {n : Nat} {v : V} {d : D} (h : RepR T K H v d) (hd : D.dat n d = true) : Dp K H v (toPy d) ∧ (toPy d).canLay0 = true ∧ (toPy d).depth ≤ n := by
  rcases h with h | ⟨a, e, h⟩
  · exact h.dp hd
  · subst e
    cases h with
    | lst p r =>
      cases n with
      | zero => simp [D.dat] at hd
      | succ n =>
        obtain ⟨a, b, c⟩ := Reps.dp (n := n) r (by simpa [D.dat] using hd)
        exact ⟨.lst (.inl (.inl p)) a, by simpa [toPy, PyData.canLay0] using b, by simpa [toPy, PyData.depth] using c⟩
    | dct p r => simp [D.dat] at hd
    | ins p r => simp [D.dat] at hd
theorem RepR.shaped {v : V} {d : D} (h : RepR T K H v d) (hd : D.dat 8 d = true) : Dp K H v (toPy d) ∧ SeqAt.shaped (toPy d) = true := by
  obtain ⟨a, b, c⟩ := h.dp hd
  refine ⟨a, ?_⟩
  unfold SeqAt.shaped
  rw [b, Bool.true_and]
  exact decide_eq_true (by omega)
end

mutual
theorem toPy_alike : ∀ (n k : Nat) (a b : D), D.dat n a = true → D.dat k b = true → D.alike a b = true → PySem.W.alike (toPy a) (toPy b) = true
  | n, k, a, b, ha, hb, h => by
    cases a <;> first | (simp [D.dat] at ha; done) | skip
    all_goals (cases b <;> first | (simp [D.dat] at hb; done) | (simp [D.alike] at h; done) | (simp [toPy, PySem.W.alike]; done) | skip)
    · rename_i xs ys
      cases n with
      | zero => simp [D.dat] at ha
      | succ n =>
        cases k with
        | zero => simp [D.dat] at hb
        | succ k => simpa [toPy, PySem.W.alike] using toPys_alike n k xs ys (by simpa [D.dat] using ha) (by simpa [D.dat] using hb) (by simpa [D.alike] using h)
    · rename_i xs ys
      cases n with
      | zero => simp [D.dat] at ha
      | succ n =>
        cases k with
        | zero => simp [D.dat] at hb
        | succ k => simpa [toPy, PySem.W.alike] using toPys_alike n k xs ys (by simpa [D.dat] using ha) (by simpa [D.dat] using hb) (by simpa [D.alike] using h)
theorem toPys_alike : ∀ (n k : Nat) (a b : List D), D.dats n a = true → D.dats k b = true → D.alikes a b = true → PySem.W.alikeAll (toPys a) (toPys b) = true
  | _, _, [], [], _, _, _ => by simp [toPys, PySem.W.alikeAll]
  | _, _, [], _ :: _, _, _, _ => by simp [toPys, PySem.W.alikeAll]
  | _, _, _ :: _, [], _, _, _ => by simp [toPys, PySem.W.alikeAll]
  | n, k, a :: as, b :: bs, ha, hb, h => by
    simp only [D.dats, Bool.and_eq_true] at ha hb
    simp only [D.alikes, Bool.and_eq_true] at h
    simp [toPys, PySem.W.alikeAll, toPy_alike n k a b ha.1 hb.1 h.1, toPys_alike n k as bs ha.2 hb.2 h.2]
end
mutual
theorem toPy_lt : ∀ (n k : Nat) (a b : D), D.dat n a = true → D.dat k b = true → D.alike a b = true → PySem.W.dataLt (toPy a) (toPy b) = D.lt a b
  | n, k, a, b, ha, hb, h => by
    cases a <;> first | (simp [D.dat] at ha; done) | skip
    all_goals (cases b <;> first | (simp [D.dat] at hb; done) | (simp [D.alike] at h; done) | skip)
    · rfl
    · rename_i x y
      simp only [toPy, D.lt]
      rw [PySem.W.dataLt_bool]
      cases x <;> cases y <;> rfl
    · simp only [toPy, D.lt]
      rw [PySem.W.dataLt_int]
    · simp only [toPy, D.lt]
      rw [PySem.W.dataLt_str]
      exact decide_eq_decide.mpr (by simp [tx])
    · rename_i xs ys
      cases n with
      | zero => simp [D.dat] at ha
      | succ n =>
        cases k with
        | zero => simp [D.dat] at hb
        | succ k =>
          simp only [toPy, D.lt]
          rw [PySem.W.dataLt_tuple]
          exact toPys_lt n k xs ys (by simpa [D.dat] using ha) (by simpa [D.dat] using hb) (by simpa [D.alike] using h)
    · rename_i xs ys
      cases n with
      | zero => simp [D.dat] at ha
      | succ n =>
        cases k with
        | zero => simp [D.dat] at hb
        | succ k =>
          simp only [toPy, D.lt]
          rw [PySem.W.dataLt_list]
          exact toPys_lt n k xs ys (by simpa [D.dat] using ha) (by simpa [D.dat] using hb) (by simpa [D.alike] using h)
theorem toPys_lt : ∀ (n k : Nat) (a b : List D), D.dats n a = true → D.dats k b = true → D.alikes a b = true → PyProof.Rows.lexLt PyProof.Rows.itemOrd (PySem.W.keyToksAll (toPys a)) (PySem.W.keyToksAll (toPys b)) = D.lts a b
  | _, _, [], [], _, _, _ => by simp [toPys, D.lts]; rfl
  | _, _, [], _ :: _, _, _, _ => by simp [toPys, D.lts]; rfl
  | _, _, _ :: _, [], _, _, _ => by simp [toPys, D.lts]; rfl
  | n, k, a :: as, b :: bs, ha, hb, h => by
    simp only [D.dats, Bool.and_eq_true] at ha hb
    simp only [D.alikes, Bool.and_eq_true] at h
    simp only [toPys, D.lts]
    rw [PySem.W.dataLt_cons (toPy_alike n k a b ha.1 hb.1 h.1), toPy_eqv n k a b ha.1 hb.1, toPys_lt n k as bs ha.2 hb.2 h.2, toPy_lt n k a b ha.1 hb.1 h.1]
end

/-! ### operators -/
/-- two readable things, an operator by their data -/
def rD2 (T : Tab) (X : Cx) (f : D → D → Option D) : R2 := fun x y H Q => ∃ a b d, RepR T X.K H x a ∧ RepR T X.K H y b ∧ f a b = some d ∧ ∀ v H', Grow H H' → Rep T X.K H' v d → Q v H'
def rF2 (T : Tab) (X : Cx) (f : D → D → Option D) : R2 := fun x y H Q => ∃ a b d, RepR T X.K H x a ∧ RepR T X.K H y b ∧ f a b = some d ∧ ∀ p H', Grow H H' → H p = none → Own T X.K H' p d → Q (.ref p) H'
def rB2 (T : Tab) (X : Cx) (f : D → D → Option Bool) : R2 := fun x y H Q => ∃ a b k, RepR T X.K H x a ∧ RepR T X.K H y b ∧ f a b = some k ∧ Q (.bl k) H
section
variable {T : Tab} {X : Cx}
theorem len_tx (l : List Nat) : (tx l).length = l.length := by simp [tx, Str.length]
theorem app_tx (a b : List Nat) : tx a ++ tx b = tx (a ++ b) := by
  show (⟨(tx a).cps ++ (tx b).cps⟩ : Str) = _
  simp [tx]
theorem o_add : OpR X (binaryOp .Add) (rD2 T X addD) := by
  intro pins s σ H x y v u Q I rx ry h
  obtain ⟨a, b, d, ra, rb, e, q⟩ := h
  unfold addD at e
  split at e
  · cases e
    rw [ra.int] at rx; rw [rb.int] at ry
    exact op_add pins s σ H _ _ v u Q I rx ry ⟨_, _, rfl, rfl, q _ H .refl (.int _)⟩
  · rename_i l1 l2
    split at e
    · rename_i hz
      cases e
      obtain ⟨e1, b1, _⟩ := ra.str
      obtain ⟨e2, b2, _⟩ := rb.str
      rw [e1] at rx; rw [e2] at ry
      refine op_add_str pins s σ H _ _ v u Q I rx ry ⟨_, _, rfl, rfl, by rw [len_tx, len_tx]; exact hz, ?_⟩
      rw [app_tx]
      exact q _ H .refl (.str _ (fun c hc => (List.mem_append.mp hc).elim (b1 c) (b2 c)) (by rw [List.length_append]; exact hz))
    · cases e
  · rename_i l1 l2
    split at e
    · rename_i hz
      cases e
      obtain ⟨a1, xs, e1, s1, r1⟩ := ra.tup
      obtain ⟨a2, ys, e2, s2, r2⟩ := rb.tup
      rw [e1] at rx; rw [e2] at ry
      refine op_catA pins s σ H _ _ v u Q I rx ry ⟨a1, a2, xs, ys, rfl, rfl, s1, s2, by rw [r1.length, r2.length]; exact hz, fun z => ?_, fun _ z => ?_, fun _ _ p hp => ?_⟩
      · subst z
        cases r1
        exact q _ H .refl (.tup s2 r2)
      · subst z
        cases r2
        rw [List.append_nil] at q
        exact q _ H .refl (.tup s1 r1)
      · exact q _ _ (.upd hp) (.tup (SqT.of upd_same) ((r1.append r2).mono (Grow.upd hp).mono))
    · cases e
  · cases e
theorem o_sub : OpR X (binaryOp .Sub) (rD2 T X subD) := by
  intro pins s σ H x y v u Q I rx ry h
  obtain ⟨a, b, d, ra, rb, e, q⟩ := h
  unfold subD at e
  split at e
  · cases e
    rw [ra.int] at rx; rw [rb.int] at ry
    exact op_sub pins s σ H _ _ v u Q I rx ry ⟨_, _, rfl, rfl, q _ H .refl (.int _)⟩
  · cases e
theorem bits64_iff {i : Int} (h : bits64 i = true) : -(2 ^ 64) < i ∧ i < 2 ^ 64 := by
  unfold bits64 at h
  simp only [Bool.and_eq_true, decide_eq_true_eq] at h
  have e : (2 : Int) ^ 64 = 18446744073709551616 := by decide
  omega
theorem o_mul : OpR X (binaryOp .Mult) (rD2 T X mulD) := by
  intro pins s σ H x y v u Q I rx ry h
  obtain ⟨a, b, d, ra, rb, e, q⟩ := h
  unfold mulD at e
  split at e
  · split at e
    · rename_i i j hz
      cases e
      rw [ra.int] at rx; rw [rb.int] at ry
      unfold mulOk at hz
      simp only [Bool.or_eq_true, decide_eq_true_eq] at hz
      rcases hz with (hz | hz) | hz
      · exact op_mul pins s σ H _ _ v u Q I rx ry ⟨_, _, rfl, rfl, .inl (bits64_iff hz), q _ H .refl (.int _)⟩
      · exact op_mul pins s σ H _ _ v u Q I rx ry ⟨_, _, rfl, rfl, .inr (bits64_iff hz), q _ H .refl (.int _)⟩
      · exact op_mulW pins s σ H _ _ v u Q I rx ry ⟨_, _, rfl, rfl, hz, q _ H .refl (.int _)⟩
    · cases e
  · cases e
theorem o_fdiv : OpR X (binaryOp .FloorDiv) (rD2 T X fdivD) := by
  intro pins s σ H x y v u Q I rx ry h
  obtain ⟨a, b, d, ra, rb, e, q⟩ := h
  unfold fdivD at e
  split at e
  · split at e
    · rename_i i j hz
      cases e
      rw [ra.int] at rx; rw [rb.int] at ry
      unfold divOk at hz
      simp only [Bool.and_eq_true, decide_eq_true_eq] at hz
      exact op_fdivW pins s σ H _ _ v u Q I rx ry ⟨_, _, rfl, rfl, hz, q _ H .refl (.int _)⟩
    · cases e
  · cases e
theorem o_mod : OpR X (binaryOp .Mod) (rD2 T X modD) := by
  intro pins s σ H x y v u Q I rx ry h
  obtain ⟨a, b, d, ra, rb, e, q⟩ := h
  unfold modD at e
  split at e
  · split at e
    · rename_i i j hz
      cases e
      rw [ra.int] at rx; rw [rb.int] at ry
      exact op_mod pins s σ H _ _ v u Q I rx ry ⟨_, _, rfl, rfl, of_decide_eq_true hz, q _ H .refl (.int _)⟩
    · cases e
  · cases e
theorem o_pow : OpR X (binaryOp .Pow) (rD2 T X powD) := by
  intro pins s σ H x y v u Q I rx ry h
  obtain ⟨a, b, d, ra, rb, e, q⟩ := h
  unfold powD at e
  split at e
  · split at e
    · rename_i i j hz
      cases e
      rw [ra.int] at rx; rw [rb.int] at ry
      unfold powOk at hz
      simp only [Bool.and_eq_true, decide_eq_true_eq] at hz
      have hb := bits64_iff hz.2
      have e : (2 : Int) ^ 64 = 18446744073709551616 := by decide
      have e' : (2 : Nat) ^ 64 = 18446744073709551616 := by decide
      exact op_pow pins s σ H _ _ v u Q I rx ry ⟨_, _, rfl, rfl, ⟨hz.1.1, hz.1.2, by omega⟩, q _ H .refl (.int _)⟩
    · cases e
  · cases e
theorem o_cat : OpR X (binaryOp .Add) (rF2 T X catD) := by
  intro pins s σ H x y v u Q I rx ry h
  obtain ⟨a, b, d, ra, rb, e, q⟩ := h
  unfold catD at e
  split at e
  · split at e
    · rename_i l1 l2 hz
      cases e
      obtain ⟨a1, xs, e1, s1, r1⟩ := ra.lst
      obtain ⟨a2, ys, e2, s2, r2⟩ := rb.lst
      subst e1; subst e2
      cases rx
      cases ry
      obtain ⟨z, its, n, rv, ho⟩ := s1.ok I.hok
      obtain ⟨z2, its2, n2, rv2, ho2⟩ := s2.ok I.hok
      have hsz : its.length + its2.length ≤ sizeLine := by
        have k1 := rv.length
        have k2 := rv2.length
        have k3 := r1.length
        have k4 := r2.length
        have k5 : sizeLine = sizeMax := by decide
        omega
      refine PySem.P.add_list ho ho2 ?_ (by rw [List.size_toArray, List.size_toArray]; exact hsz)
      have ea : its.toArray ++ its2.toArray = (its ++ its2).toArray := by simp
      rw [ea]
      have hp : H s.heap.objs.size = none := I.fresh
      refine ⟨.ref _, _, I.lnew (t' := s.toks) (rv.append rv2) (by rw [List.length_append, rv.length, rv2.length]; exact hsz), rfl, q _ _ (.upd hp) hp (.lst upd_same ((r1.append r2).mono (Grow.upd hp).mono))⟩
    · cases e
  · cases e
end
end DS
end

section
set_option Elab.async false
set_option linter.all false
set_option maxRecDepth 100000
set_option maxHeartbeats 2000000
namespace DS
open PySem PySem.Spec PyProof.Rows L2
/-! ### comparisons -/
section
variable {T : Tab} {X : Cx} {k : Nat}
theorem two_dat {f : Bool} {a b : D} {r k : Bool} (e : (if (D.dat 8 a && D.dat 8 b) = true then some r else none) = some k) : D.dat 8 a = true ∧ D.dat 8 b = true ∧ r = k := by
  split at e
  · rename_i h
    rw [Bool.and_eq_true] at h
    exact ⟨h.1, h.2, Option.some.inj e⟩
  · cases e
theorem c_eq (hr : Room k X.A) : OpR X (compareOp .Eq) (rB2 T X eqD) := by
  intro pins s σ H x y v u Q I rx ry h
  obtain ⟨a, b, d, ra, rb, e, q⟩ := h
  obtain ⟨ha, hb, rfl⟩ := two_dat (f := true) e
  obtain ⟨p1, s1⟩ := ra.shaped ha
  obtain ⟨p2, s2⟩ := rb.shaped hb
  exact op_eqD hr.units pins s σ H _ _ v u Q I rx ry ⟨_, _, p1, p2, s1, s2, by rw [toPy_eqv 8 8 a b ha hb]; exact q⟩
theorem c_ne (hr : Room k X.A) : OpR X (compareOp .NotEq) (rB2 T X neD) := by
  intro pins s σ H x y v u Q I rx ry h
  obtain ⟨a, b, d, ra, rb, e, q⟩ := h
  obtain ⟨ha, hb, rfl⟩ := two_dat (f := true) e
  obtain ⟨p1, s1⟩ := ra.shaped ha
  obtain ⟨p2, s2⟩ := rb.shaped hb
  exact op_neD hr.units pins s σ H _ _ v u Q I rx ry ⟨_, _, p1, p2, s1, s2, by rw [toPy_eqv 8 8 a b ha hb]; exact q⟩
theorem cmp_dat {a b : D} {r k : Bool} (e : (if cmpOk a b = true then some r else none) = some k) : D.dat 8 a = true ∧ D.dat 8 b = true ∧ D.alike a b = true ∧ D.isNon a = false ∧ r = k := by
  split at e
  · rename_i h
    unfold cmpOk at h
    simp only [Bool.and_eq_true, Bool.not_eq_true'] at h
    exact ⟨h.1.1.1, h.1.1.2, h.1.2, h.2, Option.some.inj e⟩
  · cases e
theorem toPy_ne {n : Nat} {a : D} (h : D.dat n a = true) (hn : D.isNon a = false) : toPy a ≠ .none := by
  cases a <;> simp_all [D.isNon, toPy, D.dat]
theorem alike_comm' : ∀ {a b : PyData}, PySem.W.alike a b = true → PySem.W.alike b a = true := fun {a b} h => by rw [PySem.W.alike_comm]; exact h
theorem c_cmp {op : CmpOp} {f : D → D → Option Bool} {g : D → D → Bool} (hr : Room k X.A) (hf : ∀ a b, f a b = if cmpOk a b = true then some (g a b) else none)
    (rule : ∀ (s : Shared) (a b : Value) (da db : D) (as bs : List Addr) (Q E : Value → Shared → Prop), Reads s.heap a (toPy da) as → Reads s.heap b (toPy db) bs → PySem.W.alike (toPy da) (toPy db) = true → toPy da ≠ .none →
      X.A.units + min (toPy da).depth (toPy db).depth < cLine → D.dat 8 da = true → D.dat 8 db = true → D.alike da db = true → Q (.bool (g da db)) s → wpAny (model X.prog X.w) X.A (compareOp op a b) Q E s) : OpR X (compareOp op) (rB2 T X f) := by
  intro pins s σ H x y v u Q I rx ry h
  obtain ⟨a, b, d, ra, rb, e, q⟩ := h
  rw [hf] at e
  obtain ⟨ha, hb, hal, hn, rfl⟩ := cmp_dat e
  obtain ⟨p1, _, d1⟩ := ra.dp ha
  obtain ⟨p2, _, d2⟩ := rb.dp hb
  obtain ⟨as, r1⟩ := Dp.reads I _ _ _ p1 rx
  obtain ⟨bs, r2⟩ := Dp.reads I _ _ _ p2 ry
  have hu := hr.units
  exact rule s v u a b as bs _ _ r1 r2 (toPy_alike 8 8 a b ha hb hal) (toPy_ne ha hn) (by omega) ha hb hal ⟨.bl _, H, I, rfl, q⟩
theorem D.alike_comm : ∀ (n k : Nat) (a b : D), D.dat n a = true → D.dat k b = true → D.alike a b = true → PySem.W.dataLt (toPy b) (toPy a) = D.lt b a := fun n k a b ha hb h =>
  toPy_lt k n b a hb ha (by
    have : ∀ (a b : D), D.alike a b = true → D.alike b a = true := by
      intro a
      exact D.rec (motive_1 := fun a => ∀ b, D.alike a b = true → D.alike b a = true) (motive_2 := fun as => ∀ bs, D.alikes as bs = true → D.alikes bs as = true)
        (motive_3 := fun _ => True) (motive_4 := fun _ => True) (motive_5 := fun _ => True) (motive_6 := fun _ => True)
        (fun b h => by cases b <;> simp_all [D.alike]) (fun _ b h => by cases b <;> simp_all [D.alike]) (fun _ b h => by cases b <;> simp_all [D.alike]) (fun _ b h => by cases b <;> simp_all [D.alike])
        (fun xs ih b h => by cases b <;> simp_all [D.alike]) (fun xs ih b h => by cases b <;> simp_all [D.alike]) (fun _ _ b h => by simp [D.alike] at h) (fun _ _ b h => by simp [D.alike] at h) (fun _ _ _ b h => by simp [D.alike] at h)
        (fun _ b h => by simp [D.alike] at h) (fun _ b h => by simp [D.alike] at h)
        (fun bs h => by cases bs <;> simp_all [D.alikes]) (fun x xs ih1 ih2 bs h => by cases bs <;> simp_all [D.alikes]) trivial (fun _ _ _ _ => trivial) trivial (fun _ _ _ _ => trivial) (fun _ _ _ _ => trivial) (fun _ _ _ => trivial) a
    exact this a b h)
theorem c_lt (hr : Room k X.A) : OpR X (compareOp .Lt) (rB2 T X ltD) := c_cmp (g := D.lt) hr (fun _ _ => rfl) fun s a b da db as bs Q E r1 r2 h hn hu h1 h2 hal q => PySem.W.lt_data r1 r2 h hn hu (by rw [toPy_lt 8 8 da db h1 h2 hal]; exact q)
theorem c_gt (hr : Room k X.A) : OpR X (compareOp .Gt) (rB2 T X gtD) := c_cmp (g := fun a b => D.lt b a) hr (fun _ _ => rfl) fun s a b da db as bs Q E r1 r2 h hn hu h1 h2 hal q => PySem.W.gt_data r1 r2 h hn hu (by rw [D.alike_comm 8 8 da db h1 h2 hal]; exact q)
theorem c_le (hr : Room k X.A) : OpR X (compareOp .LtE) (rB2 T X leD) := c_cmp (g := fun a b => !D.lt b a) hr (fun _ _ => rfl) fun s a b da db as bs Q E r1 r2 h hn hu h1 h2 hal q => PySem.W.le_data r1 r2 h hn hu (by rw [D.alike_comm 8 8 da db h1 h2 hal]; exact q)
theorem c_ge (hr : Room k X.A) : OpR X (compareOp .GtE) (rB2 T X geD) := c_cmp (g := fun a b => !D.lt a b) hr (fun _ _ => rfl) fun s a b da db as bs Q E r1 r2 h hn hu h1 h2 hal q => PySem.W.ge_data r1 r2 h hn hu (by rw [toPy_lt 8 8 da db h1 h2 hal]; exact q)
theorem RepR.isN {H : Hp} {K : PySem.W.Frag} {v : V} {d : D} (h : RepR T K H v d) (h1 : ∀ k, d ≠ .cell k) (h2 : ∀ k, d ≠ .lam k) : decide (v = .non) = D.isNon d := by
  rcases h with h | ⟨a, e, h⟩
  · cases h <;> simp_all [D.isNon]
  · subst e; cases h <;> simp [D.isNon]
theorem isNonD_some {a b : D} {d : Bool} (e : isNonD a b = some d) : b = .non ∧ a.isNon = d ∧ (∀ k, a ≠ .cell k) ∧ ∀ k, a ≠ .lam k := by
  unfold isNonD at e
  split at e
  · cases a <;> first | (cases e; done) | exact ⟨rfl, Option.some.inj e, fun _ z => (by cases z), fun _ z => (by cases z)⟩
  · cases e
theorem c_is : OpR X (compareOp .Is) (rB2 T X isNonD) := by
  intro pins s σ H x y v u Q I rx ry h
  obtain ⟨a, b, d, ra, rb, e, q⟩ := h
  obtain ⟨rfl, rfl, h1, h2⟩ := isNonD_some e
  rw [rb.non] at ry
  exact op_isN pins s σ H _ _ v u Q I rx ry ⟨rfl, by rw [ra.isN h1 h2]; exact q⟩
theorem c_isNot : OpR X (compareOp .IsNot) (rB2 T X notNonD) := by
  intro pins s σ H x y v u Q I rx ry h
  obtain ⟨a, b, d, ra, rb, e0, q⟩ := h
  obtain ⟨d', e, hd⟩ := Option.map_eq_some_iff.mp e0
  subst hd
  obtain ⟨rfl, rfl, h1, h2⟩ := isNonD_some e
  rw [rb.non] at ry
  exact op_notN pins s σ H _ _ v u Q I rx ry ⟨rfl, by rw [ra.isN h1 h2]; exact q⟩
theorem toPys_any {n : Nat} {x : D} (hx : D.dat 8 x = true) : ∀ {ds : List D}, D.dats n ds = true → ((toPys ds).any fun z => PyData.eqv z (toPy x)) = ds.any fun z => D.eqv z x
  | [], _ => rfl
  | d :: ds, h => by
    simp only [D.dats, Bool.and_eq_true] at h
    simp only [toPys, List.any_cons, toPy_eqv n 8 d x h.1 hx, toPys_any hx h.2]
theorem in_depth {H : Hp} {K : PySem.W.Frag} {x y : D} {v w : V} (h : RepR T K H v x) (hx : D.dat 8 x = true) (g : RepR T K H w y) (hy : D.dat 9 y = true) (hr : Room k X.A) : X.A.units + 1 + min (toPy y).depth (toPy x).depth < cLine := by
  have hu := hr.units
  have := (h.dp hx).2.2
  omega
theorem tx_inj {a b : List Nat} (h : tx a = tx b) : a = b := by
  have := congrArg (fun s : Str => s.cps.toList) h
  simpa [tx] using this
theorem KeyD.eq {a b : Key} {c d : D} (h : KeyD a c) (g : KeyD b d) : decide (a = b) = D.eqv c d := by
  cases a with
  | inl i =>
    cases b with
    | inl j =>
      have h' : c = .int i := h
      have g' : d = .int j := g
      subst h'; subst g'
      simp only [D.eqv]
      by_cases e : i = j
      · subst e; simp
      · simp [e]
    | inr y =>
      have h' : c = .int i := h
      obtain ⟨l, _, rfl, _⟩ := g
      subst h'
      simp [D.eqv]
  | inr x =>
    obtain ⟨l, rfl, rfl, _⟩ := h
    cases b with
    | inl j =>
      have g' : d = .int j := g
      subst g'
      simp [D.eqv]
    | inr y =>
      obtain ⟨l', rfl, rfl, _⟩ := g
      simp only [D.eqv]
      by_cases e : l = l'
      · subst e; simp
      · have : ¬ tx l = tx l' := fun z => e (tx_inj z)
        simp [e, this]
/-- a key that is told -/
theorem RepR.key {K : PySem.W.Frag} {H : Hp} {v : V} {c : D} (h : RepR T K H v c) (hk : isKey c = true) : ∃ k, KeyD k c ∧ v = kV k := by
  cases c <;> simp [isKey] at hk
  · exact ⟨.inl _, rfl, h.int⟩
  · exact ⟨.inr _, ⟨_, rfl, rfl, h.str.2⟩, h.str.1⟩
theorem KeyD.rep {K : PySem.W.Frag} {H : Hp} {k : Key} {c : D} (h : KeyD k c) : Rep T K H (kV k) c := by
  cases k with
  | inl i => have h' : c = .int i := h; subst h'; exact .int i
  | inr x => obtain ⟨l, rfl, rfl, hb⟩ := h; exact .str l hb.1 hb.2
theorem RepKs.val {K : PySem.W.Frag} {H : Hp} {k : Key} {c : D} (hk : KeyD k c) : ∀ {kvs : List (Key × V)} {ds : List (D × D)}, RepKs T K H kvs ds →
    (valV kvs k = none ∧ getK ds c = none) ∨ ∃ v d, valV kvs k = some v ∧ getK ds c = some d ∧ Rep T K H v d
  | _, _, .nil => .inl ⟨rfl, rfl⟩
  | _, _, .cons (k := a) (c := b) (v := v) (d := d) (vs := vs) (ds := ds) h r t => by
    have e := h.eq hk
    by_cases q : a = k
    · refine .inr ⟨v, d, valV_pos q, ?_, r⟩
      rw [decide_eq_true q] at e
      simp [getK, ← e]
    · rw [decide_eq_false q] at e
      have e1 : valV ((a, v) :: vs) k = valV vs k := valV_neg q
      have e2 : getK ((b, d) :: ds) c = getK ds c := by simp [getK, ← e]
      rw [e1, e2]
      exact t.val hk
theorem getK_some (ds : List (D × D)) (c : D) : (getK ds c).isSome = hasK ds c := by
  unfold getK hasK
  induction ds with
  | nil => rfl
  | cons p ps ih =>
    rw [List.find?_cons, List.any_cons]
    cases D.eqv p.1 c with
    | true => rfl
    | false => simpa using ih
theorem RepKs.isSome {K : PySem.W.Frag} {H : Hp} {k : Key} {c : D} (hk : KeyD k c) {kvs : List (Key × V)} {ds : List (D × D)} (r : RepKs T K H kvs ds) : (valV kvs k).isSome = hasK ds c := by
  rw [← getK_some]
  rcases r.val hk with ⟨e1, e2⟩ | ⟨v, d, e1, e2, _⟩
  · rw [e1, e2]; rfl
  · rw [e1, e2]; rfl
theorem RepKs.put {K : PySem.W.Frag} {H : Hp} {k : Key} {c : D} (hk : KeyD k c) {kvs : List (Key × V)} {ds : List (D × D)} (r : RepKs T K H kvs ds) {v : V} {d : D} (rv : Rep T K H v d) : RepKs T K H (putK kvs k v) (setK ds c d) := by
  have any_eq : (kvs.any fun kv => decide (kv.1 = k)) = hasK ds c := by rw [valV_any]; exact r.isSome hk
  unfold putK setK
  rw [any_eq]
  split
  · have : ∀ {kvs : List (Key × V)} {ds : List (D × D)}, RepKs T K H kvs ds → RepKs T K H (kvs.map fun kv => if kv.1 = k then (kv.1, v) else kv) (ds.map fun z => if D.eqv z.1 c = true then (z.1, d) else z) := by
      intro kvs ds r
      induction kvs generalizing ds with
      | nil => cases r; exact .nil
      | cons p ps ih =>
        cases r with
        | @cons a b _ _ _ _ h r t =>
          have e := h.eq hk
          simp only [List.map_cons]
          by_cases q : a = k
          · rw [decide_eq_true q] at e
            rw [if_pos q, if_pos e.symm]
            exact .cons h rv (ih t)
          · rw [decide_eq_false q] at e
            rw [if_neg q, if_neg (by rw [← e]; exact Bool.false_ne_true)]
            exact .cons h r (ih t)
    exact this r
  · have : ∀ {kvs : List (Key × V)} {ds : List (D × D)}, RepKs T K H kvs ds → RepKs T K H (kvs ++ [(k, v)]) (ds ++ [(c, d)]) := by
      intro kvs ds r
      induction kvs generalizing ds with
      | nil => cases r; exact .cons hk rv .nil
      | cons p ps ih =>
        cases r with
        | cons h r t => exact .cons h r (ih t)
    exact this r
theorem RepKs.length {K : PySem.W.Frag} {H : Hp} : ∀ {kvs : List (Key × V)} {ds : List (D × D)}, RepKs T K H kvs ds → kvs.length = ds.length
  | _, _, .nil => rfl
  | _, _, .cons _ _ t => by simp [t.length]
theorem sign_in (c : Nat) (l : List Nat) : decide (c ∈ (tx l).cps.toList) = l.contains c := by rw [List.contains_eq_mem]; exact decide_eq_decide.mpr (by simp [tx])
theorem c_in (hr : Room k X.A) : OpR X (compareOp .In) (rB2 T X inD) := by
  intro pins s σ H x y v u Q I rx ry h
  obtain ⟨a, b, d, ra, rb, e, q⟩ := h
  unfold inD at e
  have hu := hr.units
  split at e
  · split at e
    · cases e
      obtain ⟨e1, b1, _⟩ := ra.str
      obtain ⟨e2, b2, _⟩ := rb.str
      rw [e1] at rx; rw [e2] at ry
      refine op_in_sign pins s σ H _ _ v u Q I rx ry ⟨_, _, rfl, rfl, ?_⟩
      rw [sign_in]; exact q
    · cases e
  · split at e
    · rename_i ds h
      rw [Bool.and_eq_true] at h
      cases e
      have hds : D.dat 9 (.lst ds) = true := by simpa [D.dat] using h.2
      obtain ⟨p1, c1, d1⟩ := ra.dp h.1
      obtain ⟨p2, c2, d2⟩ := rb.dp hds
      obtain ⟨as, r1⟩ := Dp.reads I _ _ _ p1 rx
      obtain ⟨bs, r2⟩ := Dp.reads I _ _ _ p2 ry
      simp only [toPy] at r2 c2 d2
      refine SeqAt.in_list_reads r2 r1 (by simpa [PyData.canLay0] using c2) c1 (by simp only [PyData.depth] at d2; omega) ⟨.bl _, H, I, rfl, ?_⟩
      rw [toPys_any h.1 h.2]; exact q
    · cases e
  · split at e
    · rename_i ds h
      rw [Bool.and_eq_true] at h
      cases e
      have hds : D.dat 9 (.tup ds) = true := by simpa [D.dat] using h.2
      obtain ⟨p1, c1, d1⟩ := ra.dp h.1
      obtain ⟨p2, c2, d2⟩ := rb.dp hds
      obtain ⟨as, r1⟩ := Dp.reads I _ _ _ p1 rx
      obtain ⟨bs, r2⟩ := Dp.reads I _ _ _ p2 ry
      simp only [toPy] at r2 c2 d2
      refine SeqAt.in_tuple_reads r2 r1 (by simpa [PyData.canLay0] using c2) c1 (by simp only [PyData.depth] at d2; omega) ⟨.bl _, H, I, rfl, ?_⟩
      rw [toPys_any h.1 h.2]; exact q
    · cases e
  · rename_i kvs
    have hk : isKey a = true ∧ hasK kvs a = d := by
      split at e
      · cases e; exact ⟨rfl, rfl⟩
      · cases e; exact ⟨rfl, rfl⟩
      · cases e
    obtain ⟨a1, kv, e1, s1, r1⟩ := rb.dct
    subst e1
    cases ry
    obtain ⟨ky, hky, ex⟩ := ra.key hk.1
    subst ex
    refine d_in (by omega) I (.inl ⟨kv, ky, s1, rfl, rfl⟩) rx fun s3 I3 => ⟨.bl _, H, I3, rfl, ?_⟩
    rw [r1.isSome hky, hk.2]; exact q
  · cases e
theorem c_notIn (hr : Room k X.A) : OpR X (compareOp .NotIn) (rB2 T X notInD) := by
  intro pins s σ H x y v u Q I rx ry h
  obtain ⟨a, b, d, ra, rb, e0, q⟩ := h
  obtain ⟨d', e, hd⟩ := Option.map_eq_some_iff.mp e0
  clear e0
  subst hd
  unfold inD at e
  have hu := hr.units
  split at e
  · split at e
    · cases e
      obtain ⟨e1, b1, _⟩ := ra.str
      obtain ⟨e2, b2, _⟩ := rb.str
      rw [e1] at rx; rw [e2] at ry
      refine op_notIn_sign pins s σ H _ _ v u Q I rx ry ⟨_, _, rfl, rfl, ?_⟩
      rw [sign_in]; exact q
    · cases e
  · split at e
    · rename_i ds h
      rw [Bool.and_eq_true] at h
      cases e
      have hds : D.dat 9 (.lst ds) = true := by simpa [D.dat] using h.2
      obtain ⟨p1, c1, d1⟩ := ra.dp h.1
      obtain ⟨p2, c2, d2⟩ := rb.dp hds
      obtain ⟨as, r1⟩ := Dp.reads I _ _ _ p1 rx
      obtain ⟨bs, r2⟩ := Dp.reads I _ _ _ p2 ry
      simp only [toPy] at r2 c2 d2
      refine SeqAt.notIn_list_reads r2 r1 (by simpa [PyData.canLay0] using c2) c1 (by simp only [PyData.depth] at d2; omega) ⟨.bl _, H, I, rfl, ?_⟩
      rw [toPys_any h.1 h.2]; exact q
    · cases e
  · split at e
    · rename_i ds h
      rw [Bool.and_eq_true] at h
      cases e
      have hds : D.dat 9 (.tup ds) = true := by simpa [D.dat] using h.2
      obtain ⟨p1, c1, d1⟩ := ra.dp h.1
      obtain ⟨p2, c2, d2⟩ := rb.dp hds
      obtain ⟨as, r1⟩ := Dp.reads I _ _ _ p1 rx
      obtain ⟨bs, r2⟩ := Dp.reads I _ _ _ p2 ry
      simp only [toPy] at r2 c2 d2
      refine SeqAt.notIn_tuple_reads r2 r1 (by simpa [PyData.canLay0] using c2) c1 (by simp only [PyData.depth] at d2; omega) ⟨.bl _, H, I, rfl, ?_⟩
      rw [toPys_any h.1 h.2]; exact q
    · cases e
  · rename_i kvs
    have hk : isKey a = true ∧ hasK kvs a = d' := by
      split at e
      · cases e; exact ⟨rfl, rfl⟩
      · cases e; exact ⟨rfl, rfl⟩
      · cases e
    obtain ⟨a1, kv, e1, s1, r1⟩ := rb.dct
    subst e1
    cases ry
    obtain ⟨ky, hky, ex⟩ := ra.key hk.1
    subst ex
    refine d_notIn (by omega) I (.inl ⟨kv, ky, s1, rfl, rfl⟩) rx fun s3 I3 => ⟨.bl _, H, I3, rfl, ?_⟩
    rw [r1.isSome hky, hk.2]; exact q
  · cases e
end
end DS
end

section
set_option Elab.async false
set_option linter.all false
set_option maxRecDepth 100000
set_option maxHeartbeats 2000000
namespace DS
open PySem PySem.Spec PyProof.Rows L2
section
variable {T : Tab} {X : Cx} {W : WX} {pos : Pos} {a b c e : Expr} {es : List Expr} {l : Loc} {m : Mem} {σ : L2.St} {H H1 : Hp}
theorem SlR.readable {v : V} {s : Sl} (h : SlR T X.K H v s) : RepR T X.K H v s.get := by
  cases s with
  | v d => exact .inl h
  | o d => obtain ⟨a, e, ow, _⟩ := h; exact .inr ⟨a, e, ow⟩
  | r d => obtain ⟨a, e, ow, _⟩ := h; exact .inr ⟨a, e, ow⟩
  | s d => obtain ⟨a, e, ow, _⟩ := h; exact .inr ⟨a, e, ow⟩
theorem OpV.get {v : V} {o : Op} {d : D} (h : OpV T X.K σ H1 v o) (mo : Mono H1 H) (R : Rel T X.K l m σ H) (e : o.get l = some d) : RepR T X.K H v d := by
  cases o with
  | val d' => cases e; exact .inl (Rep.mono mo h)
  | slot i =>
    have h : σ[i]? = some (some v) := h
    unfold Op.get at e
    dsimp only at e
    split at e
    · rename_i s hs
      cases e
      obtain ⟨v', h1, h2⟩ := R.sl i s hs
      rw [h] at h1; cases h1
      exact h2.readable
    · cases e
theorem post.lift {α : Type} {o : Option α} {k : α → Loc → Mem → Hp → Prop} (h : post T X.K W (DS.lift o l m) σ H k) : ∃ a, o = some a ∧ post T X.K W (.ok a l m) σ H k := by
  cases o with
  | none => exact h.elim
  | some a => exact ⟨a, rfl, h⟩

/-! ### operators -/
theorem de_bin {op : Operator} {f : D → D → Option D} {fa fb : Ep} (ho : OpR X (binaryOp op) (rD2 T X f)) (ha : DO T X W a fa) (hb : DO T X W b fb) : DE T X W (.BinOp a op b pos) (eOp2 f fa fb) :=
  pe_weak (pe_op ho ha hb) fun σ H Q ⟨l, m, R, q⟩ => ⟨l, m, R, (post.bind q).imp fun ox l1 m1 H1 mo1 R1 q1 v1 r1 => ⟨l1, m1, R1, (post.bind q1.2).imp fun oy l2 m2 H2 mo2 R2 q2 v2 r2 => by
    have q2 := q2.2
    cases e1 : ox.get l2 with
    | none => rw [e1] at q2; exact q2.elim
    | some d =>
      cases e2 : oy.get l2 with
      | none => rw [e1, e2] at q2; exact q2.elim
      | some d' =>
        rw [e1, e2] at q2
        obtain ⟨r, er, q2⟩ := post.lift q2
        exact ⟨d, d', r, r1.get mo2 R2 e1, r2.get .refl R2 e2, er, fun v H' g rp => q2 H' g.mono (R2.grow g) v rp⟩⟩⟩
theorem df_bin {op : Operator} {f : D → D → Option D} {fa fb : Ep} (ho : OpR X (binaryOp op) (rF2 T X f)) (ha : DO T X W a fa) (hb : DO T X W b fb) : DF T X W (.BinOp a op b pos) (eOp2 f fa fb) :=
  pe_weak (pe_op ho ha hb) fun σ H Q ⟨l, m, R, q⟩ => ⟨l, m, R, (post.bind q).imp fun ox l1 m1 H1 mo1 R1 q1 v1 r1 => ⟨l1, m1, R1, (post.bind q1.2).imp fun oy l2 m2 H2 mo2 R2 q2 v2 r2 => by
    have q2 := q2.2
    cases e1 : ox.get l2 with
    | none => rw [e1] at q2; exact q2.elim
    | some d =>
      cases e2 : oy.get l2 with
      | none => rw [e1, e2] at q2; exact q2.elim
      | some d' =>
        rw [e1, e2] at q2
        obtain ⟨r, er, q2⟩ := post.lift q2
        exact ⟨d, d', r, r1.get mo2 R2 e1, r2.get .refl R2 e2, er, fun p H' g hp ow => q2 H' g.mono (R2.grow g) p ow (R2.fresh hp)⟩⟩⟩
theorem de_neg {fa : Ep} (ha : DO T X W a fa) : DE T X W (.UnaryOp .USub a pos) (eOp1 negD fa) :=
  pe_weak (pe_un un_neg ha) fun σ H Q ⟨l, m, R, q⟩ => ⟨l, m, R, (post.bind q).imp fun ox l1 m1 H1 mo1 R1 q1 v1 r1 => by
    have q1 := q1.2
    cases e1 : ox.get l1 with
    | none => rw [e1] at q1; exact q1.elim
    | some d =>
      rw [e1] at q1
      obtain ⟨r, er, q1⟩ := post.lift q1
      have rp := r1.get .refl R1 e1
      unfold negD at er
      split at er
      · cases er
        exact ⟨_, rp.int, q1 H1 .refl R1 _ (.int _)⟩
      · cases er⟩
/-- a comparison as a test -/
theorem dt_cmp {op : CmpOp} {f : D → D → Option Bool} {fa fb : Ep} (ho : OpR X (compareOp op) (rB2 T X f)) (ha : DO T X W a fa) (hb : DO T X W b fb) (hm : behindInMarks op b = false) : DT T X W (.Compare a [op] [b] pos) (tOp2 f fa fb) :=
  pt_weak (pt_cmpR ho ha hb hm) fun σ H Q ⟨l, m, R, q⟩ => ⟨l, m, R, (post.bind q).imp fun ox l1 m1 H1 mo1 R1 q1 v1 r1 => ⟨l1, m1, R1, (post.bind q1.2).imp fun oy l2 m2 H2 mo2 R2 q2 v2 r2 => by
    have q2 := q2.2
    cases e1 : ox.get l2 with
    | none => rw [e1] at q2; exact q2.elim
    | some d =>
      cases e2 : oy.get l2 with
      | none => rw [e1, e2] at q2; exact q2.elim
      | some d' =>
        rw [e1, e2] at q2
        obtain ⟨r, er, q2⟩ := post.lift q2
        exact ⟨d, d', r, r1.get mo2 R2 e1, r2.get .refl R2 e2, er, r, rfl, q2 H2 .refl R2⟩⟩⟩
/-- .. as a value -/
theorem de_cmp {op : CmpOp} {f : D → D → Option Bool} {fa fb : Ep} (ho : OpR X (compareOp op) (rB2 T X f)) (ha : DO T X W a fa) (hb : DO T X W b fb) (hm : behindInMarks op b = false) : DE T X W (.Compare a [op] [b] pos) (eT (tOp2 f fa fb)) :=
  pe_weak (pe_cmpR ho ha hb hm) fun σ H Q ⟨l, m, R, q⟩ => ⟨l, m, R, (post.bind (post.bind q |>.imp fun b l m H' mo R' q' => q'.2)).imp fun ox l1 m1 H1 mo1 R1 q1 v1 r1 => ⟨l1, m1, R1, (post.bind q1.2).imp fun oy l2 m2 H2 mo2 R2 q2 v2 r2 => by
    have q2 := q2.2
    cases e1 : ox.get l2 with
    | none => rw [e1] at q2; exact q2.elim
    | some d =>
      cases e2 : oy.get l2 with
      | none => rw [e1, e2] at q2; exact q2.elim
      | some d' =>
        rw [e1, e2] at q2
        obtain ⟨r, er, q2⟩ := post.lift q2
        exact ⟨d, d', r, r1.get mo2 R2 e1, r2.get .refl R2 e2, er, q2 H2 .refl R2 H2 .refl R2 _ (.bl _)⟩⟩⟩
/-- f < g < h -/
theorem dt_chain {op op' : CmpOp} {f g : D → D → Option Bool} {fa fb fc : Ep} (ho : OpR X (compareOp op) (rB2 T X f)) (ho' : OpR X (compareOp op') (rB2 T X g)) (ha : DO T X W a fa) (hb : DO T X W b fb) (hc : DO T X W c fc)
    (hm : lastMarks [op, op'] [b, c] = false := by with_unfolding_all rfl) : DT T X W (.Compare a [op, op'] [b, c] pos) (DS.tChain f g fa fb fc) :=
  pt_weak (pt_chain ho ho' ha hb hc hm) fun σ H Q ⟨l, m, R, q⟩ => ⟨l, m, R, (post.bind q).imp fun ox l1 m1 H1 mo1 R1 q1 v1 r1 => ⟨l1, m1, R1, (post.bind q1.2).imp fun oy l2 m2 H2 mo2 R2 q2 v2 r2 => by
    have q2 := q2.2
    cases e1 : ox.get l2 with
    | none => rw [e1] at q2; exact q2.elim
    | some d =>
      cases e2 : oy.get l2 with
      | none => rw [e1, e2] at q2; exact q2.elim
      | some d' =>
        rw [e1, e2] at q2
        dsimp only at q2
        cases ef : f d d' with
        | none => rw [ef] at q2; exact q2.elim
        | some k =>
          rw [ef] at q2
          refine ⟨d, d', k, r1.get mo2 R2 e1, r2.get .refl R2 e2, ef, k, rfl, ?_⟩
          cases k with
          | true =>
            refine iteT ⟨l2, m2, R2, (post.bind q2).imp fun oz l3 m3 H3 mo3 R3 q3 v3 r3 => ?_⟩
            have q3 := q3.2
            cases e3 : oy.get l3 with
            | none => rw [e3] at q3; exact q3.elim
            | some d3 =>
              cases e4 : oz.get l3 with
              | none => rw [e3, e4] at q3; exact q3.elim
              | some d4 =>
                rw [e3, e4] at q3
                obtain ⟨r, er, q3⟩ := post.lift q3
                exact ⟨d3, d4, r, r2.get mo3 R3 e3, r3.get .refl R3 e4, er, r, rfl, q3 H3 .refl R3⟩
          | false => exact iteF ⟨false, rfl, q2 H2 .refl R2⟩⟩⟩

/-! ### tests -/
theorem dt_not {fa : Et} (ha : DT T X W a fa) : DT T X W (.UnaryOp .Not a pos) (DS.tNot fa) := pt_weak (pt_not ha) fun σ H Q ⟨l, m, R, q⟩ =>
  ⟨l, m, R, (post.bind q).imp fun b l1 m1 H1 mo R1 q1 => q1.2 H1 .refl R1⟩
abbrev DW (T : Tab) (X : Cx) (W : WX) (e : Expr) (f : Et) : Prop := PW X e (tDT T X.K W f)
theorem pw_weak {X : Cx} {e : Expr} {t t' : TT} (h : PW X e t) (w : ∀ σ H Q, t' σ H Q → t σ H Q) : PW X e t' :=
  ⟨fun wh pins s σ H Q I q => h.run wh pins s σ H Q I (w σ H Q q)⟩
variable {rest : List Expr}
theorem dw_and1 {fa : Et} (ha : DT T X W a fa) : DW T X W (.BoolOp .And [a] pos) fa := pw_and1 ha
theorem dw_or1 {fa : Et} (ha : DT T X W a fa) : DW T X W (.BoolOp .Or [a] pos) fa := pw_or1 ha
theorem dw_and {fa fb : Et} (ha : DT T X W a fa) (hb : DW T X W (.BoolOp .And (b :: rest) pos) fb) : DW T X W (.BoolOp .And (a :: b :: rest) pos) (DS.tAnd fa fb) :=
  pw_weak (pw_and ha hb) fun σ H Q ⟨l, m, R, q⟩ => ⟨l, m, R, (post.bind q).imp fun k l1 m1 H1 mo R1 q1 => by
    cases k with
    | true => exact iteT ⟨l1, m1, R1, q1.2⟩
    | false => exact iteF (q1.2 H1 .refl R1)⟩
theorem dw_or {fa fb : Et} (ha : DT T X W a fa) (hb : DW T X W (.BoolOp .Or (b :: rest) pos) fb) : DW T X W (.BoolOp .Or (a :: b :: rest) pos) (DS.tOr fa fb) :=
  pw_weak (pw_or ha hb) fun σ H Q ⟨l, m, R, q⟩ => ⟨l, m, R, (post.bind q).imp fun k l1 m1 H1 mo R1 q1 => by
    cases k with
    | true => exact iteT (q1.2 H1 .refl R1)
    | false => exact iteF ⟨l1, m1, R1, q1.2⟩⟩
theorem dt_w {fa : Et} (h : DW T X W a fa) : DT T X W a fa := PW.pt h
/-- the truth of a readable thing -/
theorem RepR.tru {K : PySem.W.Frag} {v : V} {d : D} {k : Bool} (rp : RepR T K H v d) (et : truthD d = some k) : TruV K v H k ∨ ∃ a kvs, v = .ref a ∧ Rd H a (.dK kvs) ∧ k = !kvs.isEmpty := by
  cases d <;> simp only [truthD] at et <;> first | (cases et; done) | skip
  · rw [rp.non]; exact .inl (Option.some.inj et).symm
  · rw [rp.bl]; exact .inl (Option.some.inj et).symm
  · rw [rp.int]; exact .inl (Option.some.inj et).symm
  · rename_i z
    obtain ⟨e1, _, hz⟩ := rp.str
    rw [e1]
    refine .inl ⟨by rw [len_tx]; exact hz, ?_⟩
    rw [len_tx, ← Option.some.inj et]
    cases z with
    | nil => rfl
    | cons c z => simp; omega
  · obtain ⟨p, xs, e1, s1', r1⟩ := rp.tup
    rw [e1]
    exact .inl (.inr (.inl ⟨xs, s1', by rw [← Option.some.inj et]; cases r1 <;> rfl⟩))
  · obtain ⟨p, xs, e1, s1', r1⟩ := rp.lst
    rw [e1]
    exact .inl (.inl ⟨xs, .inl s1', by rw [← Option.some.inj et]; cases r1 <;> rfl⟩)
  · obtain ⟨p, kvs, e1, s1', r1⟩ := rp.dct
    exact .inr ⟨p, kvs, e1, s1', by rw [← Option.some.inj et]; cases r1 <;> rfl⟩
theorem tru_d {pins : List (Addr × Obj)} {s : Shared} {v : V} {u : Value} {d : D} {k : Bool} {Q : Bool → Hp → Prop} (I : Inv X pins σ H s) (rp : RepR T X.K H v d) (et : truthD d = some k) (rx : RelV v u) (q : Q k H) :
    wpAny (model X.prog X.w) X.A (truthy u) (TP X pins σ Q) X.xe s := by
  rcases rp.tru et with h | ⟨a, kvs, e1, s1', ek⟩
  · exact tru_ok pins s σ H v u Q I rx ⟨k, h, q⟩
  · subst e1
    cases rx
    obtain ⟨hz, hS, vs, r, mm⟩ := s1'.ok I.hok
    have hlen : kvs.length = vs.length := Paired.length r
    have hl := line63
    have hs : sizeLine = 16777216 := sizeLine_eq
    refine wpAny_truthy_dict hS mm (by omega) ⟨H, I.tok _, ?_⟩
    rw [isEmpty_kv r, ← ek]; exact q
/-- what an operand is worth -/
def tTr (T : Tab) (K : PySem.W.Frag) (Q : Bool → Hp → Prop) : VK := fun v H1 => ∃ d k, RepR T K H1 v d ∧ truthD d = some k ∧ Q k H1
theorem tTr_of {fa : Ep} {Q : Bool → Hp → Prop} (h : tDT T X.K W (tOp1 truthD fa) σ H Q) : tDP T X.K W fa σ H (tTr T X.K Q) := by
  obtain ⟨l, m, R, q⟩ := h
  exact ⟨l, m, R, (post.bind q).imp fun ox l1 m1 H1 mo1 R1 q1 v1 r1 => by
    have q1 := q1.2
    cases e1 : ox.get l1 with
    | none => rw [e1] at q1; exact q1.elim
    | some d =>
      rw [e1] at q1
      obtain ⟨r, er, q1⟩ := post.lift q1
      exact ⟨d, r, r1.get .refl R1 e1, er, q1 H1 .refl R1⟩⟩
theorem dt_truth {fa : Ep} (ha : DO T X W a fa) (he : ∀ whole, isTrue a X.env whole = (do let v ← whole; standAt a.pos; holding [v] (truthy v)) := by intro _; rfl) : DT T X W a (tOp1 truthD fa) :=
  ⟨fun pins s σ H Q I h => isTrue_plain (thn (ha.run pins s σ H (tTr T X.K Q) I (tTr_of h)) fun v s1 ⟨x, H1, I1, rx, d, k, rp, et, q⟩ => tru_d I1 rp et rx q) (he _)⟩
/-! ### values by tests -/
theorem de_not {fa : Ep} (ha : DO T X W a fa) : DE T X W (.UnaryOp .Not a pos) (eT (DS.tNot (tOp1 truthD fa))) := by
  refine ⟨fun pins s σ H Q I h => ?_⟩
  have h' : tDT T X.K W (tOp1 truthD fa) σ H fun b H1 => Q (.bl (!b)) H1 := by
    obtain ⟨l, m, R, q⟩ := h
    exact ⟨l, m, R, (post.bind (post.bind q |>.imp fun b l m H' mo R' q' => q'.2)).imp fun b l1 m1 H1 mo R1 q1 => q1.2 H1 .refl R1 H1 .refl R1 _ (.bl _)⟩
  refine UnaryOp_ (thn (ha.run pins s σ H _ I (tTr_of h')) fun v s1 ⟨x, H1, I1, rx, d, k, rp, et, q⟩ => ?_)
  exact not_of (thn (tru_d I1 rp et rx q) fun c s2 ⟨H2, I2, q2⟩ => ⟨.bl (!c), H2, I2, rfl, q2⟩)
theorem de_one {op : BoolOp} {fa : Ex} (ha : DE T X W a fa) : DE T X W (.BoolOp op [a] pos) fa := pe_one ha
theorem de_and {fa fb : Ex} (ha : DE T X W a fa) (hb : DE T X W (.BoolOp .And (b :: rest) pos) fb) : DE T X W (.BoolOp .And (a :: b :: rest) pos) (eAnd fa fb) :=
  pe_weak (pe_and ha hb) fun σ H Q ⟨l, m, R, q⟩ => ⟨l, m, R, (post.bind q).imp fun d l1 m1 H1 mo R1 q1 v r => by
    obtain ⟨_, q1⟩ := q1
    cases d with
    | bl k =>
      cases r
      refine ⟨k, rfl, ?_⟩
      cases k with
      | true => exact iteT ⟨l1, m1, R1, q1⟩
      | false => exact iteF (q1 H1 .refl R1 _ (.bl _))
    | _ => exact q1.elim⟩
theorem de_or {fa fb : Ex} (ha : DE T X W a fa) (hb : DE T X W (.BoolOp .Or (b :: rest) pos) fb) : DE T X W (.BoolOp .Or (a :: b :: rest) pos) (eOr fa fb) :=
  pe_weak (pe_or ha hb) fun σ H Q ⟨l, m, R, q⟩ => ⟨l, m, R, (post.bind q).imp fun d l1 m1 H1 mo R1 q1 v r => by
    obtain ⟨_, q1⟩ := q1
    cases d with
    | bl k =>
      cases r
      refine ⟨k, rfl, ?_⟩
      cases k with
      | true => exact iteT (q1 H1 .refl R1 _ (.bl _))
      | false => exact iteF ⟨l1, m1, R1, q1⟩
    | _ => exact q1.elim⟩
theorem de_if {t : Et} {fa fb : Ex} (hc : DT T X W c t) (ha : DE T X W a fa) (hb : DE T X W b fb) : DE T X W (.IfExp c a b pos) (eIf t fa fb) :=
  pe_weak (pe_ifExp hc ha hb) fun σ H Q ⟨l, m, R, q⟩ => ⟨l, m, R, (post.bind q).imp fun k l1 m1 H1 mo R1 q1 => by
    cases k with
    | true => exact iteT ⟨l1, m1, R1, q1.2⟩
    | false => exact iteF ⟨l1, m1, R1, q1.2⟩⟩
/-! ### lists of values -/
theorem da_nil : DA T X W [] aNil := pa_weak pa_nil fun σ H Q ⟨l, m, R, q⟩ => q H .refl R [] .nil
theorem da_cons {fe : Ex} {fr : Ea} (he : DE T X W e fe) (hr : DA T X W es fr) (hs : starEach (e :: es) X.env = (false, eval e X.env) :: starEach es X.env := by rfl) : DA T X W (e :: es) (aCons fe fr) :=
  pa_weak (pa_cons he hr hs) fun σ H Q ⟨l, m, R, q⟩ => ⟨l, m, R, (post.bind q).imp fun d l1 m1 H1 mo1 R1 q1 v1 r1 => ⟨l1, m1, R1, (post.bind q1.2).imp fun ds l2 m2 H2 mo2 R2 q2 vs r2 =>
    q2.2 H2 .refl R2 _ (.cons (r1.mono mo2) r2)⟩⟩
theorem de_tup {fa : Ea} {k : Nat} (ha : DA T X W es fa) : DE T X W (.Tuple es k pos) (eTup fa) :=
  pe_weak (pe_tup ha) fun σ H Q ⟨l, m, R, q⟩ => ⟨l, m, R, (post.bind q).imp fun ds l1 m1 H1 mo1 R1 q1 vs r => by
    obtain ⟨d, ed, q1⟩ := post.lift q1.2
    obtain ⟨ds', es', rfl⟩ := Option.map_eq_some_iff.mp ed
    unfold sz at es'
    split at es'
    · rename_i hz
      cases es'
      refine ⟨by rw [r.length]; exact hz, fun p hp => ?_⟩
      exact q1 _ (Grow.upd hp).mono (R1.grow (.upd hp)) _ (.tup (SqT.of upd_same) (r.mono (Grow.upd hp).mono))
    · cases es'⟩
theorem df_lst {fa : Ea} (ha : DA T X W es fa) : DF T X W (.List es pos) (eLst fa) :=
  pe_weak (pe_lst ha) fun σ H Q ⟨l, m, R, q⟩ => ⟨l, m, R, (post.bind q).imp fun ds l1 m1 H1 mo1 R1 q1 vs r => by
    obtain ⟨d, ed, q1⟩ := post.lift q1.2
    obtain ⟨ds', es', rfl⟩ := Option.map_eq_some_iff.mp ed
    unfold sz at es'
    split at es'
    · rename_i hz
      cases es'
      refine ⟨by rw [r.length]; exact hz, fun p hp => ?_⟩
      exact q1 _ (Grow.upd hp).mono (R1.grow (.upd hp)) p (.lst upd_same (r.mono (Grow.upd hp).mono)) (R1.fresh hp)
    · cases es'⟩
end
end DS
end

section
set_option Elab.async false
set_option linter.all false
set_option maxRecDepth 100000
set_option maxHeartbeats 2000000
namespace DS
open PySem PySem.Spec PyProof.Rows L2
section
variable {T : Tab} {X : Cx} {W : WX} {pos : Pos} {a b c e : Expr} {es : List Expr} {l : Loc} {m : Mem} {σ : L2.St} {H H1 : Hp}
/-! ### subscripts -/
theorem idx_eq (n : Nat) (i : Int) : idx n i = ixN n i := by
  unfold idx ixN
  split <;> split <;> rfl
def rIx (T : Tab) (K : PySem.W.Frag) : R2 := fun x y H Q => ∃ a b d, RepR T K H x a ∧ RepR T K H y b ∧ ixD a b = some d ∧ ∀ v, Rep T K H v d → Q v H
theorem ix_d {k : Nat} (hr : Room k X.A) : IxR X (rIx T X.K) := by
  intro value slice pins s σ H x y v u Q I rx ry h hs
  obtain ⟨a, b, d, ra, rb, e, q⟩ := h
  unfold ixD at e
  split at e
  · split at e
    · split at e
      · rename_i xs _ i _ j hj
        obtain ⟨p, vs, e1, s1, r1⟩ := ra.lst
        obtain ⟨z, hz, rz⟩ := r1.get' e
        rw [e1] at rx; rw [rb.int] at ry
        exact ix_list value slice pins s σ H _ _ v u Q I rx ry ⟨p, vs, i, z, rfl, rfl, .inl s1, by unfold atI; rw [r1.length, ← idx_eq, hj]; exact hz, q z rz⟩ hs
      · cases e
    · cases e
  · split at e
    · split at e
      · rename_i xs _ i _ j hj
        obtain ⟨p, vs, e1, s1, r1⟩ := ra.tup
        obtain ⟨z, hz, rz⟩ := r1.get' e
        rw [e1] at rx; rw [rb.int] at ry
        exact ix_tup value slice pins s σ H _ _ v u Q I rx ry ⟨p, vs, i, z, rfl, rfl, s1, by unfold atI; rw [r1.length, ← idx_eq, hj]; exact hz, q z rz⟩ hs
      · cases e
    · cases e
  · split at e
    · split at e
      · rename_i xs _ i _ j hj
        obtain ⟨e1, hb, hz⟩ := ra.str
        rw [e1] at rx; rw [rb.int] at ry
        obtain ⟨c, hc, ec⟩ := Option.map_eq_some_iff.mp e
        subst ec
        refine ix_str value slice pins s σ H _ _ v u Q I rx ry ⟨tx xs, i, c, rfl, rfl, by rw [len_tx]; exact hz, ?_, q _ (.str [c] ?_ ?_)⟩ hs
        · unfold atI
          have : (tx xs).cps.toList = xs := by simp [tx]
          rw [this, ← idx_eq, hj]; exact hc
        · intro x hx
          have : x = c := by simpa using hx
          subst this
          exact hb x (List.mem_of_getElem? hc)
        · simp
      · cases e
    · cases e
  · split at e
    · rename_i kvs hk
      obtain ⟨p, kv, e1, s1, r1⟩ := ra.dct
      subst e1
      cases rx
      obtain ⟨ky, hky, ex⟩ := rb.key hk
      subst ex
      rcases r1.val hky with ⟨_, e2⟩ | ⟨z, d', e1, e2, rz⟩
      · rw [e2] at e; cases e
      · rw [e2] at e; cases e
        have g : DGet H p (kV ky) (some z) := .inl ⟨kv, ky, s1, rfl, e1.symm⟩
        exact tail_any (dict_typeIs I g) PySem.F.slot_dict_getitem.lookup (d_getItem (by have := hr.units; omega) I g ry fun w' s3 I3 rw' => ⟨z, H, I3, rw', q z rz⟩) hs
    · cases e
  · cases e
theorem de_ix {k : Nat} {fa fb : Ep} (hr : Room k X.A) (ha : DO T X W a fa) (hb : DO T X W b fb) (hs : PlainIx b := by exact fun _ _ => rfl) : DE T X W (.Subscript a b pos) (eOp2 ixD fa fb) :=
  pe_weak (pe_ix (ix_d hr) ha hb hs) fun σ H Q ⟨l, m, R, q⟩ => ⟨l, m, R, (post.bind q).imp fun ox l1 m1 H1 mo1 R1 q1 v1 r1 => ⟨l1, m1, R1, (post.bind q1.2).imp fun oy l2 m2 H2 mo2 R2 q2 v2 r2 => by
    have q2 := q2.2
    cases e1 : ox.get l2 with
    | none => rw [e1] at q2; exact q2.elim
    | some d =>
      cases e2 : oy.get l2 with
      | none => rw [e1, e2] at q2; exact q2.elim
      | some d' =>
        rw [e1, e2] at q2
        obtain ⟨r, er, q2⟩ := post.lift q2
        exact ⟨d, d', r, r1.get mo2 R2 e1, r2.get .refl R2 e2, er, fun v rp => q2 H2 .refl R2 v rp⟩⟩⟩
/-! ### slices -/
theorem six_eq (n d : Nat) (o : Option Int) : six n d o = HT.sIx n d o := by cases o <;> rfl
theorem cut_eq {α : Type} (xs : List α) (lo hi : Option Int) : cut xs lo hi = (xs.drop (HT.sIx xs.length 0 lo)).take (HT.sIx xs.length xs.length hi - HT.sIx xs.length 0 lo) := by
  unfold cut; simp only [six_eq]
theorem Reps.drop {K : PySem.W.Frag} {vs : List V} {ds : List D} (h : Reps T K H vs ds) : ∀ n, Reps T K H (vs.drop n) (ds.drop n) := fun n => by
  induction n generalizing vs ds with
  | zero => exact h
  | succ n ih =>
    cases h with
    | nil => exact .nil
    | cons r t => exact ih t
theorem Reps.take {K : PySem.W.Frag} {vs : List V} {ds : List D} (h : Reps T K H vs ds) : ∀ n, Reps T K H (vs.take n) (ds.take n) := fun n => by
  induction n generalizing vs ds with
  | zero => exact .nil
  | succ n ih =>
    cases h with
    | nil => exact .nil
    | cons r t => exact .cons r (ih t)
theorem Reps.cut {K : PySem.W.Frag} {vs : List V} {ds : List D} (h : Reps T K H vs ds) (lo hi : Option Int) : Reps T K H (cutV vs lo hi) (DS.cut ds lo hi) := by
  unfold cutV
  rw [cut_eq, h.length]
  exact (h.drop _).take _
def tDZ (T : Tab) (K : PySem.W.Frag) (W : WX) (f : Ez) : TO := fun σ H Q => ∃ l m, Rel T K l m σ H ∧ post T K W (f l m) σ H fun o _ _ H' => Q o H'
theorem po_weak {e : Option Expr} {t t' : TO} (h : PO X e t) (w : ∀ σ H Q, t' σ H Q → t σ H Q) : PO X e t' := ⟨fun pins s σ H Q I q => h.run pins s σ H Q I (w σ H Q q)⟩
abbrev DZ (T : Tab) (X : Cx) (W : WX) (e : Option Expr) (f : Ez) : Prop := PO X e (tDZ T X.K W f)
theorem dz_none : DZ T X W none zNone := po_weak po_none fun σ H Q ⟨l, m, R, q⟩ => q H .refl R
theorem dz_some {fe : Ex} (h : DE T X W e fe) : DZ T X W (some e) (zSome fe) := po_weak (po_some h) fun σ H Q ⟨l, m, R, q⟩ => ⟨l, m, R, (post.bind q).imp fun d l1 m1 H1 mo R1 q1 v r => by
  obtain ⟨_, q1⟩ := q1
  cases d with
  | int i => cases r; exact ⟨i, rfl, q1 H1 .refl R1⟩
  | _ => exact q1.elim⟩
def rSl (T : Tab) (K : PySem.W.Frag) : V → Option Int → Option Int → Hp → VK → Prop := fun x lo hi H Q => ∃ a d, RepR T K H x a ∧ slD a lo hi = some d ∧ ∀ v H', Grow H H' → Rep T K H' v d → Q v H'
def rSlF (T : Tab) (K : PySem.W.Frag) : V → Option Int → Option Int → Hp → VK → Prop := fun x lo hi H Q => ∃ a d, RepR T K H x a ∧ slF a lo hi = some d ∧ ∀ p H', Grow H H' → H p = none → Own T K H' p d → Q (.ref p) H'
theorem cut_tx (l : List Nat) (lo hi : Option Int) : cutS (tx l) lo hi = tx (cut l lo hi) := by
  unfold cutS
  rw [cut_eq, len_tx]
  have : (tx l).cps.toList = l := by simp [tx]
  rw [this]; rfl
theorem cut_length {α : Type} (xs : List α) (lo hi : Option Int) : (cut xs lo hi).length ≤ xs.length := by
  unfold cut; rw [List.length_take, List.length_drop]; omega
theorem cut_sub {α : Type} {xs : List α} {lo hi : Option Int} {x : α} (h : x ∈ cut xs lo hi) : x ∈ xs := by
  unfold cut at h
  exact List.mem_of_mem_drop (List.mem_of_mem_take h)
theorem sl_d : L2.SlR X (rSl T X.K) := by
  intro pins s σ H x v vl vu lo hi sl Q I rx hs pl pu h
  obtain ⟨a, d, ra, e, q⟩ := h
  unfold slD at e
  split at e
  · rename_i xs
    cases e
    obtain ⟨e1, hb, hz⟩ := ra.str
    rw [e1] at rx
    refine sl_str pins s σ H _ v vl vu lo hi sl Q I rx hs pl pu ⟨tx xs, rfl, by rw [len_tx]; exact hz, ?_⟩
    rw [cut_tx]
    exact q _ H .refl (.str _ (fun c hc => hb c (cut_sub hc)) (Nat.le_trans (cut_length _ _ _) hz))
  · rename_i xs
    cases e
    obtain ⟨p, vs, e1, s1, r1⟩ := ra.tup
    rw [e1] at rx
    refine sl_tupA pins s σ H _ v vl vu lo hi sl Q I rx hs pl pu ⟨p, vs, rfl, s1, fun hw => ?_, fun hw p' hp => ?_⟩
    · have : cutV vs lo hi = vs := by
        unfold cutV
        rw [hw.1, hw.2]; simp
      exact q _ H .refl (.tup s1 (by have := r1.cut lo hi; rwa [‹cutV vs lo hi = vs›] at this))
    · exact q _ _ (.upd hp) (.tup (SqT.of upd_same) ((r1.cut lo hi).mono (Grow.upd hp).mono))
  · cases e
theorem sl_f : L2.SlR X (rSlF T X.K) := by
  intro pins s σ H x v vl vu lo hi sl Q I rx hs pl pu h
  obtain ⟨a, d, ra, e, q⟩ := h
  unfold slF at e
  split at e
  · rename_i xs
    cases e
    obtain ⟨p, vs, e1, s1, r1⟩ := ra.lst
    rw [e1] at rx
    exact sl_list pins s σ H _ v vl vu lo hi sl Q I rx hs pl pu ⟨p, vs, rfl, .inl s1, fun p' hp => q _ _ (.upd hp) hp (.lst upd_same ((r1.cut lo hi).mono (Grow.upd hp).mono))⟩
  · cases e
theorem de_sl {fa : Ep} {lo hi : Option Expr} {fl fh : Ez} {p2 : Pos} (ha : DO T X W a fa) (hl : DZ T X W lo fl) (hh : DZ T X W hi fh) : DE T X W (.Subscript a (.Slice lo hi none p2) pos) (eSl slD fa fl fh) :=
  pe_weak (pe_slice sl_d ha hl hh) fun σ H Q ⟨l, m, R, q⟩ => ⟨l, m, R, (post.bind q).imp fun ox l1 m1 H1 mo1 R1 q1 v1 r1 => ⟨l1, m1, R1, (post.bind q1.2).imp fun i l2 m2 H2 mo2 R2 q2 => ⟨l2, m2, R2, (post.bind q2.2).imp fun j l3 m3 H3 mo3 R3 q3 => by
    have q3 := q3.2
    cases e1 : ox.get l3 with
    | none => rw [e1] at q3; exact q3.elim
    | some d =>
      rw [e1] at q3
      obtain ⟨r, er, q3⟩ := post.lift q3
      exact ⟨d, r, r1.get (mo2.trans mo3) R3 e1, er, fun v H' g rp => q3 H' g.mono (R3.grow g) v rp⟩⟩⟩⟩
theorem df_sl {fa : Ep} {lo hi : Option Expr} {fl fh : Ez} {p2 : Pos} (ha : DO T X W a fa) (hl : DZ T X W lo fl) (hh : DZ T X W hi fh) : DF T X W (.Subscript a (.Slice lo hi none p2) pos) (eSl slF fa fl fh) :=
  pe_weak (pe_slice sl_f ha hl hh) fun σ H Q ⟨l, m, R, q⟩ => ⟨l, m, R, (post.bind q).imp fun ox l1 m1 H1 mo1 R1 q1 v1 r1 => ⟨l1, m1, R1, (post.bind q1.2).imp fun i l2 m2 H2 mo2 R2 q2 => ⟨l2, m2, R2, (post.bind q2.2).imp fun j l3 m3 H3 mo3 R3 q3 => by
    have q3 := q3.2
    cases e1 : ox.get l3 with
    | none => rw [e1] at q3; exact q3.elim
    | some d =>
      rw [e1] at q3
      obtain ⟨r, er, q3⟩ := post.lift q3
      exact ⟨d, r, r1.get (mo2.trans mo3) R3 e1, er, fun p H' g hp ow => q3 H' g.mono (R3.grow g) p ow (R3.fresh hp)⟩⟩⟩⟩
/-! ### stars -/
theorem da_star {fp : Ep} {fr : Ea} {p : Pos} (he : DO T X W e fp) (hr : DA T X W es fr) (hs : starEach (.Starred e p :: es) X.env = (true, eval e X.env) :: starEach es X.env := by rfl) : DA T X W (.Starred e p :: es) (aStar fp fr) :=
  pa_weak (StX.pa_star he hr hs) fun σ H Q ⟨l, m, R, q⟩ => ⟨l, m, R, (post.bind q).imp fun ox l1 m1 H1 mo1 R1 q1 v1 r1 => by
    have q1 := q1.2
    cases e1 : ox.get l1 with
    | none => rw [e1] at q1; exact q1.elim
    | some d =>
      rw [e1] at q1
      dsimp only at q1
      cases e2 : starD d with
      | none => rw [e2] at q1; exact q1.elim
      | some xs =>
        rw [e2] at q1
        dsimp only at q1
        have rp := r1.get .refl R1 e1
        have go : ∀ {p : Addr} {vs : List V}, v1 = V.ref p → (SqT X.K H1 p vs ∨ SqL X.K H1 p vs) → Reps T X.K H1 vs xs → StX.tStar X.K (fun _ H Q => Q v1 H) (tDA T X.K W fr) σ H1 Q := fun {p vs} ev hs rs =>
          ⟨p, vs, ev, hs, l1, m1, R1, (post.bind q1).imp fun ds l2 m2 H2 mo2 R2 q2 ys r2 => q2.2 H2 .refl R2 _ ((rs.mono mo2).append r2)⟩
        unfold starD at e2
        split at e2
        · cases e2
          obtain ⟨p, vs, ev, s1, rs⟩ := rp.lst
          exact go ev (.inr (.inl s1)) rs
        · cases e2
          obtain ⟨p, vs, ev, s1, rs⟩ := rp.tup
          exact go ev (.inl s1) rs
        · cases e2⟩
end
end DS
end

section
set_option Elab.async false
set_option linter.all false
set_option maxRecDepth 100000
set_option maxHeartbeats 2000000
namespace DS
open PySem PySem.Spec PyProof.Rows L2
/-- other changing objects, another entry -/
abbrev Tab.w (T : Tab) (γ ι : List Addr) (B : Hp) : Tab := { T with γ := γ, ι := ι, B := B }
abbrev Tab.v (T : Tab) (ι : List Addr) (B : Hp) : Tab := { T with ι := ι, B := B }
abbrev B0 : Hp := fun _ => none
section
variable {T : Tab} {K : PySem.W.Frag} {H : Hp} (ι : List Addr) (B : Hp)
mutual
theorem Rep.v {v : V} {d : D} (h : Rep T K H v d) : Rep (T.v ι B) K H v d := match h with
  | .non => .non
  | .bl b => .bl b
  | .int i => .int i
  | .str l b z => .str l b z
  | .tup s r => .tup s (Reps.v r)
  | .lst s r => .lst s (Reps.v r)
  | .dct e r => .dct e (RepKs.v r)
  | .ins e r => .ins e (RepFs.v r)
  | .lam e g => .lam e g
  | .cell e => .cell e
theorem Reps.v {vs : List V} {ds : List D} (h : Reps T K H vs ds) : Reps (T.v ι B) K H vs ds := match h with
  | .nil => .nil
  | .cons r t => .cons (Rep.v r) (Reps.v t)
theorem RepKs.v {vs : List (Key × V)} {ds : List (D × D)} (h : RepKs T K H vs ds) : RepKs (T.v ι B) K H vs ds := match h with
  | .nil => .nil
  | .cons k r t => .cons k (Rep.v r) (RepKs.v t)
theorem RepFs.v {vs : List (Str × V)} {ds : List (Nat × D)} (h : RepFs T K H vs ds) : RepFs (T.v ι B) K H vs ds := match h with
  | .nil => .nil
  | .cons q r t => .cons q (Rep.v r) (RepFs.v t)
end
theorem Own.v {a : Addr} {d : D} (h : Own T K H a d) : Own (T.v ι B) K H a d := match h with
  | .lst p r => .lst p (Reps.v ι B r)
  | .dct p r => .dct p (RepKs.v ι B r)
  | .ins p r => .ins p (RepFs.v ι B r)
theorem MemR.v {m : Mem} (M : MemR T K H m) : MemR (T.v ι B) K H m := ⟨M.len, M.nd, M.tb, fun k a d h1 h2 => (M.at_ k a d h1 h2).v ι B⟩
theorem ExcR.v {c : Nat} {fs : List D} {cls : Value} {dd : Option Addr} (h : ExcR T K H c fs cls dd) : ExcR (T.v ι B) K H c fs cls dd := by
  obtain ⟨e, h⟩ := h
  refine ⟨e, ?_⟩
  rcases h with h | ⟨d, vs, e1, e2, r, z⟩
  · exact .inl h
  · exact .inr ⟨d, vs, e1, e2, r.v ι B, z⟩
end
/-! ### attributes -/
structure TabI (T : Tab) : Prop where
  inj : ∀ i j, i < T.nf → j < T.nf → T.fld i = T.fld j → i = j
section
variable {T : Tab} {X : Cx} {W : WX} {pos : Pos} {a b c e : Expr} {es : List Expr} {l : Loc} {m : Mem} {σ : L2.St} {H H1 : Hp}
theorem RepFs.lookup {K : PySem.W.Frag} (hi : TabI T) {fs : List (Str × V)} {ds : List (Nat × D)} (r : RepFs T K H fs ds) {f : Nat} {d : D} (e : ds.lookup f = some d) : f < T.nf ∧ ∃ v, fs.lookup (T.fld f) = some v ∧ Rep T K H v d := match r with
  | .nil => by cases e
  | .cons (f := g) (v := v) (d := d') q r t => by
    by_cases h : f = g
    · subst h
      rw [List.lookup_cons_self] at e
      cases e
      exact ⟨q, v, List.lookup_cons_self, r⟩
    · have hb : (f == g) = false := beq_eq_false_iff_ne.mpr h
      simp only [List.lookup, hb] at e
      obtain ⟨q', v', e', r'⟩ := RepFs.lookup hi t e
      have hb2 : (T.fld f == T.fld g) = false := beq_eq_false_iff_ne.mpr fun z => h (hi.inj f g q' q z)
      exact ⟨q', v', by simp only [List.lookup, hb2]; exact e', r'⟩
theorem RepFs.none {K : PySem.W.Frag} {fs : List (Str × V)} {ds : List (Nat × D)} (r : RepFs T K H fs ds) {x : Str} (e : ∀ i, i < T.nf → T.fld i ≠ x) : fs.lookup x = none := match r with
  | .nil => rfl
  | .cons (f := g) q r t => by
    have hb : (x == T.fld g) = false := beq_eq_false_iff_ne.mpr fun z => e g q z.symm
    simp only [List.lookup, hb]
    exact RepFs.none t e
theorem RepR.seen {K : PySem.W.Frag} {v : V} {d d' : D} (M : MemR T K H m) (h : RepR T K H v d) (e : DS.seen m d = some d') : RepR T K H v d' := by
  cases d <;> simp only [DS.seen] at e <;> first | (cases e; exact h) | skip
  rename_i k
  rcases h with h | ⟨a, e1, h⟩
  · cases h with
    | cell e2 => exact .inr ⟨_, rfl, M.at_ _ _ _ e2 e⟩
  · cases h
theorem getattr_rd {A : Around} {E : Value → Shared → Prop} {pins : List (Addr × Obj)} {s : Shared} {a C dx : Addr} {fs : List (Str × V)} {f : Str} {v : V} {b : Bool} {Q : Value → Shared → Prop} (I : Inv X pins σ H s) (e : Rd H a (.ins C dx fs)) (c : Cls X.K C) (n : NoAttr X.K C f) (l : fs.lookup f = some v)
    (h : ∀ u s', Inv X pins σ H s' → RelV v u → Q u s') : wpAny (model X.prog X.w) A (getAttr (.ref a) f b) Q E s := by
  obtain ⟨d, z, ne, ob, mA, n1, r, q⟩ := (show ObjOk X.prog X.w H s.heap a (.ins C dx fs) from e.ok I.hok)
  obtain ⟨u, hu, ru⟩ := RelO.some_of (v := v) (o := mA f) (by rw [← l]; exact r f)
  exact get_map I.kIn ⟨ob, n1, ne⟩ (c.get f) c.hd n hu (handed_of ru) (h u _ (I.tok _) ru)
theorem getmeth_rd {A : Around} {E : Value → Shared → Prop} {pins : List (Addr × Obj)} {s : Shared} {a C dx : Addr} {fs : List (Str × V)} {m : Str} {g : Addr} {pl : Sem Bool} {Q : Value × List Value → Shared → Prop} (I : Inv X pins σ H s) (e : Rd H a (.ins C dx fs)) (c : Cls X.K C) (k : Meth X.K C m g) (l : fs.lookup m = none)
    (h : Q (.ref g, [.ref a]) s) : wpAny (model X.prog X.w) A (getMethod (.ref a) m pl) Q E s := by
  obtain ⟨d, z, ne, ob, mA, n1, r, q⟩ := (show ObjOk X.prog X.w H s.heap a (.ins C dx fs) from e.ok I.hok)
  have hn : mA m = none := RelO.none_of (by rw [← l]; exact r m)
  exact get_meth I.kIn ⟨ob, n1, ne⟩ (c.get m) k.at_ k.fn hn h
def tFldR (K : PySem.W.Frag) (ta : TE) (f : Str) : TE := fun σ H Q => ta σ H fun x H1 => ∃ a C dx fs v, x = .ref a ∧ Rd H1 a (.ins C dx fs) ∧ Cls K C ∧ NoAttr K C f ∧ fs.lookup f = some v ∧ Q v H1
theorem pe_fldR {f : Str} {ta : TE} (he : PE X e ta) (hb : attributeBase e f X.env (eval e X.env) = eval e X.env) : PE X (.Attribute e f pos) (tFldR X.K ta f) := by
  refine ⟨fun pins s σ H Q I h => ?_⟩
  refine attr_of hb (thn (he.run pins s σ H _ I h) fun u s1 ⟨x, H1, I1, rx, a, C, dx, fs, v, ex, ea, c, n, l, q⟩ => ?_)
  subst ex
  obtain rfl : u = Value.ref a := rx
  exact getattr_rd I1 ea c n l fun u' s2 I2 ru => ⟨v, H1, I2, ru, q⟩
theorem de_fld {cs : List Nat} {f : Nat} {x : Str} {fp : Ep} (hi : TabI T) (hc : ∀ c ∈ cs, Cls X.K (T.cls c) ∧ NoAttr X.K (T.cls c) x) (hx : T.fld f = x) (hp : DO T X W e fp) (hb : attributeBase e x X.env (eval e X.env) = eval e X.env := by rfl) : DE T X W (.Attribute e x pos) (eFld cs f fp) :=
  pe_weak (pe_fldR hp hb) fun σ H Q ⟨l, m, R, q⟩ => ⟨l, m, R, (post.bind q).imp fun ox l1 m1 H1 mo1 R1 q1 v1 r1 => by
    have q1 := q1.2
    cases e1 : ox.get l1 with
    | none => rw [e1] at q1; exact q1.elim
    | some d =>
      rw [e1] at q1
      dsimp only at q1
      cases e2 : DS.seen m1 d with
      | none => rw [e2] at q1; exact q1.elim
      | some d' =>
        rw [e2] at q1
        dsimp only at q1
        obtain ⟨r, er, q2⟩ := post.lift q1
        clear q1
        have rp := (r1.get .refl R1 e1).seen R1.mem e2
        unfold fldC at er
        split at er
        · rename_i c fs
          split at er
          · rename_i hcs
            obtain ⟨p, dx, vs, ep, rd, rf⟩ := rp.ins
            obtain ⟨_, v, ev, rv⟩ := rf.lookup hi er
            obtain ⟨k1, k2⟩ := hc c (by simpa using hcs)
            exact ⟨p, _, dx, vs, v, ep, rd, k1, k2, by rw [← hx]; exact ev, q2 H1 .refl R1 v rv⟩
          · cases er
        · cases er⟩

/-! ### calls -/
/-- what a def answers -/
def postC (T : Tab) (K : PySem.W.Frag) (r : DS.RC) (H : Hp) (Q : VK) (E : XK) : Prop := match r with
  | .ok d m => ∀ v H', Stay T.tq T.γ H H' → MemR T K H' m → Rep T K H' v d → Q v H'
  | .ex c fs m => ∀ cls dd H', Stay T.tq T.γ H H' → MemR T K H' m → ExcR T K H' c fs cls dd → E cls dd H'
  | .bad => False
/-- a def's promise -/
def spD (T : Tab) (K : PySem.W.Frag) (F : List D → Mem → DS.RC) : Sp := fun vs H Q E => ∃ γ ds m, Reps (T.w γ [] B0) K H vs ds ∧ MemR (T.w γ [] B0) K H m ∧ postC (T.w γ [] B0) K (F ds m) H Q E
/-- what an __init__ answers: the object -/
def postI (T : Tab) (x : Addr) (K : PySem.W.Frag) (r : DS.RC) (H : Hp) (Q : VK) (E : XK) : Prop := match r with
  | .ok d m => ∀ H', Stay T.tq (T.γ ++ [x]) H H' → MemR T K H' m → Own T K H' x d → Q .non H'
  | .ex c fs m => ∀ cls dd H', Stay T.tq (T.γ ++ [x]) H H' → MemR T K H' m → ExcR T K H' c fs cls dd → E cls dd H'
  | .bad => False
def spI (T : Tab) (K : PySem.W.Frag) (c : Nat) (F : List D → Mem → DS.RC) : Sp := fun vs H Q E => ∃ γ ds m x dx ws, vs = .ref x :: ws ∧ H x = some (.ins (T.cls c) dx []) ∧ x ∉ γ ∧ Reps (T.w γ [] B0) K H ws ds ∧ MemR (T.w γ [] B0) K H m ∧ postI (T.w γ [] B0) x K (F ds m) H Q E
/-- a def that answers so -/
abbrev FnD (T : Tab) (P : Program) (w : World) (K : PySem.W.Frag) (mg : Str → Option Value) (base : Heap) (k : Nat) (f : Addr) (fd : FuncData) (ps : List Str) (F : List D → Mem → DS.RC) : Prop := FnOk P w K mg base (L2.CX P w) k f fd ps (spD T K F)
abbrev FnI (T : Tab) (P : Program) (w : World) (K : PySem.W.Frag) (mg : Str → Option Value) (base : Heap) (k c : Nat) (f : Addr) (fd : FuncData) (ps : List Str) (F : List D → Mem → DS.RC) : Prop := FnOk P w K mg base (L2.CX P w) k f fd ps (spI T K c F)
section
variable {P : Program} {w : World} {K : PySem.W.Frag} {mg : Str → Option Value} {base : Heap} {f : Addr} {fd : FuncData} {ps : List Str} {k : Nat}
theorem fnD_bad : FnD T P w K mg base k f fd ps (fun _ _ => .bad) := ⟨fun vs H Q E ⟨_, _, _, _, _, h⟩ => h.elim, fun _ _ _ _ _ _ _ _ _ _ _ _ _ ⟨_, _, _, _, _, h⟩ => h.elim⟩
theorem fnI_bad {c : Nat} : FnI T P w K mg base k c f fd ps (fun _ _ => .bad) := ⟨fun vs H Q E ⟨_, _, _, _, _, _, _, _, _, _, _, h⟩ => h.elim, fun _ _ _ _ _ _ _ _ _ _ _ _ _ ⟨_, _, _, _, _, _, _, _, _, _, _, h⟩ => h.elim⟩
/-- a def, by its body -/
theorem fn_d {name qual : Str} {params : Arguments} {body : List Stmt} {scope : Scope} {dV kV doc pm cdv ct oc : Value} {an od : Option Addr}
    {osl : Array (Option Value)} {N : List Str} {F : Es} {z : Nat} (lk : K.lookup f = some ⟨oc, od, .func (PySem.W.fnOf name qual params body scope dV kV doc pm an cdv ct), osl⟩) (hcd : PySem.W.codeIn K cdv qual = true) (S : FnScope N ps scope) (hz : N.length = ps.length + z)
    (hb : ∀ (A : Around) (outer : List Env) (s : Shared) (H : Hp) (E : XK) (T' : Tab) (W : WX), (∃ γ, T' = T.w γ [] H) → Room k (A.deeper (envOfC qual scope s.heap.objs.size f cdv)) → Takes (cxOf (L2.CX P w) P w K mg base N qual scope f cdv A outer s H E) W →
      PassesOwn (model P w) (A.deeper (envOfC qual scope s.heap.objs.size f cdv)) (envOfC qual scope s.heap.objs.size f cdv) (cxOf (L2.CX P w) P w K mg base N qual scope f cdv A outer s H E).xe →
      DSs T' (cxOf (L2.CX P w) P w K mg base N qual scope f cdv A outer s H E) W body F) :
    FnD T P w K mg base (k + 1) f (PySem.W.fnOf name qual params body scope dV kV doc pm an cdv ct) ps (defD ps.length z F) := by
  refine fn_of lk hcd S (fun vs H Q E ⟨γ, ds, m, r, M, h⟩ => ?_) fun A outer s H vs Q E hr ⟨γ, ds, m, r, M, h⟩ => ?_
  · unfold defD at h
    split at h
    · rw [r.length]; assumption
    · exact h.elim
  · unfold defD at h
    split at h
    · rename_i hl
      have M : MemR (T.w γ [] H) K H m := M.v [] H
      have r : Reps (T.w γ [] H) K H vs ds := r.v [] H
      have tk : Takes (cxOf (L2.CX P w) P w K mg base N qual scope f cdv A outer s H E) (fun cls d _ H => E cls d H) := takes_of (E₁ := fun e' s'' => L2.CX P w outer H s E e' s'') rfl rfl rfl rfl
      refine ⟨_, hb A outer s H E (T.w γ [] H) _ ⟨γ, rfl⟩ hr tk (passes_of (K := fun e s'' => L2.CX P w outer H s E e s'') (E₁ := fun e' s'' => L2.CX P w outer H s E e' s'') rfl), startL ds z, m, ?_, ?_⟩
      · have hvl := r.length
        refine ⟨?_, fun i sl e => ?_, fun i j s t a hij e1 e2 c1 => ?_, M, .refl⟩
        · unfold L2.start startL
          simp [hvl, hl, hz]
        · unfold startL at e
          by_cases hi : i < ds.length
          · rw [List.getElem?_append_left (by simpa using hi), List.getElem?_map] at e
            obtain ⟨d, ed, e⟩ := Option.map_eq_some_iff.mp e
            cases e
            obtain ⟨v, ev, rv⟩ := r.get' ed
            refine ⟨v, ?_, rv⟩
            unfold L2.start
            rw [List.getElem?_append_left (by rw [List.length_map, hvl]; exact hi), List.getElem?_map, ev]; rfl
          · rw [List.getElem?_append_right (by simpa using hi), List.getElem?_replicate] at e
            split at e <;> cases e
        · unfold startL at e1
          by_cases hi : i < ds.length
          · rw [List.getElem?_append_left (by simpa using hi), List.getElem?_map] at e1
            obtain ⟨d', ed, e1⟩ := Option.map_eq_some_iff.mp e1
            cases e1
            cases c1
          · rw [List.getElem?_append_right (by simpa using hi), List.getElem?_replicate] at e1
            split at e1 <;> cases e1
      · generalize hR : F (startL ds z) m = R at h
        cases R with
        | nx l' m' => exact fun σ' H' mo R' => h .non H' (R'.stay.sub fun a z => by simpa using z) (R'.mem.v [] B0) .non
        | rt d l' m' => exact fun v σ' H' mo R' rv => h v H' (R'.stay.sub fun a z => by simpa using z) (R'.mem.v [] B0) (rv.v [] B0)
        | ex c fs l' m' => exact fun cls dd σ' H' mo R' x => h cls dd H' (R'.stay.sub fun a z => by simpa using z) (R'.mem.v [] B0) (x.v [] B0)
        | bk l' m' => exact h.elim
        | ct l' m' => exact h.elim
        | bad => exact h.elim
    · exact h.elim
/-- an __init__, by its body -/
theorem fn_i {name qual : Str} {params : Arguments} {body : List Stmt} {scope : Scope} {dV kV doc pm cdv ct oc : Value} {an od : Option Addr} {c : Nat}
    {osl : Array (Option Value)} {N : List Str} {F : Es} {a z : Nat} (lk : K.lookup f = some ⟨oc, od, .func (PySem.W.fnOf name qual params body scope dV kV doc pm an cdv ct), osl⟩) (hcd : PySem.W.codeIn K cdv qual = true) (S : FnScope N ps scope) (ha : ps.length = a + 1) (hz : N.length = ps.length + z)
    (hb : ∀ (A : Around) (outer : List Env) (s : Shared) (H : Hp) (E : XK) (T' : Tab) (W : WX), (∃ γ x, T' = T.w γ [x] H) → Room k (A.deeper (envOfC qual scope s.heap.objs.size f cdv)) → Takes (cxOf (L2.CX P w) P w K mg base N qual scope f cdv A outer s H E) W →
      PassesOwn (model P w) (A.deeper (envOfC qual scope s.heap.objs.size f cdv)) (envOfC qual scope s.heap.objs.size f cdv) (cxOf (L2.CX P w) P w K mg base N qual scope f cdv A outer s H E).xe →
      DSs T' (cxOf (L2.CX P w) P w K mg base N qual scope f cdv A outer s H E) W body F) :
    FnI T P w K mg base (k + 1) c f (PySem.W.fnOf name qual params body scope dV kV doc pm an cdv ct) ps (initD c a z F) := by
  refine fn_of lk hcd S (fun vs H Q E ⟨γ, ds, m, x, dx, ws, ev, hx, ng, r, M, h⟩ => ?_) fun A outer s H vs Q E hr ⟨γ, ds, m, x, dx, ws, ev, hx, ng, r, M, h⟩ => ?_
  · unfold initD at h
    split at h
    · rw [ev, List.length_cons, r.length, ha]; omega
    · exact h.elim
  · unfold initD at h
    split at h
    · rename_i hl
      subst ev
      have M : MemR (T.w γ [x] H) K H m := M.v [x] H
      have r : Reps (T.w γ [x] H) K H ws ds := r.v [x] H
      have tk : Takes (cxOf (L2.CX P w) P w K mg base N qual scope f cdv A outer s H E) (fun cls d _ H => E cls d H) := takes_of (E₁ := fun e' s'' => L2.CX P w outer H s E e' s'') rfl rfl rfl rfl
      refine ⟨_, hb A outer s H E (T.w γ [x] H) _ ⟨γ, x, rfl⟩ hr tk (passes_of (K := fun e s'' => L2.CX P w outer H s E e s'') (E₁ := fun e' s'' => L2.CX P w outer H s E e' s'') rfl), some (.s (.ins c [])) :: startL ds z, m, ?_, ?_⟩
      · have hvl := r.length
        have nv : ∀ (i : Nat) (s : Sl), (startL ds z)[i]? = some (some s) → s.chg = true → False := fun i s e1 c1 => by
          unfold startL at e1
          by_cases hi : i < ds.length
          · rw [List.getElem?_append_left (by simpa using hi), List.getElem?_map] at e1
            obtain ⟨d', ed, e1⟩ := Option.map_eq_some_iff.mp e1
            cases e1
            cases c1
          · rw [List.getElem?_append_right (by simpa using hi), List.getElem?_replicate] at e1
            split at e1 <;> cases e1
        refine ⟨?_, fun i sl e => ?_, fun i j s t a hij e1 e2 c1 c2 => ?_, M, .refl⟩
        · unfold L2.start startL
          simp [hvl, hl, hz, ha]
        · cases i with
          | zero =>
            cases e
            exact ⟨.ref x, rfl, x, rfl, .ins hx .nil, by simp, ng⟩
          | succ i =>
            rw [List.getElem?_cons_succ] at e
            unfold startL at e
            by_cases hi : i < ds.length
            · rw [List.getElem?_append_left (by simpa using hi), List.getElem?_map] at e
              obtain ⟨d, ed, e⟩ := Option.map_eq_some_iff.mp e
              cases e
              obtain ⟨v, ev, rv⟩ := r.get' ed
              refine ⟨v, ?_, rv⟩
              unfold L2.start
              rw [List.map_cons, List.cons_append, List.getElem?_cons_succ, List.getElem?_append_left (by rw [List.length_map, hvl]; exact hi), List.getElem?_map, ev]; rfl
            · rw [List.getElem?_append_right (by simpa using hi), List.getElem?_replicate] at e
              split at e <;> cases e
        · cases i with
          | zero =>
            cases j with
            | zero => exact absurd rfl hij
            | succ j => exact (nv _ _ e2 c2).elim
          | succ i => exact (nv _ _ e1 c1).elim
      · have st : ∀ a, a ∈ (T.w γ [x] H).free → a ∈ (T.w γ [] B0).γ ++ [x] := fun a z => z
        generalize hR : F (some (.s (.ins c [])) :: startL ds z) m = R at h
        cases R with
        | nx l' m' =>
          intro σ' H' mo R'
          cases l' with
          | nil => exact h.elim
          | cons s0 l' =>
            cases s0 with
            | none => exact h.elim
            | some s0 =>
              cases s0 with
              | v d => exact h.elim
              | r d => exact h.elim
              | o d => exact h.elim
              | s d =>
                obtain ⟨v, _, a, ea, ow, hι, _⟩ := R'.sl 0 _ rfl
                have : a = x := by simpa using hι
                subst this
                exact h H' (R'.stay.sub st) (R'.mem.v [] B0) (ow.v [] B0)
        | rt d l' m' => exact h.elim
        | ex c fs l' m' => exact fun cls dd σ' H' mo R' x => h cls dd H' (R'.stay.sub st) (R'.mem.v [] B0) (x.v [] B0)
        | bk l' m' => exact h.elim
        | ct l' m' => exact h.elim
        | bad => exact h.elim
    · exact h.elim
end
end
end DS
end

section
set_option Elab.async false
set_option linter.all false
set_option maxRecDepth 100000
set_option maxHeartbeats 2000000
namespace DS
open PySem PySem.Spec PyProof.Rows L2
section
variable {T : Tab} {X : Cx} {W : WX} {pos p apos : Pos} {a b c e o : Expr} {es : List Expr} {l : Loc} {m : Mem} {σ : L2.St} {H H1 : Hp}
variable {k : Nat} {f : Addr} {fd : FuncData} {ps : List Str} {x : Str}
/-- behind a call -/
theorem post_call {F : List D → Mem → DS.RC} {ds : List D} {vs : List V} {Q : D → Loc → Mem → Hp → Prop} (R : Rel T X.K l m σ H) (r : Reps T X.K H vs ds) (q : post T X.K W ((F ds m).res l) σ H Q) : spD T X.K F vs H (fun v H' => ∃ d m', Rep T X.K H' v d ∧ Mono H H' ∧ Rel T X.K l m' σ H' ∧ Q d l m' H') (WE W σ) := by
  refine ⟨T.γ, ds, m, r.v [] B0, R.mem.v [] B0, ?_⟩
  generalize hR : F ds m = rc at q ⊢
  cases rc with
  | ok d m' =>
      intro v H' (s : Stay T.tq T.γ H H') M rv
      have M' : MemR T X.K H' m' := M.v T.ι T.B
      have R' := R.call s M'
      exact ⟨d, m', (rv.v T.ι T.B : Rep T X.K H' v d), s.mono R.mem, R', q H' (s.mono R.mem) R'⟩
  | ex c fs m' =>
      intro cls dd H' (s : Stay T.tq T.γ H H') M x
      have M' : MemR T X.K H' m' := M.v T.ι T.B
      exact q cls dd H' (s.mono R.mem) (R.call s M') (x.v T.ι T.B : ExcR T X.K H' _ fs cls dd)
  | bad => exact q.elim
theorem spD_imp {K : PySem.W.Frag} {F : List D → Mem → DS.RC} {vs : List V} {Q Q' : VK} {E : XK} (h : spD T K F vs H Q E) (i : ∀ v H', Q v H' → Q' v H') : spD T K F vs H Q' E := by
  obtain ⟨γ, ds, m, r, M, h⟩ := h
  refine ⟨γ, ds, m, r, M, ?_⟩
  generalize F ds m = rc at h ⊢
  cases rc with
  | ok d m' => exact fun v H' s M r => i _ _ (h v H' s M r)
  | ex c fs m' => exact h
  | bad => exact h
theorem de_call {fa : Ea} {call : CallT} {i : Nat} (F : FnD T X.prog X.w X.K X.mg X.base k f fd ps (call i)) (hr : Room k X.A) (hg : Gl X x) (hm : X.mg x = some (.ref f)) (hk : PySem.W.keepIn X.K (.ref f) = true) (hb : Binds X.K fd ps []) (tk : Takes X W)
    (ha : DA T X W (e :: es) fa) (hdb : (x == ("__debug__" : Str)) = false := by decide) (he : starEach (e :: es) X.env = (false, eval e X.env) :: starEach es X.env := by rfl) (hpl : (backTo pos (starEach es X.env)).any (·.1) = false := by rfl) :
    DE T X W (.Call (.Name x p) (e :: es) [] pos) (eCall call i fa) :=
  pe_weak (pe_callS (E := WE W) F hr hg hm hk hb (fun σ => passAt tk σ) ha hdb he hpl) fun σ H Q ⟨l, m, R, q⟩ => ⟨l, m, R, (post.bind q).imp fun ds l1 m1 H1 mo R1 q1 vs r => by
    exact spD_imp (post_call R1 r q1.2) fun v H' ⟨d, m', rv, _, _, q⟩ => q v rv⟩
theorem de_call0 {call : CallT} {i : Nat} (F : FnD T X.prog X.w X.K X.mg X.base k f fd ps (call i)) (hr : Room k X.A) (hg : Gl X x) (hm : X.mg x = some (.ref f)) (hk : PySem.W.keepIn X.K (.ref f) = true) (hb : Binds X.K fd ps []) (tk : Takes X W)
    (hdb : (x == ("__debug__" : Str)) = false := by decide) : DE T X W (.Call (.Name x p) [] [] pos) (eCall call i aNil) := by
  refine ⟨fun pins s σ H Q I ⟨l, m, R, q⟩ => ?_⟩
  refine wpAny_Call_Name_kw (ld_glob I hg hm ?_ hdb)
  refine PySem.W.callWith_K0 I.kIn hk (run_fnS (us := []) (vs := []) (E := WE W) F hr hb (passAt tk σ) I .nil ?_)
  have q : post T X.K W ((call i [] m).res l) σ H _ := (post.bind q H .refl R).2
  exact spD_imp (post_call R .nil q) fun v H' ⟨d, m', rv, _, _, q⟩ => q v rv

/-! ### methods -/
/-- a method of a class, by its def -/
structure MethD (T : Tab) (X : Cx) (x : Str) (C : Addr) (F : List D → Mem → DS.RC) : Prop where
  cls : Cls X.K C
  run : ∃ g k fd ps, Meth X.K C x g ∧ FnD T X.prog X.w X.K X.mg X.base k g fd ps F ∧ Room k X.A ∧ Binds X.K fd ps []
theorem lookup_mem {α β : Type} [BEq α] [LawfulBEq α] : ∀ {l : List (α × β)} {a : α} {b : β}, l.lookup a = some b → (a, b) ∈ l
  | (k, v) :: l, a, b, h => by
    simp only [List.lookup] at h
    split at h
    · rename_i hk
      cases h
      rw [beq_iff_eq] at hk
      subst hk
      exact List.mem_cons_self
    · exact List.mem_cons_of_mem _ (lookup_mem h)
theorem de_meth {pl : Sem Bool} {fo : Ex} {fa : Ea} {call : CallT} {ms : List (Nat × Nat)} (ho : DE T X W o fo) (hms : ∀ q ∈ ms, MethD T X x (T.cls q.1) (call q.2)) (hx : ∀ i, i < T.nf → T.fld i ≠ x) (tk : Takes X W) (ha : DA T X W (e :: es) fa)
    (hst : starEach (e :: es) X.env = (false, eval e X.env) :: starEach es X.env := by rfl) (hpl : (backTo pos (starEach es X.env)).any (·.1) = false := by rfl)
    (ht : eval (.Call (.Attribute o x apos) (e :: es) [] pos) X.env = (do
      let ov ← eval o X.env
      standAt apos.atName
      let (f, first) ← holding [ov] (getMethod ov x pl)
      callWith pos f first (backTo pos (starEach (e :: es) X.env)) (backToKw pos (keywordEach [] X.env))) := by rfl) :
    DE T X W (.Call (.Attribute o x apos) (e :: es) [] pos) (eMeth call ms fo fa) := by
  refine ⟨fun pins s σ H Q I ⟨l, m, R, q⟩ => ?_⟩
  have hq : tD T X.K W fo σ H fun v H1 => ∃ l m d, Rep T X.K H1 v d ∧ Rel T X.K l m σ H1 ∧ post T X.K W (match seen m d with
    | some (.ins c _) => match ms.lookup c with
      | some k => (fa l m).bind fun ds l m => (call k (d :: ds) m).res l
      | none => .bad
    | _ => .bad) σ H1 fun d _ _ H' => ∀ v, Rep T X.K H' v d → Q v H' := ⟨l, m, R, (post.bind q).imp fun d l1 m1 H1 mo R1 q1 v rv => ⟨l1, m1, d, rv, R1, q1.2⟩⟩
  refine PySem.W.methodCall_KW (pl := pl) (thn (ho.run pins s σ H _ I hq) fun u s1 ⟨v, H1, I1, rx, l, m, d, rv, R, q⟩ => ?_) ht
  split at q
  · rename_i c fs hsn
    split at q
    · rename_i k hk
      obtain ⟨p, dx, vs, ep, rd, rf⟩ := (RepR.seen R.mem (.inl rv) hsn).ins
      obtain ⟨k1, g, kk, fd, ps, k2, F, hr, hb⟩ := hms _ (lookup_mem hk)
      subst ep
      obtain rfl : u = Value.ref p := rx
      refine getmeth_rd I1 rd k1 k2 (rf.none hx) ?_
      have hq2 : tDA T X.K W fa σ H1 fun ws H2 => ∃ l m ds, Rep T X.K H2 (.ref p) d ∧ Reps T X.K H2 ws ds ∧ Rel T X.K l m σ H2 ∧ post T X.K W ((call k (d :: ds) m).res l) σ H2 fun d _ _ H' => ∀ v, Rep T X.K H' v d → Q v H' := ⟨l, m, R, (post.bind q).imp fun ds l1 m1 H2 mo R1 q1 ws rs => ⟨l1, m1, ds, rv.mono mo, rs, R1, q1.2⟩⟩
      refine PySem.W.callWith_K (first := [.ref p]) (h₀ := X.base) I.ok.mod.kin k2.kp (thn (ha.run pos pins s1 σ H1 _ I1 hq2) fun us s2 ⟨ws, H2, I2, r, l, m, ds, rv, rs, R, q2⟩ => ⟨I2.kIn, ?_⟩) hst hpl
      exact run_fnS (us := .ref p :: us) (vs := .ref p :: ws) (E := WE W) F hr hb (passAt tk σ) I2 (.cons rfl r) (spD_imp (post_call R (.cons rv rs) q2) fun v H' ⟨d, m', rv, _, _, q⟩ => q v rv)
    · exact q.elim
  · exact q.elim
theorem de_meth0 {pl : Sem Bool} {fo : Ex} {call : CallT} {ms : List (Nat × Nat)} (ho : DE T X W o fo) (hms : ∀ q ∈ ms, MethD T X x (T.cls q.1) (call q.2)) (hx : ∀ i, i < T.nf → T.fld i ≠ x) (tk : Takes X W)
    (ht : eval (.Call (.Attribute o x apos) [] [] pos) X.env = (do
      let ov ← eval o X.env
      standAt apos.atName
      let (f, first) ← holding [ov] (getMethod ov x pl)
      callWith pos f first (backTo pos (starEach [] X.env)) (backToKw pos (keywordEach [] X.env))) := by rfl) :
    DE T X W (.Call (.Attribute o x apos) [] [] pos) (eMeth call ms fo aNil) := by
  refine ⟨fun pins s σ H Q I ⟨l, m, R, q⟩ => ?_⟩
  have hq : tD T X.K W fo σ H fun v H1 => ∃ l m d, Rep T X.K H1 v d ∧ Rel T X.K l m σ H1 ∧ post T X.K W (match seen m d with
    | some (.ins c _) => match ms.lookup c with
      | some k => (aNil l m).bind fun ds l m => (call k (d :: ds) m).res l
      | none => .bad
    | _ => .bad) σ H1 fun d _ _ H' => ∀ v, Rep T X.K H' v d → Q v H' := ⟨l, m, R, (post.bind q).imp fun d l1 m1 H1 mo R1 q1 v rv => ⟨l1, m1, d, rv, R1, q1.2⟩⟩
  refine PySem.W.methodCall_KW (pl := pl) (thn (ho.run pins s σ H _ I hq) fun u s1 ⟨v, H1, I1, rx, l, m, d, rv, R, q⟩ => ?_) ht
  split at q
  · rename_i c fs hsn
    split at q
    · rename_i k hk
      obtain ⟨p, dx, vs, ep, rd, rf⟩ := (RepR.seen R.mem (.inl rv) hsn).ins
      obtain ⟨k1, g, kk, fd, ps, k2, F, hr, hb⟩ := hms _ (lookup_mem hk)
      subst ep
      obtain rfl : u = Value.ref p := rx
      refine getmeth_rd I1 rd k1 k2 (rf.none hx) ?_
      have q2 : post T X.K W ((call k [d] m).res l) σ H1 _ := (post.bind q H1 .refl R).2
      exact PySem.W.callWith_K0 (first := [.ref p]) I1.kIn k2.kp (run_fnS (us := [.ref p]) (vs := [.ref p]) (E := WE W) F hr hb (passAt tk σ) I1 (.cons rfl .nil) (spD_imp (post_call R (.cons rv .nil) q2) fun v H' ⟨d, m', rv, _, _, q⟩ => q v rv))
    · exact q.elim
  · exact q.elim

/-! ### new objects -/
theorem run_makeS {C : Addr} {sp : Sp} {E : L2.St → XK} {pins : List (Addr × Obj)} {s : Shared} {Q : VK} {us : List Value} {vs : List V} (M : Mk X.K C f) (F : FnOk X.prog X.w X.K X.mg X.base (L2.CX X.prog X.w) k f fd ps sp) (hr : Room (k + 1) X.A) (hb : Binds X.K fd ps [])
    (hx : PassesAt (L2.CX X.prog X.w) X σ (E σ)) (I : Inv X pins σ H s) (r : Vals vs us)
    (h : ∀ x dx, H x = none → H dx = none → dx ≠ x → sp (.ref x :: vs) (upd (upd H dx (.own x)) x (.ins C dx [])) (fun v H2 => v = .non ∧ Q (.ref x) H2) (E σ)) :
    wpAny (model X.prog X.w) X.A (call (.ref C) us) (EP X pins σ Q) X.xe s := by
  have hq := h (s.heap.objs.size + 1) s.heap.objs.size (I.hok.fresh (Nat.le_succ _)) (I.hok.fresh (Nat.le_refl _)) (Nat.ne_of_lt (Nat.lt_succ_self _))
  have I2 := Inv.made (C := C) I
  have r2 : Vals (V.ref (s.heap.objs.size + 1) :: vs) (Value.ref (s.heap.objs.size + 1) :: us) := .cons rfl r
  have hl : (Value.ref (s.heap.objs.size + 1) :: us ++ []).length = ps.length := by
    have e := r2.length
    rw [F.len _ _ _ _ hq] at e
    rw [List.append_nil]
    exact e.symm
  have b := hb _ (Value.ref (s.heap.objs.size + 1) :: us) I2.kIn hl
  rw [List.append_nil] at b
  refine wpAny_call (make_map (f := f) I.kIn M.makes M.init (beq_iff_eq.mp M.fn) (codeAny_mono (F.run _ X.stack _ _ ⟨Value.ref (s.heap.objs.size + 1) :: us, []⟩ (Value.ref (s.heap.objs.size + 1) :: us) _ _ (E σ) (hr.make C us [])
    (I2.env0.make C us []) b r2 hq) fun r s' hq' => ?_))
  cases r with
  | error e => exact hx pins _ _ e s' I2 hq'
  | ok fl =>
    cases fl with
    | ret u =>
      obtain ⟨v, H', I3, rv, ev, q3⟩ := I2.after hq'
      subst ev
      exact ⟨rv, ⟨V.ref (s.heap.objs.size + 1), H', I3, rfl, q3⟩⟩
    | next => exact False.elim hq'
    | brk => exact False.elim hq'
    | cont => exact False.elim hq'
/-- what an __init__ is asked -/
theorem post_new {F : List D → Mem → DS.RC} {c : Nat} {ds : List D} {vs : List V} {Q : D → Loc → Mem → Hp → Prop} {x dx : Addr} (R : Rel T X.K l m σ H) (r : Reps T X.K H vs ds) (q : post T X.K W ((F ds m).res l) σ H Q) (h1 : H x = none) (h2 : H dx = none) (h3 : dx ≠ x) :
    spI T X.K c F (.ref x :: vs) (upd (upd H dx (.own x)) x (.ins (T.cls c) dx [])) (fun v H' => v = .non ∧ ∃ d m', Own T X.K H' x d ∧ Rel T X.K l m' σ H' ∧ Fresh T l σ x ∧ Q d l m' H') (WE W σ) := by
  have F1 := R.fresh h1
  have h1' : upd H dx (.own x) x = none := by rw [upd_ne (Ne.symm h3)]; exact h1
  have g : Grow H (upd (upd H dx (.own x)) x (.ins (T.cls c) dx [])) := (Grow.upd h2).trans (Grow.upd h1')
  have R1 := R.grow g
  have keep : ∀ H' : Hp, Stay T.tq (T.γ ++ [x]) (upd (upd H dx (.own x)) x (.ins (T.cls c) dx [])) H' → Stay T.tq T.γ H H' := fun H' s => ⟨fun a o e ng nt => by
      have ne : a ≠ x := ne_of_none e h1
      exact s.at_ a o (g.at_ a o e nt) (fun z => (List.mem_append.mp z).elim ng (fun z => ne (by simpa using z))) nt, fun a qs e => by
      obtain ⟨m1, e1⟩ := g.tb a qs e
      obtain ⟨m2, e2⟩ := s.tb a _ e1
      exact ⟨m1 ++ m2, by rw [e2, Array.append_assoc]⟩, fun P z => s.tn P (g.tn P _ z)⟩
  refine ⟨T.γ, ds, m, x, dx, vs, rfl, upd_same, F1.ng, (r.mono g.mono).v [] B0, (R.mem.grow g).v [] B0, ?_⟩
  generalize hR : F ds m = rc at q ⊢
  cases rc with
  | ok d m' =>
    intro H' s M ow
    have M' : MemR T X.K H' m' := M.v T.ι T.B
    have s' := keep H' s
    have R' := R.call s' M'
    exact ⟨rfl, d, m', (ow.v T.ι T.B : Own T X.K H' x d), R', F1, q H' (s'.mono R.mem) R'⟩
  | ex c' fs m' =>
    intro cls dd H' s M x
    have M' : MemR T X.K H' m' := M.v T.ι T.B
    have s' := keep H' s
    exact q cls dd H' (s'.mono R.mem) (R.call s' M') (x.v T.ι T.B : ExcR T X.K H' _ fs cls dd)
  | bad => exact q.elim
theorem spI_imp {K : PySem.W.Frag} {c : Nat} {F : List D → Mem → DS.RC} {vs : List V} {Q Q' : VK} {E : XK} (h : spI T K c F vs H Q E) (i : ∀ v H', Q v H' → Q' v H') : spI T K c F vs H Q' E := by
  obtain ⟨γ, ds, m, x, dx, ws, e1, e2, e3, r, M, h⟩ := h
  refine ⟨γ, ds, m, x, dx, ws, e1, e2, e3, r, M, ?_⟩
  generalize F ds m = rc at h ⊢
  cases rc with
  | ok d m' => exact fun H' s M r => i _ _ (h H' s M r)
  | ex c fs m' => exact h
  | bad => exact h
theorem df_new {fa : Ea} {call : CallT} {i cl : Nat} (M : Mk X.K (T.cls cl) f) (F : FnI T X.prog X.w X.K X.mg X.base k cl f fd ps (call i)) (hr : Room (k + 1) X.A) (hg : Gl X x) (hm : X.mg x = some (.ref (T.cls cl))) (hb : Binds X.K fd ps []) (tk : Takes X W)
    (ha : DA T X W (e :: es) fa) (hdb : (x == ("__debug__" : Str)) = false := by decide) (he : starEach (e :: es) X.env = (false, eval e X.env) :: starEach es X.env := by rfl) (hpl : (backTo pos (starEach es X.env)).any (·.1) = false := by rfl) :
    DF T X W (.Call (.Name x p) (e :: es) [] pos) (eNew call i fa) := by
  refine ⟨fun pins s σ H Q I ⟨l, m, R, q⟩ => ?_⟩
  refine wpAny_Call_Name_kw (ld_glob I hg hm ?_ hdb)
  have hq2 : tDA T X.K W fa σ H fun ws H2 => ∃ l m ds, Reps T X.K H2 ws ds ∧ Rel T X.K l m σ H2 ∧ post T X.K W ((call i ds m).res l) σ H2 fun d l' _ H' => ∀ p, Own T X.K H' p d → Fresh T l' σ p → Q (.ref p) H' := ⟨l, m, R, (post.bind (r := fa l m) (f := fun ds l m => (call i ds m).res l) q).imp fun ds l1 m1 H2 mo R1 q1 ws rs => ⟨l1, m1, ds, rs, R1, q1.2⟩⟩
  refine PySem.W.callWith_K (h₀ := X.base) I.ok.mod.kin M.kp (thn (ha.run pos pins s σ H _ I hq2) fun us s1 ⟨vs, H1, I1, r, l, m, ds, rs, R, q⟩ => ⟨I1.kIn, ?_⟩) he hpl
  exact run_makeS (E := WE W) M F hr hb (passAt tk σ) I1 r fun x dx h1 h2 h3 => spI_imp (post_new R rs q h1 h2 h3) fun v H' ⟨ev, d, m', ow, R', F', q'⟩ => ⟨ev, q' x ow F'⟩
theorem df_new0 {call : CallT} {i cl : Nat} (M : Mk X.K (T.cls cl) f) (F : FnI T X.prog X.w X.K X.mg X.base k cl f fd ps (call i)) (hr : Room (k + 1) X.A) (hg : Gl X x) (hm : X.mg x = some (.ref (T.cls cl))) (hb : Binds X.K fd ps []) (tk : Takes X W)
    (hdb : (x == ("__debug__" : Str)) = false := by decide) : DF T X W (.Call (.Name x p) [] [] pos) (eNew call i aNil) := by
  refine ⟨fun pins s σ H Q I ⟨l, m, R, q⟩ => ?_⟩
  refine wpAny_Call_Name_kw (ld_glob I hg hm ?_ hdb)
  have q : post T X.K W ((call i [] m).res l) σ H _ := (post.bind (r := aNil l m) (f := fun ds l m => (call i ds m).res l) q H .refl R).2
  exact PySem.W.callWith_K0 I.kIn M.kp (run_makeS (us := []) (E := WE W) M F hr hb (passAt tk σ) I .nil fun x dx h1 h2 h3 => spI_imp (post_new R .nil q h1 h2 h3) fun v H' ⟨ev, d, m', ow, R', F', q'⟩ => ⟨ev, q' x ow F'⟩)
end
end DS
end

section
set_option Elab.async false
set_option linter.all false
set_option maxRecDepth 100000
set_option maxHeartbeats 2000000
namespace DS
open PySem PySem.Spec PyProof.Rows L2
section
variable {T : Tab} {X : Cx} {W : WX} {pos p apos : Pos} {a b c e o : Expr} {es : List Expr} {l : Loc} {m : Mem} {σ : L2.St} {H H1 : Hp} {st : Stmt} {rest : List Stmt} {f g : Es} {fe : Ex}
theorem postS.mono {r : RS} {D : Ends} {H H' : Hp} (h : postS T X.K W r D H) (mo : Mono H H') : postS T X.K W r D H' := by
  cases r with
  | nx l m => exact fun σ' H2 m' R => h σ' H2 (mo.trans m') R
  | rt d l m => exact fun v σ' H2 m' R rv => h v σ' H2 (mo.trans m') R rv
  | bk l m => exact fun σ' H2 m' R => h σ' H2 (mo.trans m') R
  | ct l m => exact fun σ' H2 m' R => h σ' H2 (mo.trans m') R
  | ex c fs l m => exact fun cls dd σ' H2 m' R x => h cls dd σ' H2 (mo.trans m') R x
  | bad => exact h
theorem postS.then {α : Type} {r : Res α} {k : α → Loc → Mem → RS} {D : Ends} {H : Hp} (h : postS T X.K W (r.then k) D H) : post T X.K W r σ H fun a l m H' => Rel T X.K l m σ H' ∧ postS T X.K W (k a l m) D H' := by
  cases r with
  | ok a l m => exact fun H' mo R => ⟨R, postS.mono h mo⟩
  | ex c fs l m => exact fun cls dd H' mo R x => h cls dd σ H' mo R x
  | bad => exact h.elim
theorem dss_nil : DSs T X W [] sPass := pss_weak pss_nil fun D σ H ⟨l, m, R, q⟩ => q σ H .refl R
theorem dss_cons (h1 : DSt T X W st f) (h2 : DSs T X W rest g) : DSs T X W (st :: rest) (sSeq f g) := pss_weak (pss_cons h1 h2) fun D σ H ⟨l, m, R, q⟩ => by
  refine ⟨l, m, R, ?_⟩
  unfold sSeq at q
  split at q
  · rename_i l1 m1 e1
    rw [e1]
    exact fun σ' H' mo R' => ⟨l1, m1, R', q.mono mo⟩
  · rename_i r hr
    generalize f l m = r at q hr ⊢
    cases r with
    | nx l m => exact (hr l m rfl).elim
    | rt d l m => exact q
    | bk l m => exact q
    | ct l m => exact q
    | ex c fs l m => exact q
    | bad => exact q
theorem dss_one (h1 : DSt T X W st f) : DSs T X W [st] f := pss_one h1
theorem ds_pass : DSt T X W (.Pass pos) sPass := ps_weak ps_pass fun D σ H ⟨l, m, R, q⟩ => q σ H .refl R
theorem ds_brk : DSt T X W (.Break pos) sBrk := ps_weak ps_break fun D σ H ⟨l, m, R, q⟩ => q σ H .refl R
theorem ds_cnt : DSt T X W (.Continue pos) sCnt := ps_weak ps_continue fun D σ H ⟨l, m, R, q⟩ => q σ H .refl R
theorem ds_drop (he : DE T X W e fe) (hs : swapsWith e none pos.line X.env = pure false := by rfl) : DSt T X W (.Expr e pos) (sDrop fe) := ps_weak (ps_expr he hs) fun D σ H ⟨l, m, R, q⟩ =>
  ⟨l, m, R, (postS.then q).imp fun d l1 m1 H1 mo R1 q1 v rv => q1.2 σ H1 .refl R1⟩
theorem ds_ret (he : DE T X W e fe) : DSt T X W (.Return (some e) pos) (sRet fe) := ps_weak (ps_ret he) fun D σ H ⟨l, m, R, q⟩ =>
  ⟨l, m, R, (postS.then q).imp fun d l1 m1 H1 mo R1 q1 v rv => q1.2 v σ H1 .refl R1 rv⟩
theorem ds_retN : DSt T X W (.Return none pos) sRetN := ps_weak ps_retN fun D σ H ⟨l, m, R, q⟩ => q .non σ H .refl R .non
theorem ds_if {ft : Et} {ss ss2 : List Stmt} (hc : DT T X W c ft) (ha : DSs T X W ss f) (hb : DSs T X W ss2 g) : DSt T X W (.If c ss ss2 pos) (sIf ft f g) := ps_weak (ps_if hc ha hb) fun D σ H ⟨l, m, R, q⟩ =>
  ⟨l, m, R, (postS.then q).imp fun k l1 m1 H1 mo R1 q1 => by
    cases k with
    | true => exact iteT ⟨l1, m1, R1, q1.2⟩
    | false => exact iteF ⟨l1, m1, R1, q1.2⟩⟩
/-- a plain local name -/
structure Slot (X : Cx) (i : Nat) (x : Str) : Prop where
  nd : X.N.Nodup
  at_ : X.N[i]? = some x
  loc : L2.Loc X.env.scope x
  fn : X.fn x = true ∨ X.env.scope.names.lookup x = some .local
theorem ds_set {i : Nat} {x : Str} {p' : Pos} (s : Slot X i x) (he : DE T X W e fe) (hs : swapsWith e (some (.Name x p')) pos.line X.env = pure false := by rfl) : DSt T X W (.Assign [.Name x p'] e pos) (sSet i fe) :=
  ps_weak (ps_set s.nd s.at_ s.loc he hs s.fn) fun D σ H ⟨l, m, R, q⟩ => ⟨l, m, R, (postS.then q).imp fun d l1 m1 H1 mo R1 q1 v rv => q1.2 _ H1 .refl (R1.set rv)⟩
theorem ds_setO {i : Nat} {x : Str} {p' : Pos} (s : Slot X i x) (he : DF T X W e fe) (hs : swapsWith e (some (.Name x p')) pos.line X.env = pure false := by rfl) : DSt T X W (.Assign [.Name x p'] e pos) (sSetO i fe) :=
  ps_weak (ps_set s.nd s.at_ s.loc he hs s.fn) fun D σ H ⟨l, m, R, q⟩ => ⟨l, m, R, (postS.then q).imp fun d l1 m1 H1 mo R1 q1 p ow F => q1.2 _ H1 .refl (R1.setO ow F)⟩
/-! ### targets -/
/-- all but these slots stays -/
def Wp (is : List Nat) (σ σ' : L2.St) : Prop := ∀ vs : List Nat, (∀ i ∈ is, i ∈ vs) → wipe σ' vs = wipe σ vs
theorem wipe_get {σ : L2.St} {j : Nat} : ∀ {vs : List Nat}, (wipe σ vs)[j]? = if j ∈ vs then (if j < σ.length then some none else none) else σ[j]?
  | [] => by simp [wipe]
  | v :: vs => by
    unfold wipe
    by_cases h : v = j
    · subst h
      by_cases hl : v < σ.length
      · rw [List.getElem?_set_self (by rw [wipe_length]; exact hl)]; simp [hl]
      · rw [List.getElem?_eq_none (by rw [List.length_set, wipe_length]; omega)]; simp [hl]
    · rw [List.getElem?_set_ne h, wipe_get (vs := vs)]
      have : (j ∈ v :: vs) = (j ∈ vs) := by simp [Ne.symm h]
      simp only [this]
theorem wipe_set {σ : L2.St} {i : Nat} {x : Option V} {vs : List Nat} (h : i ∈ vs) : wipe (σ.set i x) vs = wipe σ vs := by
  apply List.ext_getElem?
  intro j
  rw [wipe_get, wipe_get, List.length_set]
  by_cases hj : j ∈ vs
  · simp only [hj, if_true]
  · simp only [hj, if_false]
    rw [List.getElem?_set_ne (fun e : i = j => hj (by rw [← e]; exact h))]
def tDG (T : Tab) (K : PySem.W.Frag) (tg : Tg) : TG := fun v σ H Q => ∃ l m d l', Rel T K l m σ H ∧ Rep T K H v d ∧ tg.put d l = some l' ∧ ∀ σ', Rel T K l' m σ' H → Wp tg.slots σ σ' → Q σ' H
def tDGs (T : Tab) (K : PySem.W.Frag) (tgs : List Tg) : TGs := fun vs σ H Q => ∃ l m ds l', Rel T K l m σ H ∧ Reps T K H vs ds ∧ Tg.puts tgs ds l = some l' ∧ ∀ σ', Rel T K l' m σ' H → Wp (Tg.slotss tgs) σ σ' → Q σ' H
abbrev DG (T : Tab) (X : Cx) (e : Expr) (tg : Tg) : Prop := PG X e (tDG T X.K tg)
abbrev DGs (T : Tab) (X : Cx) (es : List Expr) (tgs : List Tg) : Prop := PGs X es (tDGs T X.K tgs)
theorem pg_weak {t t' : TG} (h : PG X e t) (w : ∀ v σ H Q, t' v σ H Q → t v σ H Q) : PG X e t' := ⟨fun pins s σ H v u Q I r q => h.run pins s σ H v u Q I r (w v σ H Q q)⟩
theorem pgs_weak {t t' : TGs} (h : PGs X es t) (w : ∀ v σ H Q, t' v σ H Q → t v σ H Q) : PGs X es t' := ⟨fun pins s σ H v u Q I r q => h.run pins s σ H v u Q I r (w v σ H Q q)⟩
theorem dg_name {i : Nat} {x : Str} (s : Slot X i x) : DG T X (.Name x pos) (.nm i) := pg_weak (pg_name s.nd s.at_ s.loc s.fn) fun v σ H Q ⟨l, m, d, l', R, rv, e, q⟩ => by
  simp only [Tg.put, Option.some.injEq] at e
  subst e
  exact q _ (R.set rv) fun vs h => wipe_set (h i (by simp [Tg.slots]))
theorem dgs_nil : DGs T X [] [] := pgs_weak pgs_nil fun v σ H Q ⟨l, m, ds, l', R, rv, e, q⟩ => by
  cases rv with
  | nil =>
    simp only [Tg.puts, Option.some.injEq] at e
    subst e
    exact ⟨rfl, q _ R fun vs _ => rfl⟩
  | cons _ _ => simp [Tg.puts] at e
theorem dgs_cons {tg : Tg} {tgs : List Tg} (h1 : DG T X e tg) (h2 : DGs T X es tgs) (hs : (assignEach (e :: es) X.env).map (·.2) = assign e X.env :: (assignEach es X.env).map (·.2) := by rfl) : DGs T X (e :: es) (tg :: tgs) :=
  pgs_weak (pgs_cons h1 h2 hs) fun v σ H Q ⟨l, m, ds, l', R, rv, e, q⟩ => by
    cases rv with
    | nil => simp [Tg.puts] at e
    | cons r t =>
      simp only [Tg.puts] at e
      split at e
      · rename_i l1 e1
        exact ⟨_, _, rfl, l, m, _, l1, R, r, e1, fun σ' R' w => ⟨l1, m, _, l', R', t, e, fun σ2 R2 w2 => q σ2 R2 fun vs h => (w2 vs fun i hi => h i (by simp [Tg.slotss, hi])).trans (w vs fun i hi => h i (by simp [Tg.slotss, hi]))⟩⟩
      · cases e
theorem dg_tup {tgs : List Tg} {k : Nat} (hc : X.calm = true) (h : DGs T X es tgs) (hn : (assignEach es X.env).length = tgs.length := by rfl) (hst : (assignEach es X.env).findIdx? (·.1) = none := by rfl) : DG T X (.Tuple es k pos) (.tp tgs) :=
  pg_weak (pg_tup hc h hn hst) fun v σ H Q ⟨l, m, d, l', R, rv, e, q⟩ => by
    cases d with
    | tup ds =>
      simp only [Tg.put] at e
      obtain ⟨a, xs, ev, hs, r⟩ := RepR.tup (.inl rv)
      have hl : ∀ (tgs : List Tg) (ds : List D) (l : Loc), Tg.puts tgs ds l = some l' → tgs.length = ds.length := by
        intro tgs
        induction tgs with
        | nil => intro ds l e; cases ds with
          | nil => rfl
          | cons _ _ => simp [Tg.puts] at e
        | cons t tgs ih =>
          intro ds l e
          cases ds with
          | nil => simp [Tg.puts] at e
          | cons d ds =>
            simp only [Tg.puts] at e
            split at e
            · simp [ih _ _ e]
            · cases e
      exact ⟨a, xs, ev, hs, by rw [r.length, hl _ _ _ e], l, m, ds, l', R, r, e, fun σ' R' w => q σ' R' fun vs h => w vs fun i hi => h i (by simpa [Tg.slots] using hi)⟩
    | _ => simp [Tg.put] at e
theorem ds_asg {tge : Expr} {tg : Tg} (he : DE T X W e fe) (hg : DG T X tge tg) (hs : swapsWithSole [tge] e pos.line X.env = pure false := by rfl) (hw : swappedStores [tge] e X.env = pure none := by rfl) (h1 : (assignEach [tge] X.env).map (·.2) = [assign tge X.env] := by rfl) :
    DSt T X W (.Assign [tge] e pos) (sAsg tg fe) := ps_weak (ps_asg he hg hs hw h1) fun D σ H ⟨l, m, R, q⟩ => ⟨l, m, R, (postS.then q).imp fun d l1 m1 H1 mo R1 q1 v rv => by
  obtain ⟨_, q1⟩ := q1
  cases e1 : tg.put d l1 with
  | none => rw [e1] at q1; exact q1.elim
  | some l2 =>
    rw [e1] at q1
    exact ⟨l1, m1, d, l2, R1, rv, e1, fun σ' R' _ => q1 σ' H1 .refl R'⟩⟩
end
end DS
end

section
set_option Elab.async false
set_option linter.all false
set_option maxRecDepth 100000
set_option maxHeartbeats 2000000
namespace DS
open PySem PySem.Spec PyProof.Rows L2
section
variable {T : Tab} {X : Cx} {W : WX} {pos p apos : Pos} {a b c e o tge : Expr} {es : List Expr} {l : Loc} {m : Mem} {σ : L2.St} {H H1 : Hp} {st : Stmt} {rest : List Stmt} {f g : Es} {fe : Ex}
/-! ### what a loop walks -/
/-- the items ds, while the heap is as P says -/
def WalkD (T : Tab) (K : PySem.W.Frag) (P : Hp → Prop) (J : It) (ds : List D) : Prop := ∃ Y, Walk J ds.length P Y ∧ ∀ i H x H2, i < ds.length → P H → Y i H x H2 → Grow H H2 ∧ ∃ d, ds[i]? = some d ∧ Rep T K H2 x d
def tDI (T : Tab) (K : PySem.W.Frag) (W : WX) (f : Ei) : TI := fun σ H R => ∃ l m, Rel T K l m σ H ∧ post T K W (f l m) σ H fun ds _ _ H' => ∀ J, WalkD T K (Mono H') J ds → R J H'
abbrev DI (T : Tab) (X : Cx) (W : WX) (tg e : Expr) (f : Ei) : Prop := PI X tg e (tDI T X.K W f)
theorem pi_weak {tg : Expr} {t t' : TI} (h : PI X tg e t) (w : ∀ σ H R, t' σ H R → t σ H R) : PI X tg e t' := ⟨fun pins s σ H R I q => h.run pins s σ H R I (w σ H R q)⟩
theorem Reps.yat {K : PySem.W.Frag} {vs : List V} {ds : List D} (r : Reps T K H vs ds) {i : Nat} {x : V} (e : vs[i]? = some x) (mo : Mono H H1) : ∃ d, ds[i]? = some d ∧ Rep T K H1 x d := by
  obtain ⟨d, h1, h2⟩ := r.get e
  exact ⟨d, h1, h2.mono mo⟩
/-- a sequence of values: a list, a tuple, a text, a dict's keys -/
theorem RepKs.at_ {K : PySem.W.Frag} {kvs : List (Key × V)} {ds : List (D × D)} (r : RepKs T K H kvs ds) {i : Nat} {k : Key} {v : V} (e : kvs[i]? = some (k, v)) : ∃ c d, ds[i]? = some (c, d) ∧ KeyD k c ∧ Rep T K H v d := match r, i, e with
  | .nil, _, e => by simp at e
  | .cons q r t, 0, e => by simp at e; obtain ⟨rfl, rfl⟩ := e; exact ⟨_, _, rfl, q, r⟩
  | .cons q r t, i + 1, e => by
    obtain ⟨c, d, h1, h2⟩ := RepKs.at_ t (i := i) (by simpa using e)
    exact ⟨c, d, by simpa using h1, h2⟩

theorem ds_for {fi : Ei} {tg : Tg} {ss : List Stmt} (hp : PassesOwn (model X.prog X.w) X.A X.env X.xe) (hc : X.calm = true) (hi : DI T X W tge e fi) (hg : DG T X tge tg) (hb : DSs T X W ss f) (hs : ∀ x, foldedSetIterable e X.env x = pure x := by intro _; rfl) : DSt T X W (.For tge e ss [] pos) (sFor tg fi f) :=
  ps_weak (ps_for hp hc hi hg hb hs) fun D σ H ⟨l, m, R, q⟩ => ⟨l, m, R, (postS.then q).imp fun ds l1 m1 H1 mo R1 q1 J ⟨Y, w, hY⟩ => by
    obtain ⟨_, q1⟩ := q1
    refine for_it w (fun i σ H => ∃ l m, Rel T X.K l m σ H ∧ Mono H1 H ∧ postS T X.K W (forLoop tg f (ds.drop i) l m) D H) ⟨l1, m1, R1, .refl, q1⟩ (fun i σ H _ h => h.choose_spec.choose_spec.2.1) (fun i x σ H H' hi ⟨l, m, R, mo, q⟩ y => ?_) fun σ H ⟨l, m, R, mo, q⟩ => ?_
    · obtain ⟨gr, d, ed, rd⟩ := hY i H x H' hi mo y
      have ed' : ds.drop i = d :: ds.drop (i + 1) := by
        rw [List.getElem?_eq_some_iff] at ed
        obtain ⟨h1, h2⟩ := ed
        rw [← h2]; exact List.drop_eq_getElem_cons h1
      rw [ed'] at q
      simp only [forLoop] at q
      cases hput : tg.put d l with
      | none => rw [hput] at q; exact q.elim
      | some l2 =>
        rw [hput] at q
        have R2 := R.grow gr
        refine ⟨l, m, d, l2, R2, rd, hput, fun σ' R' _ => ⟨l2, m, R', ?_⟩⟩
        have q2 := q.mono gr.mono
        clear q
        dsimp only at q2
        have mo' := mo.trans gr.mono
        generalize f l2 m = r at q2 ⊢
        cases r with
        | nx l m => exact fun σ'' H'' m' R'' => ⟨l, m, R'', mo'.trans m', q2.mono m'⟩
        | ct l m => exact fun σ'' H'' m' R'' => ⟨l, m, R'', mo'.trans m', q2.mono m'⟩
        | bk l m => exact q2
        | rt d l m => exact q2
        | ex c fs l m => exact q2
        | bad => exact q2
    · rw [List.drop_length] at q
      exact q σ H .refl R⟩
theorem ds_while {n : Nat} {ft : Et} {ss : List Stmt} (hp : PassesOwn (model X.prog X.w) X.A X.env X.xe) (hc : DT T X W c ft) (hb : DSs T X W ss f) : DSt T X W (.While c ss [] pos) (sWhile n ft f) :=
  ps_weak (ps_while hp hc hb) fun D σ H ⟨l, m, R, q⟩ => by
    refine ⟨fun k σ H => ∃ l m, Rel T X.K l m σ H ∧ postS T X.K W (whileLoop ft f k l m) D H, ⟨n, l, m, R, q⟩, fun k σ H ⟨l, m, R, q⟩ => ?_⟩
    cases k with
    | zero => exact q.elim
    | succ k =>
      refine ⟨l, m, R, ?_⟩
      have q : postS T X.K W ((ft l m).then fun x l m => if x = true then (match f l m with
        | .nx l m => whileLoop ft f k l m
        | .ct l m => whileLoop ft f k l m
        | .bk l m => .nx l m
        | r => r) else .nx l m) D H := by
          have : whileLoop ft f (k + 1) l m = ((ft l m).then fun x l m => if x = true then (match f l m with
            | .nx l m => whileLoop ft f k l m
            | .ct l m => whileLoop ft f k l m
            | .bk l m => .nx l m
            | r => r) else .nx l m) := by
              rw [whileLoop]
              cases ft l m with
              | ok x l m => cases x <;> rfl
              | ex c fs l m => rfl
              | bad => rfl
          rw [← this]; exact q
      refine (postS.then (σ := σ) q).imp fun x l1 m1 H1 mo R1 ⟨_, q1⟩ => ?_
      cases x with
      | true =>
        refine iteT ⟨fun σ' H' => ∃ l m, Rel T X.K l m σ' H' ∧ postS T X.K W (whileLoop ft f k l m) D H', fun σ' H' h => ⟨k, Nat.lt_succ_self _, h⟩, l1, m1, R1, ?_⟩
        rw [if_pos rfl] at q1
        generalize f l1 m1 = r at q1 ⊢
        cases r with
        | nx l m => exact fun σ'' H'' m' R'' => ⟨l, m, R'', q1.mono m'⟩
        | ct l m => exact fun σ'' H'' m' R'' => ⟨l, m, R'', q1.mono m'⟩
        | bk l m => exact q1
        | rt d l m => exact q1
        | ex c fs l m => exact q1
        | bad => exact q1
      | false => exact iteF (q1 σ H1 .refl R1)
end
end DS
end

section
set_option Elab.async false
set_option linter.all false
set_option maxRecDepth 100000
set_option maxHeartbeats 2000000
namespace DS
open PySem PySem.Spec PyProof.Rows L2
section
variable {T : Tab} {X : Cx} {W : WX} {pos p apos tpos : Pos} {a b c e o tge : Expr} {es elts : List Expr} {l : Loc} {m : Mem} {σ : L2.St} {H H1 : Hp} {fe : Ex} {P : Hp → Prop} {kk : Nat}
/-! ### sequences -/
/-- how a sequence lies -/
def Seq1 (K : PySem.W.Frag) (H : Hp) (R : It → Hp → Prop) (x : V) : Prop :=
  (∃ a xs, x = .ref a ∧ SqL K H a xs ∧ R (Itl K a) H) ∨ (∃ a xs, x = .ref a ∧ SqT K H a xs ∧ R (Itt K a) H) ∨ (∃ z, x = .str z ∧ R (Its z) H) ∨ ∃ d o kvs, x = .ref d ∧ H d = some (.frz o (.dK kvs)) ∧ R (Itk d o kvs) H
theorem pi_seq {te : TE} (he : PE X e te) : PI X tge e (fun σ H R => te σ H fun x H1 => Seq1 X.K H1 R x) := by
  refine ⟨fun pins s σ H R I h => ?_⟩
  refine thn (he.run pins s σ H _ I h) fun v s1 ⟨x, H1, I1, r1, q1⟩ => ?_
  have fp : ∀ b ∈ [s1.heap.objs.size], FpOk X pins H1 b := fun b hb => by
    have e : b = s1.heap.objs.size := by simpa using hb
    subst e
    exact I1.fpOk (Nat.le_refl _) (I1.hok.fresh (Nat.le_refl _))
  rcases q1 with ⟨a, xs, ex, hq, q⟩ | ⟨a, xs, ex, hq, q⟩ | ⟨z, ex, q⟩ | ⟨d, o, kvs, ex, hq, q⟩
  · subst ex
    cases r1
    obtain ⟨its, rv, p, hz⟩ := I1.list hq
    exact wpAny_pyIter_list p.isList ⟨s1.heap.objs.size, [s1.heap.objs.size], _, _, H1, rfl, I1.kept (t' := s1.toks) fun b o e => Heap.get?_push_of_some _ e, turn_list a _, ⟨_, Heap.get?_push_size _ rfl, rfl, rfl⟩, fp, q⟩
  · subst ex
    cases r1
    obtain ⟨its, rv, p, hz⟩ := I1.tuple hq
    exact wpAny_pyIter_tuple (show s1.heap.IsTuple a its.toArray from p) ⟨s1.heap.objs.size, [s1.heap.objs.size], _, _, H1, rfl, I1.kept (t' := s1.toks) fun b o e => Heap.get?_push_of_some _ e, turn_tuple a _, ⟨_, Heap.get?_push_size _ rfl, rfl, rfl⟩, fp, q⟩
  · subst ex
    obtain ⟨t, rfl⟩ := r1
    cases ha : z.cps.all (· < 128)
    · exact wpAny_pyIter_wide ha (pi_one (tk := s1.toks) I1 _ (turn_str _ z t "str_iterator" (.inr rfl)) ⟨_, Heap.get?_push_size _ rfl, rfl, rfl⟩ q)
    · exact wpAny_pyIter_ascii ha (pi_one (tk := s1.toks) I1 _ (turn_str _ z t "str_ascii_iterator" (.inl rfl)) ⟨_, Heap.get?_push_size _ rfl, rfl, rfl⟩ q)
  · subst ex
    obtain rfl : v = Value.ref d := r1
    obtain ⟨hs, hgd, hx, es, ep, vs, hdt, hsz, kv, hm⟩ := I1.frzK hq
    refine iter_keys hs hgd hx hdt (pi_one (tk := s1.toks) I1 _ (turn_keys _ hdt) ⟨_, Heap.get?_push_size _ rfl, rfl, ?_⟩ q)
    rw [hsz] <;> rfl
theorem _root_.L2.Walk.cast {J : It} {n k : Nat} {G : Hp → Prop} {Y : Nat → Hp → V → Hp → Prop} (w : Walk J n G Y) (e : n = k) : Walk J k G Y := e ▸ w
/-- a readable sequence is walked: P keeps it as it is -/
theorem RepR.walk {K : PySem.W.Frag} {R : It → Hp → Prop} {v : V} {d : D} {ds : List D} (rp : RepR T K H v d) (ed : itemsD d = some ds) (hk : ∀ H', P H' → Mono H H' ∧ ∀ a u, H a = some u → Own T K H a d → v = .ref a → H' a = some u)
    (hd : ∀ kvs, d = .dct kvs → Rep T K H v d) (q : ∀ J, WalkD T K P J ds → R J H) : Seq1 K H R v := by
  have hL : ∀ {a : Addr} {xs : List V} {ys : List D}, v = .ref a → Rd H a (.lst xs) → Reps T K H xs ys → d = .lst ys → ds = ys → Seq1 K H R v := fun {a xs ys} ev hr rs ed e => by
    subst e
    refine .inl ⟨a, xs, ev, .inl hr, q _ ⟨_, (walk_list (K := K) (a := a) (xs := xs)).mono (fun H' h => ?_) (fun _ _ _ _ _ _ y => y) |>.cast rs.length, fun i H' x H2 hi h y => ?_⟩⟩
    · obtain ⟨mo, k⟩ := hk H' h
      rcases hr with hr | ⟨o, hr⟩
      · exact .inl (.inl (k a _ hr (ed ▸ .lst hr rs) ev))
      · exact .inl (.inr ⟨o, mo.frz _ _ _ hr⟩)
    · obtain ⟨rfl, hx⟩ := y
      exact ⟨.refl, rs.yat hx (hk _ h).1⟩
  unfold itemsD at ed
  split at ed
  · cases ed
    obtain ⟨a, xs, ev, hr, rs⟩ := rp.lst
    exact hL ev hr rs rfl rfl
  · cases ed
    obtain ⟨a, xs, ev, hr, rs⟩ := rp.tup
    refine .inr (.inl ⟨a, xs, ev, hr, q _ ⟨_, (walk_tup (K := K) (a := a) (xs := xs)).mono (fun H' h => SqT.mono (hk H' h).1 hr) (fun _ _ _ _ _ _ y => y) |>.cast rs.length, fun i H' x H2 hi h y => ?_⟩⟩)
    obtain ⟨rfl, hx⟩ := y
    exact ⟨.refl, rs.yat hx (hk _ h).1⟩
  · rename_i z
    cases ed
    obtain ⟨ev, hb, hz⟩ := rp.str
    refine .inr (.inr (.inl ⟨_, ev, q _ ⟨_, (walk_str (z := tx z)).mono (fun H' h => trivial) (fun _ _ _ _ _ _ y => y) |>.cast (by simp [tx]), fun i H' x H2 hi h y => ?_⟩⟩))
    obtain ⟨rfl, c, hc, ex⟩ := y
    have hc' : z[i]? = some c := by simpa [tx] using hc
    refine ⟨.refl, .str [c], by simp [hc'], ?_⟩
    rw [ex]
    exact .str [c] (fun x hx => by
      have : x = c := by simpa using hx
      subst this
      exact hb x (List.mem_of_getElem? hc')) (by simp)
  · rename_i kvs
    cases ed
    cases hd kvs rfl with
    | dct e r =>
      rename_i a o ks
      refine .inr (.inr (.inr ⟨a, o, ks, rfl, e, q _ ⟨_, (walk_keys (d := a) (o := o) (kvs := ks)).mono (fun H' h => (hk H' h).1.frz _ _ _ e) (fun _ _ _ _ _ _ y => y) |>.cast (by simpa using r.length), fun i H' x H2 hi h y => ?_⟩⟩))
      obtain ⟨rfl, k, v, hkv, ex⟩ := y
      obtain ⟨c, d, h1, h2, h3⟩ := r.at_ hkv
      refine ⟨.refl, c, by simp [h1], ?_⟩
      rw [ex]
      exact h2.rep
  · cases ed
end
end DS
end

section
set_option Elab.async false
set_option linter.all false
set_option maxRecDepth 100000
set_option maxHeartbeats 2000000
namespace DS
open PySem PySem.Spec PyProof.Rows L2
/-! ### enumerate and zip over what can be drawn -/
inductive Src where
  | lst (a : Addr) | tup (a : Addr) | txt (z : Str)
def Src.At (K : PySem.W.Frag) (H : Hp) (vs : List V) : Src → Prop
  | .lst a => SqL K H a vs
  | .tup a => SqT K H a vs
  | .txt z => vs = z.cps.toList.map fun c => .str ⟨#[c]⟩
def Src.val : Src → V
  | .lst a => .ref a
  | .tup a => .ref a
  | .txt z => .str z
def Src.Pt (it : Addr) (i : Nat) (h : Heap) : Src → Prop
  | .lst a => h.IsListIter it a i
  | .tup a => h.IsTupleIter it a i
  | .txt z => ∃ t, h.IsStrIter it (strIterType z) z t i
theorem Src.Pt.obj {S : Src} {it : Addr} {i : Nat} {h : Heap} (p : S.Pt it i h) : ∃ o, h.get? it = some o ∧ ∀ v, o.data ≠ .cell v := by
  cases S with
  | lst a => obtain ⟨o, e, c, d⟩ := p; exact ⟨o, e, fun v z => by rw [d] at z; cases z⟩
  | tup a => obtain ⟨o, e, c, d⟩ := p; exact ⟨o, e, fun v z => by rw [d] at z; cases z⟩
  | txt z => obtain ⟨t, o, e, c, d⟩ := p; exact ⟨o, e, fun v z => by rw [d] at z; cases z⟩
theorem Src.Pt.at_ {S : Src} {it : Addr} {i : Nat} {h h' : Heap} (p : S.Pt it i h) (k : ∀ o, h.get? it = some o → h'.get? it = some o) : S.Pt it i h' := by
  cases S with
  | lst a => obtain ⟨o, e, c, d⟩ := p; exact ⟨o, k o e, c, d⟩
  | tup a => obtain ⟨o, e, c, d⟩ := p; exact ⟨o, k o e, c, d⟩
  | txt z => obtain ⟨t, o, e, c, d⟩ := p; exact ⟨t, o, k o e, c, d⟩
section
variable {X : Cx} {pins : List (Addr × Obj)} {σ : L2.St} {H : Hp} {s : Shared} {vs : List V}
theorem fpOk_ne {e a : Addr} (I : Inv X pins σ H s) (f : FpOk X pins H e) (h : (∃ o, H a = some o) ∨ ∃ o, X.K.lookup a = some o) : e ≠ a := by
  rintro rfl
  obtain ⟨f0, _, _, f3, _⟩ := f
  rcases h with ⟨o, h⟩ | ⟨o, h⟩
  · rw [f0] at h; cases h
  · have hb := I.ok.mod.kin e o h
    have hs := (I.ok.bs e o hb).1
    rcases f3 with f3 | f3
    · exact I.ok.noex e o hb f3
    · exact absurd (Heap.lt_size hs) (Nat.not_lt.mpr f3)
theorem sqL_there {a : Addr} {xs : List V} (h : SqL X.K H a xs) : (∃ o, H a = some o) ∨ ∃ o, X.K.lookup a = some o := by
  rcases h with (h | ⟨o, h⟩) | ⟨o, its, n, hk, _⟩
  · exact .inl ⟨_, h⟩
  · exact .inl ⟨_, h⟩
  · exact .inr ⟨_, hk⟩
theorem sqT_there {a : Addr} {xs : List V} (h : SqT X.K H a xs) : (∃ o, H a = some o) ∨ ∃ o, X.K.lookup a = some o := by
  rcases h with (h | ⟨o, h⟩) | ⟨o, its, n, hk, _⟩
  · exact .inl ⟨_, h⟩
  · exact .inl ⟨_, h⟩
  · exact .inr ⟨_, hk⟩
/-- what is drawn -/
theorem Src.draws {S : Src} {it : Addr} {i : Nat} (hc : X.calm = true) (I : Inv X pins σ H s) (h : S.At X.K H vs) (hit : FpOk X pins H it) (p : S.Pt it i s.heap) :
    ∃ fp P St, Draws X.prog X.w X.A.in1 it fp vs.length P St ∧ St i s.heap ∧ (∀ j h', St j h' → S.Pt it j h') ∧ (∀ j u, P j u → ∃ v, vs[j]? = some v ∧ RelV v u) ∧ it ∈ fp ∧ ∀ b, FpOk X pins H b → b ≠ it → b ∉ fp := by
  have hh : X.A.in1.handled = none := I.ok.hd hc
  cases S with
  | lst a =>
    obtain ⟨its, rv, q, hz⟩ := I.list h
    have hl := rv.length
    have ne : ∀ b, FpOk X pins H b → b ≠ a := fun b f => fpOk_ne I f (sqL_there h)
    have D := Draws.list (prog := X.prog) (w := X.w) hh it a (Ne.symm (ne it hit)) its.toArray
    rw [show its.toArray.size = vs.length by simp [hl]] at D
    refine ⟨_, _, _, D, ⟨p, q.isList⟩, fun j h' st => st.1, fun j u e => ?_, by simp, fun b f hb z => ?_⟩
    · have e : its[j]? = some u := by simpa using e
      rcases hv : vs[j]? with _ | v
      · rw [rv.none_of hv] at e; cases e
      · obtain ⟨u', e', r⟩ := rv.get hv
        rw [e] at e'; cases e'
        exact ⟨v, rfl, r⟩
    · have z : b = it ∨ b = a := by simpa using z
      rcases z with z | z
      · exact hb z
      · exact ne b f z
  | tup a =>
    obtain ⟨its, rv, q, hz⟩ := I.tuple h
    have hl := rv.length
    have ne : ∀ b, FpOk X pins H b → b ≠ a := fun b f => fpOk_ne I f (sqT_there h)
    have D := Draws.tuple (prog := X.prog) (w := X.w) hh it a (Ne.symm (ne it hit)) its.toArray
    rw [show its.toArray.size = vs.length by simp [hl]] at D
    refine ⟨_, _, _, D, ⟨p, (show s.heap.IsTuple a its.toArray from q)⟩, fun j h' st => st.1, fun j u e => ?_, by simp, fun b f hb z => ?_⟩
    · have e : its[j]? = some u := by simpa using e
      rcases hv : vs[j]? with _ | v
      · rw [rv.none_of hv] at e; cases e
      · obtain ⟨u', e', r⟩ := rv.get hv
        rw [e] at e'; cases e'
        exact ⟨v, rfl, r⟩
    · have z : b = it ∨ b = a := by simpa using z
      rcases z with z | z
      · exact hb z
      · exact ne b f z
  | txt z =>
    obtain ⟨t, p⟩ := p
    have h : vs = z.cps.toList.map fun c => .str ⟨#[c]⟩ := h
    have D := Draws.text (prog := X.prog) (w := X.w) hh it z t
    rw [show z.cps.size = vs.length by simp [h]] at D
    refine ⟨_, _, _, D, p, fun j h' st => ⟨t, st⟩, fun j u e => ?_, by simp, fun b f hb z => hb (by simpa using z)⟩
    obtain ⟨c, u', e1, e2⟩ := e
    refine ⟨.str ⟨#[c]⟩, ?_, ?_⟩
    · rw [h]; simp_all
    · first | exact ⟨u', e2⟩ | exact ⟨e1, e2⟩
/-- how it begins -/
theorem Src.begins {S : Src} {u : Value} (I : Inv X pins σ H s) (h : S.At X.K H vs) (r : RelV S.val u) : ∃ o Hb, Begins u o Hb ∧ Hb s.heap ∧ ∀ h it, h.get? it = some o → S.Pt it 0 h := by
  cases S with
  | lst a =>
    obtain ⟨its, rv, q, hz⟩ := I.list h
    obtain rfl : u = Value.ref a := r
    exact ⟨_, _, begins_list a its.toArray, q.isList, fun h it e => ⟨_, e, rfl, rfl⟩⟩
  | tup a =>
    obtain ⟨its, rv, q, hz⟩ := I.tuple h
    obtain rfl : u = Value.ref a := r
    exact ⟨_, _, begins_tuple a its.toArray, (show s.heap.IsTuple a its.toArray from q), fun h it e => ⟨_, e, rfl, rfl⟩⟩
  | txt z =>
    obtain ⟨t, rfl⟩ : ∃ t, u = Value.str z t := r
    exact ⟨_, _, begins_text z t, trivial, fun h it e => ⟨t, _, e, rfl, rfl⟩⟩
/-- enumerate: the items vs of S, in new pairs -/
def ItE (K : PySem.W.Frag) (S : Src) (vs : List V) : It :=
  ⟨fun i H => S.At K H vs ∧ i < vs.length, fun i H v H' => ∃ T x, v = .ref T ∧ H T = none ∧ H' = upd H T (.tup [.int (i : Nat), x]) ∧ vs[i]? = some x, fun i H => S.At K H vs ∧ i = vs.length⟩
theorem turn_enumS {P : Program} {w : World} {K : PySem.W.Frag} {elts : List Expr} {kk : Nat} {tpos : Pos} (S : Src) (vs : List V) (e it : Addr) :
    Turn P w K (.Tuple elts kk tpos) (ItE K S vs) [e, it] e (fun i h => (∃ old, IsEnum h e it ((i : Nat) : Int) old) ∧ S.Pt it i h ∧ e ≠ it) where
  mem := by simp
  obj := fun i h st b hb => by
    obtain ⟨⟨old, he⟩, p, _⟩ := st
    have e' : b = e ∨ b = it := by simpa using hb
    rcases e' with z | z
    · rw [z]; exact ⟨_, he, fun v q => nomatch q⟩
    · rw [z]; exact p.obj
  keep := fun i h h' st k => let ⟨⟨old, he⟩, hi, hne⟩ := st; ⟨⟨old, k e (by simp) _ he⟩, hi.at_ fun o q => k it (by simp) o q, hne⟩
  item := by
    intro X hP hw hK hc i pins s σ H E I hf st hg
    subst hP hw hK
    obtain ⟨⟨old, he⟩, hit, hne⟩ := st
    obtain ⟨hq, hlt⟩ := hg
    have fe := hf e (by simp)
    have fi := hf it (by simp)
    obtain ⟨fp, P, St, D, st, back, val, mem, out⟩ := Src.draws hc I hq fi hit
    have hel : e < s.heap.objs.size := Heap.lt_size he
    have hil : it < s.heap.objs.size := by obtain ⟨o, q, _⟩ := hit.obj; exact Heap.lt_size q
    refine wpAny_pyNext_enum_itemD D he st hlt hne (out e fe hne) fun u h' tk hp ho st' hT hsz hk => ?_
    obtain ⟨x, hx, ru⟩ := val i u hp
    refine ⟨_, rfl, wpAny_letOwnedTupleGo_enum (s := { s with heap := h', toks := tk + 1 }) ho fun h'' he' sb => ?_⟩
    have hT2 : h''.get? s.heap.objs.size = some { cls := .type "tuple", data := .seq #[.int i tk, u] } := (sb.2 _ (Nat.ne_of_gt hel)).trans hT
    have new : ObjOk X.prog X.w (upd H s.heap.objs.size (.tup [.int (i : Nat), x])) h'' s.heap.objs.size (.tup [.int (i : Nat), x]) :=
      ⟨by show 2 ≤ sizeLine; decide, [.int i tk, u], .cons ⟨_, rfl⟩ (.cons ru .nil), ⟨_, hT2, rfl, _, rfl⟩⟩
    have I1 : Inv X pins σ (upd H s.heap.objs.size (.tup [.int (i : Nat), x])) { s with heap := h'', toks := tk + 1 } :=
      I.turnedNew (ch := [e, it]) (fun b ob hb q => (sb.2 b (fun z => hb (by simp [z]))).trans (hk b ob (fun z => hb (by simp [z])) (fun z => hb (by simp [z])) q)) hf (Nat.le_refl _) new
    refine ⟨.ref s.heap.objs.size, _, I1, rfl, ⟨_, x, rfl, I.hok.fresh (Nat.le_refl _), rfl, hx⟩, ⟨⟨u, ?_⟩, (back _ _ st').at_ fun o q => (sb.2 it (Ne.symm hne)).trans q, hne⟩, fun b hb => ?_⟩
    · have e1 : ((i + 1 : Nat) : Int) = (i : Int) + 1 := by omega
      rw [e1]; exact he'
    · have hb' : b < s.heap.objs.size := by
        have e' : b = e ∨ b = it := by simpa using hb
        rcases e' with z | z
        · rw [z]; exact hel
        · rw [z]; exact hil
      rw [upd_ne (Nat.ne_of_lt hb')]
      exact (hf b hb).1
  done := by
    intro X hP hw hK hc i pins s σ H E I hf st hg
    subst hP hw hK
    obtain ⟨⟨old, he⟩, hit, hne⟩ := st
    obtain ⟨hq, hlt⟩ := hg
    obtain ⟨fp, P, St, D, st, back, val, mem, out⟩ := Src.draws hc I hq (hf it (by simp)) hit
    obtain ⟨f0, f1, f2, f3, f4, f5⟩ := hf it (by simp)
    exact wpAny_pyNext_enum_endD D he (hlt ▸ st) fun h' eb => ⟨rfl, I.turned (t' := s.toks) (fun b o hb q => eb b o hb q) f0 f1 f3 f4 f5⟩
  self := fun A i s Q E st h => let ⟨⟨_, he⟩, _⟩ := st; wpAny_pyIter_enum he h
set_option maxHeartbeats 1000000 in
theorem meets_enumerate_new1 {v : Value} {o : Obj} {H : Heap → Prop} (B : Begins v o H) :
    Meets (Builtin.«enumerate.__new__» ⟨[.type "enumerate", v], []⟩) (fun _ R s => H s.heap ∧
      R (.ok (.ret (.ref (s.heap.push o).objs.size))) { s with heap := (s.heap.push o).push { cls := .type "enumerate", data := .fields #[.none, .bool false, .ref s.heap.objs.size, rawInt 0, .none, .none] } }) :=
  .of_wp fun prog w A R s h => by
    obtain ⟨hp, g, d, tk, os⟩ := s; obtain ⟨h1, h⟩ := h
    have hsub := sub_enumerate
    have q1 : ∀ {A' : Around} {E : Value → Shared → Prop} {Q : Value → Shared → Prop}, Q (.ref hp.objs.size) ⟨hp.push o, g, d, tk, os⟩ → wpAny (model prog w) A' (pyIter v) Q E ⟨hp, g, d, tk, os⟩ :=
      fun q => B.iter prog w _ _ ⟨hp, g, d, tk, os⟩ _ h1 q
    wp_walk using q1
    refine wpAny_stack_any fun st => wpAny_pure ?_
    split
    · rename_i c _ _ _ _ _
      cases (c == Value.type "enumerate")
      · wp_walk using q1
        exact ⟨_, rfl, h⟩
      · wp_walk using q1
        exact ⟨_, rfl, h⟩
    · wp_walk using q1
      exact ⟨_, rfl, h⟩
end
end DS
end

section
set_option Elab.async false
set_option linter.all false
set_option maxRecDepth 100000
set_option maxHeartbeats 2000000
namespace DS
open PySem PySem.Spec PyProof.Rows L2
section
variable {prog : Program} {w : World} {A : Around} {E : Value → Shared → Prop} {s : Shared}
theorem enum_begins1 {v : Value} {o : Obj} {H : Heap → Prop} {Q : Value → Shared → Prop} (B : Begins v o H) (h1 : H s.heap)
    (h : ∀ h', IsEnum h' (s.heap.objs.size + 1) s.heap.objs.size 0 .none → h'.get? s.heap.objs.size = some o → h'.objs.size = s.heap.objs.size + 2 →
      (∀ b o, s.heap.get? b = some o → h'.get? b = some o) → Q (.ref (s.heap.objs.size + 1)) { s with heap := h' }) :
    wpAny (model prog w) A (call (.type "enumerate") [v]) Q E s := by
  refine callType_new F.called_enumerate (by decide) (F.typeCall_enumerate_1 _) (F.newCall_enumerate_1 _) (fun obj => F.args_object_init_2 obj _) F.entry_enumerate_new
    (meets_enumerate_new1 B) ⟨h1, ?_⟩
  have hz : (s.heap.push o).objs.size = s.heap.objs.size + 1 := Heap.size_push ..
  show _ ∧ _
  rw [hz]
  have he : IsEnum ((s.heap.push o).push { cls := .type "enumerate", data := .fields #[.none, .bool false, .ref s.heap.objs.size, rawInt 0, .none, .none] }) (s.heap.objs.size + 1) s.heap.objs.size 0 .none := by
    have := Heap.get?_push_size (s.heap.push o) (o := { cls := .type "enumerate", data := .fields #[.none, .bool false, .ref s.heap.objs.size, rawInt 0, .none, .none] }) rfl
    rw [hz] at this; exact this
  exact ⟨⟨_, he, rfl⟩, h _ he (Heap.get?_push_of_some _ (Heap.get?_push_size _ B.free)) (by rw [Heap.size_push, hz]) fun b o x => Heap.get?_push_of_some _ (Heap.get?_push_of_some _ x)⟩
end
theorem pi_enumS {X : Cx} {e : Expr} {ta : TA} {p pos tpos : Pos} {elts : List Expr} {kk : Nat} (hg : Gl X "enumerate") (hm : X.mg "enumerate" = none) (ha : L2.PA X [e] ta) (hs : starEach [e] X.env = [(false, eval e X.env)] := by rfl) :
    PI X (.Tuple elts kk tpos) (.Call (.Name "enumerate" p) [e] [] pos) (fun σ H R => ta σ H fun vs H1 => ∃ S ys, vs = [Src.val S] ∧ S.At X.K H1 ys ∧ R (ItE X.K S ys) H1) := by
  refine ⟨fun pins s σ H R I h => ?_⟩
  refine Call_ (ld_blt I hg hm boot_enumerate (PyProof.Rows.callWith_type1 (thn (ha.run pos pins s σ H _ I h) fun us s1 ⟨vs, H1, I1, r1, q1⟩ => ?_) hs rfl))
  obtain ⟨S, ys, ex, hq, q⟩ := q1
  subst ex
  cases r1 with
  | cons r rr =>
    cases rr
    obtain ⟨o, Hb, B, h1, h2⟩ := Src.begins I1 hq r
    refine enum_begins1 B h1 fun h' he hit hsz hk => wpAny_pyIter_enum he ?_
    have I2 : Inv X pins σ H1 { s1 with heap := h' } := I1.kept (t' := s1.toks) hk
    refine ⟨s1.heap.objs.size + 1, [s1.heap.objs.size + 1, s1.heap.objs.size], _, _, H1, rfl, I2, turn_enumS S ys (s1.heap.objs.size + 1) s1.heap.objs.size, ⟨⟨.none, he⟩, h2 _ _ hit, Nat.succ_ne_self _⟩, fun b hb => ?_, q⟩
    have e' : b = s1.heap.objs.size + 1 ∨ b = s1.heap.objs.size := by simpa using hb
    have hle : s1.heap.objs.size ≤ b := by
      rcases e' with z | z
      · rw [z]; exact Nat.le_add_right _ _
      · rw [z]; exact Nat.le_refl _
    exact I1.fpOk hle (I1.hok.fresh hle)
/-- zip: the items of two sources, in new pairs -/
def ItZ (K : PySem.W.Frag) (S1 S2 : Src) (xs ys : List V) : It :=
  ⟨fun i H => S1.At K H xs ∧ S2.At K H ys ∧ i < xs.length ∧ i < ys.length, fun i H v H' => ∃ T x y, v = .ref T ∧ H T = none ∧ H' = upd H T (.tup [x, y]) ∧ xs[i]? = some x ∧ ys[i]? = some y,
    fun i H => S1.At K H xs ∧ S2.At K H ys ∧ i = min xs.length ys.length⟩
theorem turn_zipS {P : Program} {w : World} {K : PySem.W.Frag} {elts : List Expr} {kk : Nat} {tpos : Pos} (S1 S2 : Src) (xs ys : List V) {z TI TO i1 i2 : Addr} (nd : [z, TI, TO, i1, i2].Nodup) :
    Turn P w K (.Tuple elts kk tpos) (ItZ K S1 S2 xs ys) [z, TI, TO, i1, i2] z (fun i h => IsZip h z TI TO .none ∧ IsTupOf2 h TI (.ref i1) (.ref i2) ∧ (∃ x y, IsTupOf2 h TO x y) ∧ S1.Pt i1 i h ∧ S2.Pt i2 i h) where
  mem := by simp
  obj := fun i h st c hc => by
    obtain ⟨hz, hTI, ⟨x, y, hTO⟩, p1, p2⟩ := st
    have e' : c = z ∨ c = TI ∨ c = TO ∨ c = i1 ∨ c = i2 := by simpa using hc
    rcases e' with q | q | q | q | q
    · rw [q]; exact ⟨_, hz, fun v q => nomatch q⟩
    · rw [q]; exact ⟨_, hTI, fun v q => nomatch q⟩
    · rw [q]; exact ⟨_, hTO, fun v q => nomatch q⟩
    · rw [q]; exact p1.obj
    · rw [q]; exact p2.obj
  keep := fun i h h' st k => by
    obtain ⟨hz, hTI, ⟨x, y, hTO⟩, h1, h2⟩ := st
    exact ⟨k z (by simp) _ hz, k TI (by simp) _ hTI, ⟨x, y, k TO (by simp) _ hTO⟩, h1.at_ fun o q => k i1 (by simp) o q, h2.at_ fun o q => k i2 (by simp) o q⟩
  item := by
    intro X hP hw hK hc i pins s σ H E I hf st hg
    subst hP hw hK
    obtain ⟨hz, hTI, ⟨x0, y0, hTO⟩, p1, p2⟩ := st
    obtain ⟨hqx, hqy, l1, l2⟩ := hg
    have nd' := nd
    simp only [List.nodup_cons, List.mem_cons, List.not_mem_nil, or_false, not_or, List.nodup_nil, and_true, not_false_eq_true] at nd'
    obtain ⟨⟨n1, n2, n3, n4⟩, ⟨n5, n6, n7⟩, ⟨n8, n9⟩, n10⟩ := nd'
    obtain ⟨fp1, P1, St1, D1, st1, back1, val1, mem1, out1⟩ := Src.draws hc I hqx (hf i1 (by simp)) p1
    obtain ⟨fp2, P2, St2, D2, st2, back2, val2, mem2, out2⟩ := Src.draws hc I hqy (hf i2 (by simp)) p2
    have S : ZipSep2 z TI TO i1 i2 fp1 fp2 := ⟨Ne.symm n1, Ne.symm n2, n5, n6, mem1, out1 z (hf z (by simp)) n3, out1 TO (hf TO (by simp)) n8, n7, mem2, out2 z (hf z (by simp)) n4, out2 TO (hf TO (by simp)) n9,
      out2 i1 (hf i1 (by simp)) n10, out1 i2 (hf i2 (by simp)) (Ne.symm n10)⟩
    have hzl : z < s.heap.objs.size := Heap.lt_size hz
    refine wpAny_pyNext_zipD2_item S D1 D2 hz hTI hTO st1 st2 l1 l2 fun u1 u2 h' tk y1 y2 z' TO' st1' st2' hT hsz hk => ?_
    obtain ⟨x, hx, ru⟩ := val1 i u1 y1
    obtain ⟨y, hy, ru2⟩ := val2 i u2 y2
    refine ⟨_, rfl, wpAny_letOwnedTupleGo_zip (s := { s with heap := h', toks := tk }) z' fun h'' z'' sb => ?_⟩
    have hT2 : h''.get? s.heap.objs.size = some { cls := .type "tuple", data := .seq #[u1, u2] } := (sb.2 _ (Nat.ne_of_gt hzl)).trans hT
    have new : ObjOk X.prog X.w (upd H s.heap.objs.size (.tup [x, y])) h'' s.heap.objs.size (.tup [x, y]) :=
      ⟨by show 2 ≤ sizeLine; decide, [u1, u2], .cons ru (.cons ru2 .nil), ⟨_, hT2, rfl, _, rfl⟩⟩
    have I1 : Inv X pins σ (upd H s.heap.objs.size (.tup [x, y])) { s with heap := h'', toks := tk } :=
      I.turnedNew (ch := [z, TI, TO, i1, i2]) (fun c o hb q => (sb.2 c (fun q' => hb (by simp [q']))).trans (hk c o (fun q' => hb (by simp [q'])) (fun q' => hb (by simp [q'])) (fun q' => hb (by simp [q'])) (fun q' => hb (by simp [q'])) q)) hf (Nat.le_refl _) new
    refine ⟨.ref s.heap.objs.size, _, I1, rfl, ⟨_, x, y, rfl, I.hok.fresh (Nat.le_refl _), rfl, hx, hy⟩, ⟨z'', ?_, ⟨u1, u2, ?_⟩, ?_, ?_⟩, fun c hcm => ?_⟩
    · exact (sb.2 _ (Ne.symm n1)).trans (hk _ _ (Ne.symm n1) n5 n6 n7 hTI)
    · exact (sb.2 _ (Ne.symm n2)).trans TO'
    · exact (back1 _ _ st1').at_ fun o q => (sb.2 _ (Ne.symm n3)).trans q
    · exact (back2 _ _ st2').at_ fun o q => (sb.2 _ (Ne.symm n4)).trans q
    · have hlt : c < s.heap.objs.size := by
        have e' : c = z ∨ c = TI ∨ c = TO ∨ c = i1 ∨ c = i2 := by simpa using hcm
        rcases e' with q | q | q | q | q
        · rw [q]; exact hzl
        · rw [q]; exact Heap.lt_size hTI
        · rw [q]; exact Heap.lt_size hTO
        · rw [q]; obtain ⟨o, e1, _⟩ := p1.obj; exact Heap.lt_size e1
        · rw [q]; obtain ⟨o, e2, _⟩ := p2.obj; exact Heap.lt_size e2
      rw [upd_ne (Nat.ne_of_lt hlt)]
      exact (hf c hcm).1
  done := by
    intro X hP hw hK hc i pins s σ H E I hf st hg
    subst hP hw hK
    obtain ⟨hz, hTI, ⟨x0, y0, hTO⟩, p1, p2⟩ := st
    obtain ⟨hqx, hqy, hend⟩ := hg
    have nd' := nd
    simp only [List.nodup_cons, List.mem_cons, List.not_mem_nil, or_false, not_or, List.nodup_nil, and_true, not_false_eq_true] at nd'
    obtain ⟨⟨n1, n2, n3, n4⟩, ⟨n5, n6, n7⟩, ⟨n8, n9⟩, n10⟩ := nd'
    obtain ⟨fp1, P1, St1, D1, st1, back1, val1, mem1, out1⟩ := Src.draws hc I hqx (hf i1 (by simp)) p1
    obtain ⟨fp2, P2, St2, D2, st2, back2, val2, mem2, out2⟩ := Src.draws hc I hqy (hf i2 (by simp)) p2
    have S : ZipSep2 z TI TO i1 i2 fp1 fp2 := ⟨Ne.symm n1, Ne.symm n2, n5, n6, mem1, out1 z (hf z (by simp)) n3, out1 TO (hf TO (by simp)) n8, n7, mem2, out2 z (hf z (by simp)) n4, out2 TO (hf TO (by simp)) n9,
      out2 i1 (hf i1 (by simp)) n10, out1 i2 (hf i2 (by simp)) (Ne.symm n10)⟩
    exact wpAny_pyNext_zipD2_end S D1 D2 hz hTI hTO st1 st2 (by omega) (by omega) (by omega) fun h' tk hk => ⟨rfl, I.turnedL (t' := tk) (ch := [z, TI, TO, i1, i2]) (fun c o hb q =>
      hk c o (fun q' => hb (by simp [q'])) (fun q' => hb (by simp [q'])) (fun q' => hb (by simp [q'])) (fun q' => hb (by simp [q'])) q) hf⟩
  self := fun A i s Q E st h => wpAny_pyIter_zip st.1 h
theorem pi_zipS {X : Cx} {e e2 : Expr} {ta : TA} {p pos tpos : Pos} {elts : List Expr} {kk : Nat} (hg : Gl X "zip") (hm : X.mg "zip" = none) (ha : L2.PA X [e, e2] ta)
    (hs : starEach [e, e2] X.env = (false, eval e X.env) :: starEach [e2] X.env := by rfl) (hpl : (backTo pos (starEach [e2] X.env)).any (·.1) = false := by rfl) :
    PI X (.Tuple elts kk tpos) (.Call (.Name "zip" p) [e, e2] [] pos) (fun σ H R => ta σ H fun vs H1 => ∃ S1 S2 xs ys, vs = [Src.val S1, Src.val S2] ∧ S1.At X.K H1 xs ∧ S2.At X.K H1 ys ∧ R (ItZ X.K S1 S2 xs ys) H1) := by
  refine ⟨fun pins s σ H R I h => ?_⟩
  refine Call_ (ld_blt I hg hm PyProof.Rows.boot_zip (PyProof.Rows.callWith_type1 (thn (ha.run pos pins s σ H _ I h) fun us s1 ⟨vs, H1, I1, r1, q1⟩ => ?_) hs hpl))
  obtain ⟨S1, S2, xs, ys, ex, hqx, hqy, q⟩ := q1
  subst ex
  cases r1 with
  | cons r rr =>
    cases rr with
    | cons r' rr =>
      cases rr
      obtain ⟨o1, Hb1, B1, a1, b1⟩ := Src.begins I1 hqx r
      obtain ⟨o2, Hb2, B2, a2, b2⟩ := Src.begins I1 hqy r'
      refine zip_begins2 B1 B2 a1 a2 fun h' hz hTI hTO h1 h2 hsz hk => wpAny_pyIter_zip hz ?_
      have I2 : Inv X pins σ H1 { s1 with heap := h' } := I1.kept (t' := s1.toks) hk
      have nd : [s1.heap.objs.size + 4, s1.heap.objs.size + 2, s1.heap.objs.size + 3, s1.heap.objs.size, s1.heap.objs.size + 1].Nodup := by
        generalize s1.heap.objs.size = n
        simp [List.nodup_cons]
      refine ⟨s1.heap.objs.size + 4, [s1.heap.objs.size + 4, s1.heap.objs.size + 2, s1.heap.objs.size + 3, s1.heap.objs.size, s1.heap.objs.size + 1], _, _, H1, rfl, I2, turn_zipS S1 S2 xs ys nd, ⟨hz, hTI, ⟨_, _, hTO⟩, b1 _ _ h1, b2 _ _ h2⟩, fun c hcm => ?_, q⟩
      have e' : c = s1.heap.objs.size + 4 ∨ c = s1.heap.objs.size + 2 ∨ c = s1.heap.objs.size + 3 ∨ c = s1.heap.objs.size ∨ c = s1.heap.objs.size + 1 := by simpa using hcm
      have hle : s1.heap.objs.size ≤ c := by
        rcases e' with z | z | z | z | z
        · rw [z]; exact Nat.le_add_right _ _
        · rw [z]; exact Nat.le_add_right _ _
        · rw [z]; exact Nat.le_add_right _ _
        · rw [z]; exact Nat.le_refl _
        · rw [z]; exact Nat.le_add_right _ _
      exact I1.fpOk hle (I1.hok.fresh hle)
end DS
end

section
set_option Elab.async false
set_option linter.all false
set_option maxRecDepth 100000
set_option maxHeartbeats 2000000
namespace DS
open PySem PySem.Spec PyProof.Rows L2
section
variable {T : Tab} {X : Cx} {W : WX} {pos p apos tpos : Pos} {a b c e o tge : Expr} {es elts : List Expr} {l : Loc} {m : Mem} {σ : L2.St} {H H1 : Hp} {fe : Ex} {kk : Nat}
/-! ### operands in a row -/
inductive OpVs (T : Tab) (K : PySem.W.Frag) (σ : L2.St) (H : Hp) : List V → List Op → Prop
  | nil : OpVs T K σ H [] []
  | cons {v : V} {o : Op} {vs : List V} {os : List Op} : OpV T K σ H v o → OpVs T K σ H vs os → OpVs T K σ H (v :: vs) (o :: os)
def tDPA (T : Tab) (K : PySem.W.Frag) (W : WX) (f : Epa) : TA := fun σ H Q => ∃ l m, Rel T K l m σ H ∧ post T K W (f l m) σ H fun os _ _ H' => ∀ vs, OpVs T K σ H' vs os → Q vs H'
abbrev DPA (T : Tab) (X : Cx) (W : WX) (e : List Expr) (f : Epa) : Prop := L2.PA X e (tDPA T X.K W f)
theorem OpV.mono {K : PySem.W.Frag} {v : V} {o : Op} (h : OpV T K σ H v o) (mo : Mono H H1) : OpV T K σ H1 v o := by
  cases o with
  | val d => exact Rep.mono mo h
  | slot i => exact h
theorem dpa_nil : DPA T X W [] pNil := pa_weak pa_nil fun σ H Q ⟨l, m, R, q⟩ => q H .refl R [] .nil
theorem dpa_cons {fp : Ep} {fr : Epa} (he : DO T X W e fp) (hr : DPA T X W es fr) (hs : starEach (e :: es) X.env = (false, eval e X.env) :: starEach es X.env := by rfl) : DPA T X W (e :: es) (pCons fp fr) :=
  pa_weak (pa_cons he hr hs) fun σ H Q ⟨l, m, R, q⟩ => ⟨l, m, R, (post.bind q).imp fun d l1 m1 H1 mo1 R1 q1 v1 r1 => ⟨l1, m1, R1, (post.bind q1.2).imp fun ds l2 m2 H2 mo2 R2 q2 vs r2 =>
    q2.2 H2 .refl R2 _ (.cons (r1.mono mo2) r2)⟩⟩
/-- readable, none of the changing objects -/
def RepN (T : Tab) (K : PySem.W.Frag) (H : Hp) (v : V) (d : D) : Prop := Rep T K H v d ∨ ∃ a, v = .ref a ∧ Own T K H a d ∧ a ∉ T.γ
theorem RepN.r {K : PySem.W.Frag} {v : V} {d : D} (h : RepN T K H v d) : RepR T K H v d := h.imp id fun ⟨a, e, o, _⟩ => ⟨a, e, o⟩
theorem OpV.getN {v : V} {o : Op} {d : D} (h : OpV T X.K σ H1 v o) (mo : Mono H1 H) (R : Rel T X.K l m σ H) (e : o.get l = some d) : RepN T X.K H v d := by
  cases o with
  | val d' => cases e; exact .inl (Rep.mono mo h)
  | slot i =>
    have h : σ[i]? = some (some v) := h
    unfold Op.get at e
    dsimp only at e
    split at e
    · rename_i s hs
      cases e
      obtain ⟨v', h1, h2⟩ := R.sl i s hs
      rw [h] at h1; cases h1
      cases s with
      | v d => exact .inl h2
      | o d => obtain ⟨a, e, ow, _, ng⟩ := h2; exact .inr ⟨a, e, ow, ng⟩
      | r d => obtain ⟨a, e, ow, _, ng⟩ := h2; exact .inr ⟨a, e, ow, ng⟩
      | s d => obtain ⟨a, e, ow, _, ng⟩ := h2; exact .inr ⟨a, e, ow, ng⟩
    · cases e
/-- readable things in a row -/
inductive RepRs (T : Tab) (K : PySem.W.Frag) (H : Hp) : List V → List D → Prop
  | nil : RepRs T K H [] []
  | cons {v : V} {d : D} {vs : List V} {ds : List D} : RepN T K H v d → RepRs T K H vs ds → RepRs T K H (v :: vs) (d :: ds)
theorem OpVs.get {vs : List V} {os : List Op} (h : OpVs T X.K σ H vs os) (R : Rel T X.K l m σ H) : ∀ {ds : List D}, opsGet l os = some ds → RepRs T X.K H vs ds := by
  induction h with
  | nil => intro ds e; cases e; exact .nil
  | cons r t ih =>
    intro ds e
    simp only [opsGet] at e
    split at e
    · rename_i d hd
      split at e
      · rename_i ds' hds
        cases e
        exact .cons (r.getN .refl R hd) (ih hds)
      · cases e
    · cases e
theorem Reps.rs {K : PySem.W.Frag} {vs : List V} {ds : List D} (h : Reps T K H vs ds) : RepRs T K H vs ds := match h with
  | .nil => .nil
  | .cons r t => .cons (.inl r) (Reps.rs t)
/-! ### what is walked -/
/-- a loop's P: Mono, a comprehension's: Stay T.tq T.γ -/
def tDIp (Pw : Hp → Hp → Prop) (T : Tab) (K : PySem.W.Frag) (W : WX) (f : Ei) : TI := fun σ H R => ∃ l m, Rel T K l m σ H ∧ post T K W (f l m) σ H fun ds l' m' H' => Rel T K l' m' σ H' → ∀ J, WalkD T K (Pw H') J ds → R J H'
abbrev DC (T : Tab) (X : Cx) (W : WX) (tg e : Expr) (f : Ei) : Prop := PI X tg e (tDIp (Stay T.tq T.γ) T X.K W f)
theorem WalkD.weak {K : PySem.W.Frag} {P P' : Hp → Prop} {J : It} {ds : List D} (h : WalkD T K P J ds) (i : ∀ H, P' H → P H) : WalkD T K P' J ds := by
  obtain ⟨Y, w, y⟩ := h
  exact ⟨Y, w.mono i fun _ _ _ _ _ _ y => y, fun j H x H2 hj h' => y j H x H2 hj (i H h')⟩
theorem dc_of {fi : Ei} (h : DI T X W tge e fi) : DC T X W tge e fi := pi_weak h fun σ H R ⟨l, m, Rl, q⟩ => ⟨l, m, Rl, q.imp fun ds l1 m1 H1 mo R1 q1 J wd => q1 R1 J (wd.weak fun H' s => s.mono R1.mem)⟩
/-- P keeps what is readable -/
def Keeps (T : Tab) (K : PySem.W.Frag) (H : Hp) (P : Hp → Prop) (v : V) (d : D) : Prop := ∀ H', P H' → Mono H H' ∧ ∀ a u, v = .ref a → Own T K H a d → H a = some u → H' a = some u
theorem Rep.not_own {K : PySem.W.Frag} {a : Addr} {d : D} (r : Rep T K H (.ref a) d) (o : Own T K H a d) : False := by
  cases o with
  | lst p q => cases r with
    | lst s _ => obtain ⟨u, s⟩ := s; rw [p] at s; cases s
  | dct p q => cases r with
    | dct s _ => rw [p] at s; cases s
  | ins p q => cases r with
    | ins s _ => rw [p] at s; cases s
theorem Rep.keeps {K : PySem.W.Frag} {v : V} {d : D} (r : Rep T K H v d) : Keeps T K H (Mono H) v d := fun H' mo => ⟨mo, fun a u e o _ => by subst e; exact (r.not_own o).elim⟩
theorem RepN.keeps {K : PySem.W.Frag} {v : V} {d : D} (r : RepN T K H v d) (M : MemR T K H m) : Keeps T K H (Stay T.tq T.γ H) v d := fun H' s => ⟨s.mono M, fun a u e o hu => by
  rcases r with r | ⟨a', e', o', ng⟩
  · subst e; exact (r.not_own o).elim
  · rw [e] at e'
    cases e'
    obtain ⟨u', eu', _, _, _, nt, _⟩ := o.there
    rw [hu] at eu'; cases eu'
    exact s.at_ a u hu ng nt⟩
/-- how a readable sequence is drawn -/
theorem RepR.src {K : PySem.W.Frag} {P : Hp → Prop} {v : V} {d : D} {ds : List D} (rp : RepR T K H v d) (ed : seqD d = some ds) (hk : Keeps T K H P v d) :
    ∃ S ys, v = Src.val S ∧ S.At K H ys ∧ Reps T K H ys ds ∧ ∀ H', P H' → S.At K H' ys := by
  unfold seqD at ed
  split at ed
  · cases ed
    obtain ⟨a, xs, ev, hr, rs⟩ := rp.lst
    refine ⟨.lst a, xs, ev, .inl hr, rs, fun H' h => ?_⟩
    obtain ⟨mo, k⟩ := hk H' h
    rcases hr with hr | ⟨o, hr⟩
    · exact .inl (.inl (k a _ ev (.lst hr rs) hr))
    · exact .inl (.inr ⟨o, mo.frz _ _ _ hr⟩)
  · cases ed
    obtain ⟨a, xs, ev, hr, rs⟩ := rp.tup
    exact ⟨.tup a, xs, ev, hr, rs, fun H' h => SqT.mono (hk H' h).1 hr⟩
  · rename_i z
    cases ed
    obtain ⟨ev, hb, hz⟩ := rp.str
    have hs : ∀ (y : List Nat), (∀ c ∈ y, c < 1114112) → Reps T K H (y.map fun c => V.str ⟨#[c]⟩) (y.map fun c => D.str [c]) := fun y => by
      induction y with
      | nil => exact fun _ => .nil
      | cons c y ih => exact fun hb => .cons (.str [c] (fun x hx => by
          have : x = c := by simpa using hx
          subst this
          exact hb x (by simp)) (by simp)) (ih fun x hx => hb x (by simp [hx]))
    refine ⟨.txt (tx z), z.map fun c => .str ⟨#[c]⟩, ev, by simp [Src.At, tx], hs z hb, fun H' h => by simp [Src.At, tx]⟩
  · cases ed
theorem enumL_get {ds : List D} {i : Nat} {d : D} (e : ds[i]? = some d) : (enumL ds)[i]? = some (.tup [.int (i : Nat), d]) := by
  unfold enumL
  obtain ⟨h, e⟩ := List.getElem?_eq_some_iff.mp e
  simp [List.getElem?_zipWith, List.getElem?_range h, h, e]
theorem enumL_length (ds : List D) : (enumL ds).length = ds.length := by simp [enumL]
theorem zipL_get {xs ys : List D} {i : Nat} {d e : D} (h1 : xs[i]? = some d) (h2 : ys[i]? = some e) : (zipL xs ys)[i]? = some (.tup [d, e]) := by
  simp [zipL, List.getElem?_zipWith, h1, h2]
theorem zipL_length (xs ys : List D) : (zipL xs ys).length = min xs.length ys.length := by simp [zipL]
theorem rep_pair {K : PySem.W.Frag} {H : Hp} {t : Addr} {x y : V} {d e : D} (ht : H t = none) (r1 : Rep T K H x d) (r2 : Rep T K H y e) : Grow H (upd H t (.tup [x, y])) ∧ Rep T K (upd H t (.tup [x, y])) (.ref t) (.tup [d, e]) :=
  ⟨.upd ht, .tup (SqT.of upd_same) (.cons (r1.mono (Grow.upd ht).mono) (.cons (r2.mono (Grow.upd ht).mono) .nil))⟩
/-- enumerate's items -/
theorem walk_enumD {K : PySem.W.Frag} {P : Hp → Prop} {S : Src} {ys : List V} {ds : List D} (rs : Reps T K H ys ds) (hP : ∀ H', P H' → Mono H H' ∧ S.At K H' ys) : WalkD T K P (ItE K S ys) (enumL ds) := by
  refine ⟨YPair (fun i => some (.int (i : Nat))) (fun i => ys[i]?), ⟨fun i H' hi h => ⟨(hP H' h).2, ?_⟩, fun H' h => ⟨(hP H' h).2, ?_⟩, fun i H' x H2 hi h y => ?_⟩, fun i H' x H2 hi h y => ?_⟩
  · rw [enumL_length] at hi; rw [rs.length]; exact hi
  · rw [enumL_length, rs.length]
  · obtain ⟨t, z, e1, e2, e3, e4⟩ := y
    exact ⟨t, _, z, e1, e2, e3, rfl, e4⟩
  · obtain ⟨t, x1, x2, e1, e2, e3, e4, e5⟩ := y
    cases e4
    obtain ⟨d, ed, rd⟩ := rs.yat e5 (hP H' h).1
    subst e1; subst e3
    obtain ⟨g, r⟩ := rep_pair e2 (.int (i : Nat)) rd
    exact ⟨g, _, enumL_get ed, r⟩
theorem walk_zipD {K : PySem.W.Frag} {P : Hp → Prop} {S1 S2 : Src} {xs ys : List V} {ds es : List D} (rs : Reps T K H xs ds) (rs2 : Reps T K H ys es) (hP : ∀ H', P H' → Mono H H' ∧ S1.At K H' xs ∧ S2.At K H' ys) : WalkD T K P (ItZ K S1 S2 xs ys) (zipL ds es) := by
  have l1 := rs.length
  have l2 := rs2.length
  refine ⟨YPair (fun i => xs[i]?) (fun i => ys[i]?), ⟨fun i H' hi h => ⟨(hP H' h).2.1, (hP H' h).2.2, ?_⟩, fun H' h => ⟨(hP H' h).2.1, (hP H' h).2.2, ?_⟩, fun i H' x H2 hi h y => ?_⟩, fun i H' x H2 hi h y => ?_⟩
  · rw [zipL_length] at hi; omega
  · rw [zipL_length, l1, l2]
  · exact y
  · obtain ⟨t, x1, x2, e1, e2, e3, e4, e5⟩ := y
    obtain ⟨d, ed, rd⟩ := rs.yat e4 (hP H' h).1
    obtain ⟨d2, ed2, rd2⟩ := rs2.yat e5 (hP H' h).1
    subst e1; subst e3
    obtain ⟨g, r⟩ := rep_pair e2 rd rd2
    exact ⟨g, _, zipL_get ed ed2, r⟩
theorem RepRs.one {K : PySem.W.Frag} {vs : List V} {d : D} (r : RepRs T K H vs [d]) : ∃ v, vs = [v] ∧ RepN T K H v d := by
  cases r with
  | cons r t => cases t; exact ⟨_, rfl, r⟩
theorem RepRs.two {K : PySem.W.Frag} {vs : List V} {d e : D} (r : RepRs T K H vs [d, e]) : ∃ v w, vs = [v, w] ∧ RepN T K H v d ∧ RepN T K H w e := by
  cases r with
  | cons r t =>
    cases t with
    | cons r' t => cases t; exact ⟨_, _, rfl, r, r'⟩
theorem RepRs.three {K : PySem.W.Frag} {vs : List V} {d e f : D} (r : RepRs T K H vs [d, e, f]) : ∃ v w u, vs = [v, w, u] ∧ RepN T K H v d ∧ RepN T K H w e ∧ RepN T K H u f := by
  cases r with
  | cons r t =>
    cases t with
    | cons r' t => cases t with
      | cons r'' t => cases t; exact ⟨_, _, _, rfl, r, r', r''⟩
/-! ### by values -/
theorem di_seq (he : DE T X W e fe) : DI T X W tge e (iE fe itemsD) := pi_weak (pi_seq he) fun σ H R ⟨l, m, Rl, q⟩ => ⟨l, m, Rl, (post.bind q).imp fun d l1 m1 H1 mo R1 q1 v rv => by
  obtain ⟨ds, ed, q1⟩ := post.lift q1.2
  have q1 := q1 H1 .refl R1
  exact RepR.walk (P := Mono H1) (.inl rv) ed (fun H' mo => ⟨mo, fun a u e o ev => by subst ev; exact (rv.not_own o).elim⟩) (fun kvs e => rv) fun J w => q1 J w⟩
theorem dc_seq {fp : Ep} (he : DO T X W e fp) : DC T X W tge e (iP seqD fp) := pi_weak (pi_seq he) fun σ H R ⟨l, m, Rl, q⟩ => ⟨l, m, Rl, (post.bind q).imp fun o l1 m1 H1 mo R1 q1 v rv => by
  have q1 := q1.2
  cases e1 : o.get l1 with
  | none => rw [e1] at q1; exact q1.elim
  | some d =>
    rw [e1] at q1
    obtain ⟨ds, ed, q2⟩ := post.lift q1
    clear q1
    have q2 := q2 H1 .refl R1 R1
    have rn := rv.getN .refl R1 e1
    have ed' : itemsD d = some ds := by
      unfold seqD at ed
      split at ed <;> first | exact ed | cases ed
    refine RepR.walk (P := Stay T.tq T.γ H1) rn.r ed' (fun H' s => ?_) (fun kvs e => ?_) fun J w => q2 J w
    · obtain ⟨mo, k⟩ := rn.keeps R1.mem H' s
      exact ⟨mo, fun a u e o ev => k a u ev o e⟩
    · subst e; cases ed⟩
end
end DS
end

section
set_option Elab.async false
set_option linter.all false
set_option maxRecDepth 100000
set_option maxHeartbeats 2000000
namespace DS
open PySem PySem.Spec PyProof.Rows L2
section
variable {T : Tab} {X : Cx} {W : WX} {pos p apos tpos : Pos} {a b c e o tge : Expr} {es elts : List Expr} {l : Loc} {m : Mem} {σ : L2.St} {H H1 : Hp} {fe : Ex} {kk : Nat}
theorem small_ok {i : Int} (h : small i = true) : -(2 ^ 62) ≤ i ∧ i < 2 ^ 62 := by
  unfold small at h
  simp only [Bool.and_eq_true, decide_eq_true_eq] at h
  omega
theorem walk_rangeD {K : PySem.W.Frag} {P : Hp → Prop} {lo hi : Int} : WalkD T K P (Itr lo (hi - lo).toNat) (rangeL lo hi) := by
  refine ⟨_, (walk_range (lo := lo) (n := (hi - lo).toNat)).mono (fun _ _ => trivial) (fun _ _ _ _ _ _ y => y) |>.cast (by simp [rangeL]), fun i H' x H2 hi' h y => ?_⟩
  obtain ⟨rfl, ex⟩ := y
  have hi'' : i < (hi - lo).toNat := by simpa [rangeL] using hi'
  exact ⟨.refl, .int (lo + (i : Nat)), by simp [rangeL, hi''], by rw [ex]; exact .int _⟩
theorem di_range1 {fa : Ea} (hg : Gl X "range") (hm : X.mg "range" = none) (ha : DA T X W [a] fa) (hs : starEach [a] X.env = [(false, eval a X.env)] := by rfl) : DI T X W tge (.Call (.Name "range" p) [a] [] pos) (iA fa rangeD1) :=
  pi_weak (pi_range1 hg hm ha hs) fun σ H R ⟨l, m, Rl, q⟩ => ⟨l, m, Rl, (post.bind q).imp fun ds l1 m1 H1 mo R1 q1 vs rs => by
    obtain ⟨xs, ed, q2⟩ := post.lift q1.2
    have q2 := q2 H1 .refl R1
    unfold rangeD1 at ed
    split at ed
    · split at ed
      · rename_i j hj
        cases ed
        obtain ⟨v, ev, rv⟩ := rs.rs.one
        subst ev
        have := rv.r.int
        subst this
        have w := q2 _ (walk_rangeD (lo := 0) (hi := j))
        rw [show j - 0 = j by omega] at w
        exact ⟨j, rfl, (small_ok hj).1, (small_ok hj).2, w⟩
      · cases ed
    · cases ed⟩
theorem di_range2 {fa : Ea} (hg : Gl X "range") (hm : X.mg "range" = none) (ha : DA T X W [a, b] fa) (hs : starEach [a, b] X.env = [(false, eval a X.env), (false, eval b X.env)] := by rfl) (hs2 : starEach [b] X.env = [(false, eval b X.env)] := by rfl) : DI T X W tge (.Call (.Name "range" p) [a, b] [] pos) (iA fa rangeD2) :=
  pi_weak (pi_range2 hg hm ha hs hs2) fun σ H R ⟨l, m, Rl, q⟩ => ⟨l, m, Rl, (post.bind q).imp fun ds l1 m1 H1 mo R1 q1 vs rs => by
    obtain ⟨xs, ed, q2⟩ := post.lift q1.2
    have q2 := q2 H1 .refl R1
    unfold rangeD2 at ed
    split at ed
    · split at ed
      · rename_i i j hj
        cases ed
        rw [Bool.and_eq_true] at hj
        obtain ⟨v, w, ev, rv, rw'⟩ := rs.rs.two
        subst ev
        have e1 := rv.r.int
        have e2 := rw'.r.int
        subst e1; subst e2
        exact ⟨i, j, rfl, ⟨(small_ok hj.1).1, (small_ok hj.1).2, (small_ok hj.2).1, (small_ok hj.2).2⟩, q2 _ walk_rangeD⟩
      · cases ed
    · cases ed⟩
theorem di_range3 {fa : Ea} (hg : Gl X "range") (hm : X.mg "range" = none) (ha : DA T X W [a, b, c] fa) (hs : starEach [a, b, c] X.env = (false, eval a X.env) :: starEach [b, c] X.env := by rfl) (hpl : (backTo pos (starEach [b, c] X.env)).any (·.1) = false := by rfl) : DI T X W tge (.Call (.Name "range" p) [a, b, c] [] pos) (iA fa rangeD3) :=
  pi_weak (pi_range3 hg hm ha hs hpl) fun σ H R ⟨l, m, Rl, q⟩ => ⟨l, m, Rl, (post.bind q).imp fun ds l1 m1 H1 mo R1 q1 vs rs => by
    obtain ⟨xs, ed, q2⟩ := post.lift q1.2
    have q2 := q2 H1 .refl R1
    unfold rangeD3 at ed
    split at ed
    · split at ed
      · rename_i i j c hj
        cases ed
        obtain ⟨rfl, hi, hj⟩ := hj
        obtain ⟨v, w, u, ev, rv, rw', ru⟩ := rs.rs.three
        subst ev
        have e1 := rv.r.int
        have e2 := rw'.r.int
        have e3 := ru.r.int
        subst e1; subst e2; subst e3
        have h1 := small_ok hi
        have h2 := small_ok hj
        refine ⟨i, j, -1, (i - j).toNat, rfl, .neg h1.1 h1.2 h2.1 h2.2, q2 _ ⟨_, (walk_rangeC (lo := i) (c := -1) (n := (i - j).toNat)).mono (fun _ _ => trivial) (fun _ _ _ _ _ _ y => y) |>.cast (by simp), fun k H' x H2 hk h y => ?_⟩⟩
        obtain ⟨rfl, ex⟩ := y
        have hk' : k < (i - j).toNat := by simpa using hk
        refine ⟨.refl, .int (i - (k : Nat)), by simp [hk'], ?_⟩
        rw [ex]
        have e : (fun k : Nat => V.int (i + (k : Nat) * -1)) k = .int (i - (k : Nat)) := by
          show V.int _ = _
          congr 1; omega
        rw [e]
        exact .int _
      · cases ed
    · cases ed⟩
theorem di_enum {fa : Ea} {elts : List Expr} (hg : Gl X "enumerate") (hm : X.mg "enumerate" = none) (ha : DA T X W [e] fa) (hs : starEach [e] X.env = [(false, eval e X.env)] := by rfl) : DI T X W (.Tuple elts kk tpos) (.Call (.Name "enumerate" p) [e] [] pos) (iA fa enumD) :=
  pi_weak (pi_enumS hg hm ha hs) fun σ H R ⟨l, m, Rl, q⟩ => ⟨l, m, Rl, (post.bind q).imp fun ds l1 m1 H1 mo R1 q1 vs rs => by
    obtain ⟨xs, ed, q2⟩ := post.lift q1.2
    have q2 := q2 H1 .refl R1
    unfold enumD at ed
    split at ed
    · rename_i d
      obtain ⟨ys, ey, ex⟩ := Option.map_eq_some_iff.mp ed
      subst ex
      cases rs with
      | cons r t =>
        cases t
        obtain ⟨S, zs, e1, e2, e3, e4⟩ := RepR.src (P := Mono H1) (.inl r) ey r.keeps
        exact ⟨S, zs, by rw [e1], e2, q2 _ (walk_enumD e3 fun H' mo => ⟨mo, e4 H' mo⟩)⟩
    · cases ed⟩
theorem dc_enum {fa : Epa} {elts : List Expr} (hg : Gl X "enumerate") (hm : X.mg "enumerate" = none) (ha : DPA T X W [e] fa) (hs : starEach [e] X.env = [(false, eval e X.env)] := by rfl) : DC T X W (.Tuple elts kk tpos) (.Call (.Name "enumerate" p) [e] [] pos) (iPA enumD fa) :=
  pi_weak (pi_enumS hg hm ha hs) fun σ H R ⟨l, m, Rl, q⟩ => ⟨l, m, Rl, (post.bind q).imp fun os l1 m1 H1 mo R1 q1 vs rs => by
    have q1 := q1.2
    cases e1 : opsGet l1 os with
    | none => rw [e1] at q1; exact q1.elim
    | some ds =>
      rw [e1] at q1
      obtain ⟨xs, ed, q2⟩ := post.lift q1
      clear q1
      have q2 := q2 H1 .refl R1 R1
      have rr := rs.get R1 e1
      unfold enumD at ed
      split at ed
      · obtain ⟨ys, ey, ex⟩ := Option.map_eq_some_iff.mp ed
        subst ex
        obtain ⟨v, ev, r⟩ := rr.one
        subst ev
        have hk := r.keeps R1.mem
        obtain ⟨S, zs, e1, e2, e3, e4⟩ := RepR.src (P := Stay T.tq T.γ H1) r.r ey hk
        exact ⟨S, zs, by rw [e1], e2, q2 _ (walk_enumD e3 fun H' s => ⟨(hk H' s).1, e4 H' s⟩)⟩
      · cases ed⟩
theorem di_zip {fa : Ea} {elts : List Expr} (hg : Gl X "zip") (hm : X.mg "zip" = none) (ha : DA T X W [a, b] fa) (hs : starEach [a, b] X.env = (false, eval a X.env) :: starEach [b] X.env := by rfl) (hpl : (backTo pos (starEach [b] X.env)).any (·.1) = false := by rfl) : DI T X W (.Tuple elts kk tpos) (.Call (.Name "zip" p) [a, b] [] pos) (iA fa zipD) :=
  pi_weak (pi_zipS hg hm ha hs hpl) fun σ H R ⟨l, m, Rl, q⟩ => ⟨l, m, Rl, (post.bind q).imp fun ds l1 m1 H1 mo R1 q1 vs rs => by
    obtain ⟨xs, ed, q2⟩ := post.lift q1.2
    have q2 := q2 H1 .refl R1
    unfold zipD at ed
    split at ed
    · split at ed
      · rename_i y1 y2 h1 h2
        cases ed
        cases rs with
        | cons r t =>
          cases t with
          | cons r' t =>
            cases t
            obtain ⟨S, zs, e1, e2, e3, e4⟩ := RepR.src (P := Mono H1) (.inl r) h1 r.keeps
            obtain ⟨S', zs', e1', e2', e3', e4'⟩ := RepR.src (P := Mono H1) (.inl r') h2 r'.keeps
            exact ⟨S, S', zs, zs', by rw [e1, e1'], e2, e2', q2 _ (walk_zipD e3 e3' fun H' mo => ⟨mo, e4 H' mo, e4' H' mo⟩)⟩
      · cases ed
    · cases ed⟩
theorem dc_zip {fa : Epa} {elts : List Expr} (hg : Gl X "zip") (hm : X.mg "zip" = none) (ha : DPA T X W [a, b] fa) (hs : starEach [a, b] X.env = (false, eval a X.env) :: starEach [b] X.env := by rfl) (hpl : (backTo pos (starEach [b] X.env)).any (·.1) = false := by rfl) : DC T X W (.Tuple elts kk tpos) (.Call (.Name "zip" p) [a, b] [] pos) (iPA zipD fa) :=
  pi_weak (pi_zipS hg hm ha hs hpl) fun σ H R ⟨l, m, Rl, q⟩ => ⟨l, m, Rl, (post.bind q).imp fun os l1 m1 H1 mo R1 q1 vs rs => by
    have q1 := q1.2
    cases e1 : opsGet l1 os with
    | none => rw [e1] at q1; exact q1.elim
    | some ds =>
      rw [e1] at q1
      obtain ⟨xs, ed, q2⟩ := post.lift q1
      clear q1
      have q2 := q2 H1 .refl R1 R1
      have rr := rs.get R1 e1
      unfold zipD at ed
      split at ed
      · split at ed
        · rename_i y1 y2 h1 h2
          cases ed
          obtain ⟨v, w, ev, r, r'⟩ := rr.two
          subst ev
          have hk := r.keeps R1.mem
          have hk' := r'.keeps R1.mem
          obtain ⟨S, zs, e1, e2, e3, e4⟩ := RepR.src (P := Stay T.tq T.γ H1) r.r h1 hk
          obtain ⟨S', zs', e1', e2', e3', e4'⟩ := RepR.src (P := Stay T.tq T.γ H1) r'.r h2 hk'
          exact ⟨S, S', zs, zs', by rw [e1, e1'], e2, e2', q2 _ (walk_zipD e3 e3' fun H' s => ⟨(hk H' s).1, e4 H' s, e4' H' s⟩)⟩
        · cases ed
      · cases ed⟩
theorem di_values (he : DE T X W e fe) (hbase : attributeBase e "values" X.env (eval e X.env) = eval e X.env := by rfl) (hline : (apos.endLine == pos.line) = true := by rfl) : DI T X W tge (.Call (.Attribute e "values" apos) [] [] pos) (iE fe valuesD) :=
  pi_weak (pi_values he hbase hline) fun σ H R ⟨l, m, Rl, q⟩ => ⟨l, m, Rl, (post.bind q).imp fun d l1 m1 H1 mo R1 q1 v rv => by
    obtain ⟨ds, ed, q1⟩ := post.lift q1.2
    have q1 := q1 H1 .refl R1
    unfold valuesD at ed
    split at ed
    · cases ed
      cases rv with
      | dct e r =>
        refine ⟨_, _, _, rfl, e, q1 _ ⟨_, (walk_values (kvs := _)).mono (fun H' mo => mo.frz _ _ _ e) (fun _ _ _ _ _ _ y => y) |>.cast (by simpa using r.length), fun i H' x H2 hi h y => ?_⟩⟩
        obtain ⟨rfl, k, hkv⟩ := y
        obtain ⟨c, d, h1, h2, h3⟩ := r.at_ hkv
        exact ⟨.refl, d, by simp [h1], h3.mono h⟩
    · cases ed⟩
theorem di_items {elts : List Expr} (he : DE T X W e fe) (hbase : attributeBase e "items" X.env (eval e X.env) = eval e X.env := by rfl) (hline : (apos.endLine == pos.line) = true := by rfl) : DI T X W (.Tuple elts kk tpos) (.Call (.Attribute e "items" apos) [] [] pos) (iE fe itemsKV) :=
  pi_weak (pi_items he hbase hline) fun σ H R ⟨l, m, Rl, q⟩ => ⟨l, m, Rl, (post.bind q).imp fun d l1 m1 H1 mo R1 q1 v rv => by
    obtain ⟨ds, ed, q1⟩ := post.lift q1.2
    have q1 := q1 H1 .refl R1
    unfold itemsKV at ed
    split at ed
    · cases ed
      cases rv with
      | dct e r =>
        refine ⟨_, _, _, rfl, e, q1 _ ⟨_, (walk_items (kvs := _)).mono (fun H' mo => mo.frz _ _ _ e) (fun _ _ _ _ _ _ y => y) |>.cast (by simpa using r.length), fun i H' x H2 hi h y => ?_⟩⟩
        obtain ⟨t, x1, x2, e1, e2, e3, e4, e5⟩ := y
        obtain ⟨⟨k, v⟩, hkv, ek⟩ := Option.map_eq_some_iff.mp e4
        simp only [hkv, Option.map_some, Option.some.injEq] at e5
        subst e5
        obtain ⟨c, d, h1, h2, h3⟩ := r.at_ hkv
        subst e1; subst e3; subst ek
        obtain ⟨g, rp⟩ := rep_pair e2 h2.rep (h3.mono h)
        exact ⟨g, _, by simp [h1], rp⟩
    · cases ed⟩
end
end DS
end

section
set_option Elab.async false
set_option linter.all false
set_option maxRecDepth 100000
set_option maxHeartbeats 2000000
namespace DS
open PySem PySem.Spec PyProof.Rows L2
section
variable {T : Tab} {X : Cx} {W : WX} {pos p apos tpos : Pos} {a b c e o tge elt iter : Expr} {es elts : List Expr} {l : Loc} {m : Mem} {σ : L2.St} {H H1 : Hp} {fe : Ex} {kk : Nat}
/-- no exception -/
abbrev W0 : WX := fun _ _ _ _ => False
theorem takes0 {X : Cx} : Takes X W0 := fun u s' ⟨_, _, _, _, _, _, _, _, _, _, _, _, _, _, _, _, h⟩ => h.elim
/-- by one of many readings -/
theorem pe_any {α : Type} {t : α → TE} (h : ∀ i, PE X e (t i)) : PE X e (fun σ H Q => ∃ i, t i σ H Q) := ⟨fun pins s σ H Q I ⟨i, q⟩ => (h i).run pins s σ H Q I q⟩
theorem pts_any {α : Type} {t : α → TT} {ifs : List Expr} (h : ∀ i, PTs X ifs (t i)) : PTs X ifs (fun σ H Q => ∃ i, t i σ H Q) := ⟨fun pins s σ H Q I ⟨i, q⟩ => (h i).run pins s σ H Q I q⟩
theorem pg_any {α : Type} {t : α → TG} {tg : Expr} (h : ∀ i, PG X tg (t i)) : PG X tg (fun v σ H Q => ∃ i, t i v σ H Q) := ⟨fun pins s σ H v u Q I r ⟨i, q⟩ => (h i).run pins s σ H v u Q I r q⟩
theorem pts_weak {t t' : TT} {ifs : List Expr} (h : PTs X ifs t) (w : ∀ σ H Q, t' σ H Q → t σ H Q) : PTs X ifs t' := ⟨fun pins s σ H Q I q => h.run pins s σ H Q I (w σ H Q q)⟩
abbrev DTs (T : Tab) (X : Cx) (W : WX) (e : List Expr) (f : Et) : Prop := PTs X e (tDT T X.K W f)
theorem dts_nil : DTs T X W [] DS.tYes := pts_weak pts_nil fun σ H Q ⟨l, m, R, q⟩ => q H .refl R
theorem dts_one {f : Et} (h : DT T X W e f) : DTs T X W [e] f := pts_one h
theorem wipeL_get {l : Loc} {j : Nat} : ∀ {vs : List Nat}, (wipeL l vs)[j]? = if j ∈ vs then (if j < l.length then some none else none) else l[j]?
  | [] => by simp [wipeL]
  | v :: vs => by
    have len : ∀ vs : List Nat, (wipeL l vs).length = l.length := fun vs => by
      induction vs with
      | nil => rfl
      | cons v vs ih => unfold wipeL; rw [List.length_set, ih]
    unfold wipeL
    by_cases h : v = j
    · subst h
      by_cases hl : v < l.length
      · rw [List.getElem?_set_self (by rw [len]; exact hl)]; simp [hl]
      · rw [List.getElem?_eq_none (by rw [List.length_set, len]; omega)]; simp [hl]
    · rw [List.getElem?_set_ne h, wipeL_get (vs := vs)]
      have : (j ∈ v :: vs) = (j ∈ vs) := by simp [Ne.symm h]
      simp only [this]
theorem wipeL_length {l : Loc} : ∀ {vs : List Nat}, (wipeL l vs).length = l.length
  | [] => rfl
  | v :: vs => by unfold wipeL; rw [List.length_set, wipeL_length]
theorem wipe_wipe (σ : L2.St) (vs : List Nat) : wipe (wipe σ vs) vs = wipe σ vs := by
  apply List.ext_getElem?
  intro j
  rw [wipe_get, wipe_get, wipe_length]
  by_cases hj : j ∈ vs
  · simp only [hj, if_true]
  · simp only [hj, if_false]
/-- into a block: what is the frame's own is read alone -/
theorem Rel.block {K : PySem.W.Frag} {m' : Mem} {H' : Hp} (R : Rel T K l m σ H) (s : Stay T.tq T.γ H H') (M : MemR T K H' m') (vs : List Nat) : Rel (T.v [] H') K (wipeL (roL l) vs) m' (wipe σ vs) H' := by
  have hl : (roL l).length = l.length := by simp [roL]
  have noc : ∀ {i : Nat} {t : Sl}, (wipeL (roL l) vs)[i]? = some (some t) → t.chg = false := fun {i t} e => by
    rw [wipeL_get] at e
    split at e
    · split at e <;> cases e
    · unfold roL at e
      rw [List.getElem?_map] at e
      obtain ⟨u, e1, e2⟩ := Option.map_eq_some_iff.mp e
      cases u with
      | none => cases e2
      | some u => cases u <;> cases e2 <;> rfl
  refine ⟨by rw [wipe_length, wipeL_length, hl]; exact R.len, fun i t e => ?_, fun i j t u a _ e1 e2 c1 => ?_, M.v [] H', .refl⟩
  · rw [wipeL_get] at e
    split at e
    · split at e <;> cases e
    · rename_i hi
      unfold roL at e
      rw [List.getElem?_map] at e
      obtain ⟨u, e1, e2⟩ := Option.map_eq_some_iff.mp e
      cases u with
      | none => cases e2
      | some u =>
        obtain ⟨v, h1, h2⟩ := R.sl i u e1
        have h2 := h2.keep (s.mono R.mem) s.at_
        refine ⟨v, by rw [wipe_get, if_neg hi]; exact h1, ?_⟩
        cases u with
        | v d => cases e2; exact Rep.v [] H' h2
        | o d =>
          cases e2
          obtain ⟨a, e, ow, _, ng⟩ := h2
          obtain ⟨u, eu, _⟩ := ow.there
          exact ⟨a, e, ow.v [] H', ⟨⟨u, eu⟩, by simp⟩, ng⟩
        | r d =>
          cases e2
          obtain ⟨a, e, ow, _, ng⟩ := h2
          obtain ⟨u, eu, _⟩ := ow.there
          exact ⟨a, e, ow.v [] H', ⟨⟨u, eu⟩, by simp⟩, ng⟩
        | s d =>
          cases e2
          obtain ⟨a, e, ow, _, ng⟩ := h2
          obtain ⟨u, eu, _⟩ := ow.there
          exact ⟨a, e, ow.v [] H', ⟨⟨u, eu⟩, by simp⟩, ng⟩
  · rw [noc e1] at c1; cases c1
theorem MemR.upd {K : PySem.W.Frag} (M : MemR T K H m) {D : Addr} {u u' : HO} (hD : H D = some u) (mu : Mut (some u)) (nx : ∀ φ, u ≠ .ext φ) (ng : D ∉ T.γ) (nt : ∀ ps, u ≠ .tbl ps) : MemR T K (upd H D u') m := ⟨M.len, M.nd, fun P hP => tabS_keep (M.tb P hP) (fun ps e2 => by rw [upd_ne (by rintro rfl; rw [hD] at e2; exact nt _ (Option.some.inj e2))]; exact e2) (fun a φ e2 => by rw [upd_ne (by rintro rfl; rw [hD] at e2; exact nx _ (Option.some.inj e2))]; exact e2), fun k a d h1 h2 => by
  have o := M.at_ k a d h1 h2
  have ne : a ≠ D := fun z => ng (z ▸ List.mem_of_getElem? h1)
  have mo : Mono H (L2.upd H D u') := by
    have nb : ∀ b w, H b = some w → w ≠ u → b ≠ D := fun b w h n z => by rw [z, hD] at h; exact n (Option.some.inj h).symm
    exact ⟨fun b q w h => by rw [upd_ne (nb b _ h (by rintro rfl; exact mu))]; exact h, fun b xs h => by rw [upd_ne (nb b _ h (by rintro rfl; exact mu))]; exact h, fun b φ h => by rw [upd_ne (nb b _ h (Ne.symm (nx φ)))]; exact h⟩
  exact o.mono mo (upd_ne ne)⟩
theorem Mono.upd {D : Addr} {u u' : HO} (hD : H D = some u) (mu : Mut (some u)) (nx : ∀ φ, u ≠ .ext φ) : Mono H (L2.upd H D u') := by
  have nb : ∀ b w, H b = some w → w ≠ u → b ≠ D := fun b w h n z => by rw [z, hD] at h; exact n (Option.some.inj h).symm
  exact ⟨fun b q w h => by rw [upd_ne (nb b _ h (by rintro rfl; exact mu))]; exact h, fun b xs h => by rw [upd_ne (nb b _ h (by rintro rfl; exact mu))]; exact h, fun b φ h => by rw [upd_ne (nb b _ h (Ne.symm (nx φ)))]; exact h⟩
/-- the core: what tLc asks -/
theorem lc_post {K : PySem.W.Frag} {own : List Nat} {tg : Tg} {ft : Et} {ds : List D} {J : It} {Q : VK} (R1 : Rel T K l m σ H1) (wd : WalkD T K (Stay T.tq T.γ H1) J ds) (hsl : ∀ i ∈ tg.slots, i ∈ own)
    {D : Addr} (hD : H1 D = none) (q : match lcLoop tg ft fe (wipeL (roL l) own) ds [] m with
      | .ok xs _ m' => ∀ H', Mono H1 H' → Rel T K l m' σ H' → ∀ p, Own T K H' p (.lst xs) → Fresh T l σ p → Q (.ref p) H'
      | _ => False) :
    ∃ W : Nat → Nat → Hp → Prop, (∃ m, W 0 m (L2.upd H1 D (.lst []))) ∧ ∀ i m H, W i m H →
      (J.stop i H ∧ Q (.ref D) H) ∨ (J.go i H ∧ ∃ Nx : Hp → Prop, (∀ H', Nx H' → ∃ m', m' < m ∧ W (i + 1) m' H') ∧ ∀ x H', J.yld i H x H' → (∃ B, tDG (T.v [] B) K tg x (wipe σ own) H' fun σ2 H2 => wipe σ2 own = wipe σ own ∧ ∃ B, tDT (T.v [] B) K W0 ft σ2 H2 fun b H3 =>
        if b = true then ∃ B, tD (T.v [] B) K W0 fe σ2 H3 fun y H4 => ∃ acc, H4 D = some (.lst acc) ∧ acc.length < sizeLine ∧ Nx (L2.upd H4 D (.lst (acc ++ [y]))) else Nx H3)) := by
  obtain ⟨Y, w, hY⟩ := wd
  have ngD := R1.mem.none_γ hD
  have F := R1.fresh hD
  refine ⟨fun i k H => k = ds.length - i ∧ i ≤ ds.length ∧ ∃ accV acc m', H D = some (.lst accV) ∧ Reps T K H accV acc ∧ MemR T K H m' ∧ Stay T.tq T.γ H1 H ∧ (match lcLoop tg ft fe (wipeL (roL l) own) (ds.drop i) acc m' with
      | .ok xs _ m' => ∀ H', Mono H1 H' → Rel T K l m' σ H' → ∀ p, Own T K H' p (.lst xs) → Fresh T l σ p → Q (.ref p) H'
      | _ => False), ⟨ds.length, by simp, Nat.zero_le _, [], [], m, upd_same, .nil, R1.mem.grow (.upd hD), (Grow.upd hD).stay, q⟩, ?_⟩
  rintro i k H ⟨rfl, hi, accV, acc, m', hDa, ra, M, st, q⟩
  by_cases hlt : i < ds.length
  · refine .inr ⟨w.goes i H hlt st, _, fun H' p' => ⟨ds.length - (i + 1), by omega, rfl, hlt, p'⟩, fun x H' y => ?_⟩
    have y := w.yields i H x H' hlt st y
    obtain ⟨gr, d, ed, rd⟩ := hY i H x H' hlt st y
    have st' : Stay T.tq T.γ H1 H' := st.trans gr.stay
    have M' := M.grow gr
    have hDa' : H' D = some (.lst accV) := gr.at_ _ _ hDa (fun _ z => nomatch z)
    have ra' := ra.mono gr.mono
    have ed' : ds.drop i = d :: ds.drop (i + 1) := by
      rw [List.getElem?_eq_some_iff] at ed
      obtain ⟨h1, h2⟩ := ed
      rw [← h2]; exact List.drop_eq_getElem_cons h1
    rw [ed'] at q
    simp only [lcLoop] at q
    cases hput : tg.put d (wipeL (roL l) own) with
    | none => rw [hput] at q; exact q.elim
    | some l2 =>
      rw [hput] at q
      dsimp only at q
      refine ⟨H', wipeL (roL l) own, m', d, l2, R1.block st' M' own, rd.v [] H', hput, fun σ2 R2 wp => ⟨(wp own hsl).trans (wipe_wipe _ _), H', l2, m', R2, ?_⟩⟩
      cases ht : ft l2 m' with
      | ok b l3 m3 =>
        rw [ht] at q
        intro H3 mo3 R3
        have st3 : Stay T.tq T.γ H' H3 := R3.stay.sub fun a z => by simpa using z
        have hD3 : H3 D = some (.lst accV) := st3.at_ _ _ hDa' ngD (fun _ z => nomatch z)
        cases b with
        | false =>
          refine iteF ?_
          exact ⟨accV, acc, m3, hD3, ra'.mono mo3, R3.mem.v T.ι T.B, st'.trans st3, q⟩
        | true =>
          refine iteT ?_
          dsimp only at q
          refine ⟨H', l3, m3, R3, ?_⟩
          cases he : fe l3 m3 with
          | ok x2 l4 m4 =>
            rw [he] at q
            intro H4 mo4 R4 yv ry
            have st4 : Stay T.tq T.γ H' H4 := R4.stay.sub fun a z => by simpa using z
            have hD4 : H4 D = some (.lst accV) := st4.at_ _ _ hDa' ngD (fun _ z => nomatch z)
            have ra4 := ra'.mono (mo3.trans mo4)
            have hlen : accV.length = acc.length := ra.length
            dsimp only at q
            by_cases hsz : acc.length < sizeMax
            · rw [if_pos hsz] at q
              have mou : Mono H4 (L2.upd H4 D (.lst (accV ++ [yv]))) := Mono.upd hD4 trivial (fun _ z => nomatch z)
              refine ⟨accV, hD4, by rw [hlen, sizeLine_eq]; exact hsz, accV ++ [yv], acc ++ [x2], m4, upd_same, ((ra4.append (.cons (ry.v T.ι T.B) .nil)).mono mou), ((R4.mem.v T.ι T.B : MemR T K H4 m4).upd hD4 trivial (fun _ z => nomatch z) ngD (fun _ z => nomatch z)), ?_, q⟩
              have stu := st'.trans st4
              exact ⟨fun a o ea ng nt => by rw [upd_ne (ne_of_none ea hD)]; exact stu.at_ a o ea ng nt, fun a qs ea => by rw [upd_ne (ne_of_none ea hD)]; exact stu.tb a qs ea, fun P z => tabS_keep (stu.tn P z) (fun ps e2 => by rw [upd_ne (by rintro rfl; rw [hD4] at e2; cases e2)]; exact e2) mou.ext⟩
            · rw [if_neg hsz] at q; exact q.elim
          | ex c fs l4 m4 => rw [he] at q; exact q.elim
          | bad => rw [he] at q; exact q.elim
      | ex c fs l3 m3 => rw [ht] at q; exact q.elim
      | bad => rw [ht] at q; exact q.elim
  · have e : i = ds.length := by omega
    subst e
    rw [List.drop_length] at q
    exact .inl ⟨w.stops H st, q H (st.mono R1.mem) (R1.call st M) D (.lst hDa ra) F⟩
/-- a list comprehension -/
theorem df_lc {ifs : List Expr} {scope : Scope} {own : List (Str × Nat)} {fi : Ei} {tg : Tg} {ft : Et} (hc : X.calm = true) (hN : X.N.Nodup) (hi : DC T X W tge iter fi) (ok : BlkOk X.N X.env.scope scope own) (hsl : ∀ i ∈ tg.slots, i ∈ own.map (·.2))
    (hg : ∀ (s : Shared) (H : Hp) (C : Addr) (cl : List (Str × Addr)) (fp : List Addr) (B : Hp), DG (T.v [] B) (X.blk s H scope (compEnvC scope cl C X.env) fp) tge tg)
    (ht : ∀ (s : Shared) (H : Hp) (C : Addr) (cl : List (Str × Addr)) (fp : List Addr) (B : Hp), DTs (T.v [] B) (X.blk s H scope (compEnvC scope cl C X.env) fp) W0 ifs ft)
    (he : ∀ (s : Shared) (H : Hp) (C : Addr) (cl : List (Str × Addr)) (fp : List Addr) (B : Hp), DE (T.v [] B) (X.blk s H scope (compEnvC scope cl C X.env) fp) W0 elt fe) (hs : ∀ x, foldedSetIterable iter X.env x = pure x := by intro _; rfl) :
    DF T X W (.ListComp elt [⟨tge, iter, ifs, 0⟩] scope pos) (eLC (own.map (·.2)) tg fi ft fe) :=
  pe_weak (pe_lc hc hN hi ok (fun s H C cl fp => pg_any (hg s H C cl fp)) (fun s H C cl fp => pts_any (ht s H C cl fp)) (fun s H C cl fp => pe_any (he s H C cl fp)) hs) fun σ H Q ⟨l, m, R, q⟩ => ⟨l, m, R, (post.bind q).imp fun ds l1 m1 H1 mo R1 q1 _ J wd D hD => lc_post R1 wd hsl hD (by
    have q1 := q1.2
    cases h : lcLoop tg ft fe (wipeL (roL l1) (own.map (·.2))) ds [] m1 with
    | ok xs l2 m2 => rw [h] at q1; exact q1
    | ex c fs l2 m2 => rw [h] at q1; exact q1.elim
    | bad => rw [h] at q1; exact q1.elim)⟩
end
end DS
end

section
set_option Elab.async false
set_option linter.all false
set_option maxRecDepth 100000
set_option maxHeartbeats 2000000
namespace DS
open PySem PySem.Spec PyProof.Rows L2
section
variable {T : Tab} {X : Cx} {W : WX} {pos p p2 apos tpos : Pos} {a b c e o tge elt iter : Expr} {es elts : List Expr} {l : Loc} {m : Mem} {σ : L2.St} {H H1 : Hp} {fe : Ex} {kk : Nat} {x : Str} {id Ty : String}
def rB (T : Tab) (K : PySem.W.Frag) (f : List D → Option D) : List V → Hp → VK → Prop := fun vs H Q => ∃ ds d, RepRs T K H vs ds ∧ f ds = some d ∧ ∀ v H', Grow H H' → Rep T K H' v d → Q v H'
def rBF (T : Tab) (K : PySem.W.Frag) (f : List D → Option D) : List V → Hp → VK → Prop := fun vs H Q => ∃ ds d, RepRs T K H vs ds ∧ f ds = some d ∧ ∀ p H', Grow H H' → H p = none → Own T K H' p d → Q (.ref p) H'
theorem cr_imp {f : Value} {r r' : List V → Hp → VK → Prop} (h : CallR X f r) (i : ∀ vs H Q, r' vs H Q → r vs H Q) : CallR X f r' := fun pins s σ H xs us Q I r q => h pins s σ H xs us Q I r (i _ _ _ q)
theorem tB_of {f : List D → Option D} {fa : Epa} {Q : VK} {t : TA} (h : tD T X.K W (eB f fa) σ H Q) : tDPA T X.K W fa σ H fun vs H1 => rB T X.K f vs H1 Q := by
  obtain ⟨l, m, R, q⟩ := h
  exact ⟨l, m, R, (post.bind q).imp fun os l1 m1 H1 mo R1 q1 vs rs => by
    have q1 := q1.2
    cases e1 : opsGet l1 os with
    | none => rw [e1] at q1; exact q1.elim
    | some ds =>
      rw [e1] at q1
      obtain ⟨d, ed, q2⟩ := post.lift q1
      exact ⟨ds, d, rs.get R1 e1, ed, fun v H' g rv => q2 H' g.mono (R1.grow g) v rv⟩⟩
theorem tBF_of {f : List D → Option D} {fa : Epa} {Q : VK} {t : TA} (h : tDF T X.K W (eB f fa) σ H Q) : tDPA T X.K W fa σ H fun vs H1 => rBF T X.K f vs H1 Q := by
  obtain ⟨l, m, R, q⟩ := h
  exact ⟨l, m, R, (post.bind q).imp fun os l1 m1 H1 mo R1 q1 vs rs => by
    have q1 := q1.2
    cases e1 : opsGet l1 os with
    | none => rw [e1] at q1; exact q1.elim
    | some ds =>
      rw [e1] at q1
      obtain ⟨d, ed, q2⟩ := post.lift q1
      exact ⟨ds, d, rs.get R1 e1, ed, fun p H' g hp ow => q2 H' g.mono (R1.grow g) p ow (R1.fresh hp)⟩⟩
/-- a built-in function -/
theorem de_callB {f : List D → Option D} {fa : Epa} (hc : CallR X (.builtin id) (rB T X.K f)) (hg : Gl X x) (hm : X.mg x = none) (hv : bootBuiltins x = some (.builtin id)) (ha : DPA T X W (e :: es) fa) (hn : x ≠ "__name__" := by decide) (hdb : (x == ("__debug__" : Str)) = false := by decide)
    (he : starEach (e :: es) X.env = (false, eval e X.env) :: starEach es X.env := by rfl) (hpl : (backTo pos (starEach es X.env)).any (·.1) = false := by rfl) : DE T X W (.Call (.Name x p) (e :: es) [] pos) (eB f fa) :=
  pe_weak (pe_callB hc hg hm hv ha hn hdb he hpl) fun σ H Q h => tB_of (t := tNil) h
theorem de_callTy {f : List D → Option D} {fa : Epa} (hc : CallR X (.type Ty) (rB T X.K f)) (hg : Gl X x) (hm : X.mg x = none) (hv : bootBuiltins x = some (.type Ty)) (ha : DPA T X W (e :: es) fa) (hn : x ≠ "__name__" := by decide) (hdb : (x == ("__debug__" : Str)) = false := by decide)
    (he : starEach (e :: es) X.env = (false, eval e X.env) :: starEach es X.env := by rfl) (hpl : (backTo pos (starEach es X.env)).any (·.1) = false := by rfl) : DE T X W (.Call (.Name x p) (e :: es) [] pos) (eB f fa) :=
  pe_weak (pe_callTy hc hg hm hv ha hn hdb he hpl) fun σ H Q h => tB_of (t := tNil) h
theorem df_callB {f : List D → Option D} {fa : Epa} (hc : CallR X (.builtin id) (rBF T X.K f)) (hg : Gl X x) (hm : X.mg x = none) (hv : bootBuiltins x = some (.builtin id)) (ha : DPA T X W (e :: es) fa) (hn : x ≠ "__name__" := by decide) (hdb : (x == ("__debug__" : Str)) = false := by decide)
    (he : starEach (e :: es) X.env = (false, eval e X.env) :: starEach es X.env := by rfl) (hpl : (backTo pos (starEach es X.env)).any (·.1) = false := by rfl) : DF T X W (.Call (.Name x p) (e :: es) [] pos) (eB f fa) :=
  pe_weak (pe_callB hc hg hm hv ha hn hdb he hpl) fun σ H Q h => tBF_of (t := tNil) h
theorem df_callTy {f : List D → Option D} {fa : Epa} (hc : CallR X (.type Ty) (rBF T X.K f)) (hg : Gl X x) (hm : X.mg x = none) (hv : bootBuiltins x = some (.type Ty)) (ha : DPA T X W (e :: es) fa) (hn : x ≠ "__name__" := by decide) (hdb : (x == ("__debug__" : Str)) = false := by decide)
    (he : starEach (e :: es) X.env = (false, eval e X.env) :: starEach es X.env := by rfl) (hpl : (backTo pos (starEach es X.env)).any (·.1) = false := by rfl) : DF T X W (.Call (.Name x p) (e :: es) [] pos) (eB f fa) :=
  pe_weak (pe_callTy hc hg hm hv ha hn hdb he hpl) fun σ H Q h => tBF_of (t := tNil) h
/-! ### one by one -/
theorem c_len : CallR X (.builtin "len") (rB T X.K lenD) := fun pins s σ H vs us Q I r ⟨ds, d, rs, e, q⟩ => by
  unfold lenD at e
  split at e
  · cases e
    obtain ⟨v, ev, rv⟩ := rs.one
    obtain ⟨e1, _, hz⟩ := rv.r.str
    subst ev; subst e1
    refine call_len pins s σ H _ us Q I r ⟨_, _, rfl, ⟨by rw [len_tx, sizeLine_eq]; exact hz, rfl⟩, ?_⟩
    rw [len_tx]; exact q _ H .refl (.int _)
  · cases e
    obtain ⟨v, ev, rv⟩ := rs.one
    obtain ⟨a, xs, e1, hr, rx⟩ := rv.r.lst
    subst ev; subst e1
    exact call_len pins s σ H _ us Q I r ⟨_, _, rfl, .inl ⟨xs, .inl hr, rfl⟩, by rw [rx.length]; exact q _ H .refl (.int _)⟩
  · cases e
    obtain ⟨v, ev, rv⟩ := rs.one
    obtain ⟨a, xs, e1, hr, rx⟩ := rv.r.tup
    subst ev; subst e1
    exact call_len pins s σ H _ us Q I r ⟨_, _, rfl, .inr ⟨xs, hr, rfl⟩, by rw [rx.length]; exact q _ H .refl (.int _)⟩
  · cases e
    obtain ⟨v, ev, rv⟩ := rs.one
    obtain ⟨a, kvs, e1, hr, rx⟩ := rv.r.dct
    subst ev; subst e1
    obtain ⟨u, eu, ru⟩ := vals1 r
    subst eu
    obtain rfl : u = Value.ref a := ru
    exact d_len I hr fun t s' I' => ⟨.int kvs.length, H, I', ⟨t, rfl⟩, by rw [rx.length]; exact q _ H .refl (.int _)⟩
  · cases e
theorem c_abs : CallR X (.builtin "abs") (rB T X.K absD) := cr_imp call_abs fun vs H Q ⟨ds, d, rs, e, q⟩ => by
  unfold absD at e
  split at e
  · cases e
    obtain ⟨v, ev, rv⟩ := rs.one
    exact ⟨_, by rw [ev, rv.r.int], q _ H .refl (.int _)⟩
  · cases e
theorem c_max2 (hc : X.calm = true) : CallR X (.builtin "max") (rB T X.K max2D) := cr_imp (call_max2 hc) fun vs H Q ⟨ds, d, rs, e, q⟩ => by
  unfold max2D at e
  split at e
  · cases e
    obtain ⟨v, w, ev, rv, rw'⟩ := rs.two
    exact ⟨_, _, by rw [ev, rv.r.int, rw'.r.int], q _ H .refl (.int _)⟩
  · cases e
theorem c_min2 (hc : X.calm = true) : CallR X (.builtin "min") (rB T X.K min2D) := cr_imp (call_min2 hc) fun vs H Q ⟨ds, d, rs, e, q⟩ => by
  unfold min2D at e
  split at e
  · cases e
    obtain ⟨v, w, ev, rv, rw'⟩ := rs.two
    exact ⟨_, _, by rw [ev, rv.r.int, rw'.r.int], q _ H .refl (.int _)⟩
  · cases e
theorem c_int : CallR X (.type "int") (rB T X.K intD) := cr_imp call_int1 fun vs H Q ⟨ds, d, rs, e, q⟩ => by
  unfold intD at e
  split at e
  · cases e
    obtain ⟨v, ev, rv⟩ := rs.one
    exact .inl ⟨_, by rw [ev, rv.r.int], q _ H .refl (.int _)⟩
  · cases e
    obtain ⟨v, ev, rv⟩ := rs.one
    exact .inr ⟨_, by rw [ev, rv.r.bl], q _ H .refl (.int _)⟩
  · cases e
theorem c_bool : CallR X (.type "bool") (rB T X.K boolD) := cr_imp call_bool1 fun vs H Q ⟨ds, d, rs, e, q⟩ => by
  unfold boolD at e
  split at e
  · cases e
    obtain ⟨v, ev, rv⟩ := rs.one
    exact .inl ⟨_, by rw [ev, rv.r.int], q _ H .refl (.bl _)⟩
  · cases e
    obtain ⟨v, ev, rv⟩ := rs.one
    exact .inr ⟨_, by rw [ev, rv.r.bl], q _ H .refl (.bl _)⟩
  · cases e
theorem Reps.ints {K : PySem.W.Frag} : ∀ {vs : List V} {ds : List D} {ns : List Int}, Reps T K H vs ds → intsD ds = some ns → vs = ns.map V.int
  | _, _, _, .nil, e => by simp only [intsD, Option.some.injEq] at e; subst e; rfl
  | _, _, _, .cons r t, e => by
    cases r <;> simp only [intsD] at e <;> first | (cases e; done) | skip
    obtain ⟨ns', e1, e2⟩ := Option.map_eq_some_iff.mp e
    subst e2
    rw [Reps.ints t e1]; rfl
theorem Reps.bls {K : PySem.W.Frag} : ∀ {vs : List V} {ds : List D} {ns : List Bool}, Reps T K H vs ds → blsD ds = some ns → vs = ns.map V.bl
  | _, _, _, .nil, e => by simp only [blsD, Option.some.injEq] at e; subst e; rfl
  | _, _, _, .cons r t, e => by
    cases r <;> simp only [blsD] at e <;> first | (cases e; done) | skip
    obtain ⟨ns', e1, e2⟩ := Option.map_eq_some_iff.mp e
    subst e2
    rw [Reps.bls t e1]; rfl
theorem c_sum (hc : X.calm = true) : CallR X (.builtin "sum") (rB T X.K sumD) := cr_imp (cr_sum hc) fun vs H Q ⟨ds, d, rs, e, q⟩ => by
  unfold sumD at e
  split at e
  · obtain ⟨ns, e1, e2⟩ := Option.map_eq_some_iff.mp e
    subst e2
    obtain ⟨v, ev, rv⟩ := rs.one
    obtain ⟨a, xs, e3, hr, rx⟩ := rv.r.lst
    exact ⟨a, ns, by rw [ev, e3], by rw [← rx.ints e1]; exact .inl hr, q _ H .refl (.int _)⟩
  · cases e
theorem c_any (hc : X.calm = true) : CallR X (.builtin "any") (rB T X.K anyD) := cr_imp (cr_any hc) fun vs H Q ⟨ds, d, rs, e, q⟩ => by
  unfold anyD at e
  split at e
  · obtain ⟨ns, e1, e2⟩ := Option.map_eq_some_iff.mp e
    subst e2
    obtain ⟨v, ev, rv⟩ := rs.one
    obtain ⟨a, xs, e3, hr, rx⟩ := rv.r.lst
    exact ⟨a, ns, by rw [ev, e3], by rw [← rx.bls e1]; exact .inl hr, q _ H .refl (.bl _)⟩
  · cases e
theorem c_all (hc : X.calm = true) : CallR X (.builtin "all") (rB T X.K allD) := cr_imp (cr_all hc) fun vs H Q ⟨ds, d, rs, e, q⟩ => by
  unfold allD at e
  split at e
  · obtain ⟨ns, e1, e2⟩ := Option.map_eq_some_iff.mp e
    subst e2
    obtain ⟨v, ev, rv⟩ := rs.one
    obtain ⟨a, xs, e3, hr, rx⟩ := rv.r.lst
    exact ⟨a, ns, by rw [ev, e3], by rw [← rx.bls e1]; exact .inl hr, q _ H .refl (.bl _)⟩
  · cases e
theorem c_list : CallR X (.type "list") (rBF T X.K listD) := cr_imp call_list_of fun vs H Q ⟨ds, d, rs, e, q⟩ => by
  unfold listD at e
  split at e
  · cases e
    obtain ⟨v, ev, rv⟩ := rs.one
    obtain ⟨a, xs, e3, hr, rx⟩ := rv.r.lst
    exact ⟨a, xs, by rw [ev, e3], .inl (.inl hr), fun p hp => q p _ (.upd hp) hp (.lst upd_same (rx.mono (Grow.upd hp).mono))⟩
  · cases e
    obtain ⟨v, ev, rv⟩ := rs.one
    obtain ⟨a, xs, e3, hr, rx⟩ := rv.r.tup
    exact ⟨a, xs, by rw [ev, e3], .inr hr, fun p hp => q p _ (.upd hp) hp (.lst upd_same (rx.mono (Grow.upd hp).mono))⟩
  · cases e
theorem c_tuple : CallR X (.type "tuple") (rB T X.K tupleD) := cr_imp call_tuple_of fun vs H Q ⟨ds, d, rs, e, q⟩ => by
  unfold tupleD at e
  split at e
  · cases e
    obtain ⟨v, ev, rv⟩ := rs.one
    obtain ⟨a, xs, e3, hr, rx⟩ := rv.r.lst
    exact ⟨a, xs, by rw [ev, e3], .inl ⟨.inl hr, fun p hp => q _ _ (.upd hp) (.tup (SqT.of upd_same) (rx.mono (Grow.upd hp).mono))⟩⟩
  · cases e
    obtain ⟨v, ev, rv⟩ := rs.one
    obtain ⟨a, xs, e3, hr, rx⟩ := rv.r.tup
    exact ⟨a, xs, by rw [ev, e3], .inr ⟨hr, q _ H .refl (.tup hr rx)⟩⟩
  · cases e
theorem c_dict : CallR X (.type "dict") (rBF T X.K dictD) := cr_imp call_dictD fun vs H Q ⟨ds, d, rs, e, q⟩ => by
  unfold dictD at e
  split at e
  · cases e
    obtain ⟨v, ev, rv⟩ := rs.one
    obtain ⟨a, kvs, e3, hr, rx⟩ := rv.r.dct
    exact ⟨a, kvs, by rw [ev, e3], hr, fun p hp => q p _ (.upd hp) hp (.dct upd_same (rx.mono (Grow.upd hp).mono))⟩
  · cases e
theorem RepKs.keys {K : PySem.W.Frag} : ∀ {kvs : List (Key × V)} {ds : List (D × D)}, RepKs T K H kvs ds → Reps T K H (kvs.map fun kv => kV kv.1) (ds.map (·.1))
  | _, _, .nil => .nil
  | _, _, .cons q r t => .cons q.rep (RepKs.keys t)
theorem c_listK (hc : X.calm = true) : CallR X (.type "list") (rBF T X.K listKD) := cr_imp (call_listD hc) fun vs H Q ⟨ds, d, rs, e, q⟩ => by
  unfold listKD at e
  split at e
  · cases e
    obtain ⟨v, ev, rv⟩ := rs.one
    obtain ⟨a, kvs, e3, hr, rx⟩ := rv.r.dct
    exact ⟨a, kvs, by rw [ev, e3], hr, fun p hp => q p _ (.upd hp) hp (.lst upd_same (rx.keys.mono (Grow.upd hp).mono))⟩
  · cases e
end
end DS
end

section
set_option Elab.async false
set_option linter.all false
set_option maxRecDepth 100000
set_option maxHeartbeats 2000000
namespace DS
open PySem PySem.Spec PyProof.Rows L2
section
variable {T : Tab} {X : Cx} {W : WX} {pos p p2 apos tpos : Pos} {a b c e o tge elt iter : Expr} {es elts : List Expr} {l : Loc} {m : Mem} {σ : L2.St} {H H1 : Hp} {fe : Ex} {kk : Nat} {x : Str} {id Ty : String}
/-! ### isinstance -/
def kindNm : List String := ["NoneType", "bool", "int", "str", "list", "tuple", "dict"]
/-- what isinstance asks of an own class -/
structure ClsI (K : PySem.W.Frag) (C : Addr) : Prop where
  cl : Cls K C
  ha : PySem.W.findIn K (.ref C) "__class__" = some (some (.builtin "object.__class__"))
  hm : PySem.W.mroIn K C (.type "object") = some true
/-- .. of the text -/
structure GetI (K : PySem.W.Frag) : Prop where
  hn : PySem.W.specialIn K (.builtin "object.__class__") "__get__" = some (some (.builtin "getset_descriptor.__get__"))
  htk : PySem.W.takesIn K (.builtin "object.__class__") = some true
/-- the answers -/
structure IsiK (T : Tab) (K : PySem.W.Frag) (k : Value → Option Bool) (bs : List Bool) (os : List (Nat × Bool)) : Prop where
  b : ∀ (i : Nat) (n : String) (r : Bool), kindNm[i]? = some n → bs[i]? = some r → k (.type n) = some r
  o : ∀ q ∈ os, ClsI K (T.cls q.1) ∧ GetI K ∧ k (.ref (T.cls q.1)) = some q.2
theorem kit_d {pins : List (Addr × Obj)} {s : Shared} {v : V} {u : Value} {d : D} {r : Bool} {k : Value → Option Bool} {bs : List Bool} {os : List (Nat × Bool)} (I : Inv X pins σ H s) (rx : RelV v u) (rp : RepR T X.K H v d) (hk : IsiK T X.K k bs os) (e : isiD bs os d = some r) :
    ∃ (P : Heap → Prop) (t : Value), PySem.W.KitX X.K u t P ∧ P s.heap ∧ u ≠ .builtin "__main__.__loader__#opaque" ∧ k t = some r := by
  have ref : ∀ {a : Addr} {t : Value}, v = .ref a → (∃ P : Heap → Prop, PySem.W.KitX X.K (.ref a) t P ∧ P s.heap) → k t = some r → ∃ (P : Heap → Prop) (t : Value), PySem.W.KitX X.K u t P ∧ P s.heap ∧ u ≠ .builtin "__main__.__loader__#opaque" ∧ k t = some r := fun {a t} ev h hk => by
    subst ev
    obtain rfl : u = Value.ref a := rx
    obtain ⟨P, h1, h2⟩ := h
    exact ⟨P, t, h1, h2, (fun z => nomatch z), hk⟩
  have base : ∀ {t : String}, TyX X.K H v (.type t) → k (.type t) = some r → ∃ (P : Heap → Prop) (t : Value), PySem.W.KitX X.K u t P ∧ P s.heap ∧ u ≠ .builtin "__main__.__loader__#opaque" ∧ k t = some r := fun {t} ty hk => by
    obtain ⟨P, Z, p, hx⟩ := kit_of I rx ty
    exact ⟨P, _, Z, p, hx, hk⟩
  cases d with
  | non => rw [rp.non] at rx base; exact base (.base .non) (hk.b 0 _ r rfl e)
  | bl y => rw [rp.bl] at rx base; exact base (.base (.bl _)) (hk.b 1 _ r rfl e)
  | int y => rw [rp.int] at rx base; exact base (.base (.int _)) (hk.b 2 _ r rfl e)
  | str y => rw [rp.str.1] at rx base; exact base (.base (.str _)) (hk.b 3 _ r rfl e)
  | lst y =>
    obtain ⟨a, xs, ev, hr, _⟩ := rp.lst
    refine base (t := "list") ?_ (hk.b 4 _ r rfl e)
    rw [ev]
    rcases hr with hr | ⟨o, hr⟩
    · exact .base (.lst hr)
    · exact .base (.frz hr)
  | tup y =>
    obtain ⟨a, xs, ev, hr, _⟩ := rp.tup
    refine base (t := "tuple") ?_ (hk.b 5 _ r rfl e)
    rw [ev]
    rcases hr with (hr | ⟨o, hr⟩) | ⟨o, its, n, hl, hc, _⟩
    · exact .base (.tup hr)
    · exact .fTuple hr
    · exact .kTuple hl hc
  | dct y =>
    obtain ⟨a, kvs, ev, hr, _⟩ := rp.dct
    refine base (t := "dict") ?_ (hk.b 6 _ r rfl e)
    rw [ev]
    rcases hr with hr | ⟨o, hr⟩
    · exact .base (.dK hr)
    · exact .fDict hr
  | ins c fs =>
    obtain ⟨ci, gi, ek⟩ := hk.o _ (lookup_mem (show os.lookup c = some r from e))
    obtain ⟨a, dx, vs, ev, hr, _⟩ := rp.ins
    refine ref (t := .ref (T.cls c)) ev ?_ ek
    obtain ⟨d, z, ne, ob, mA, n1, rr, q⟩ := (show ObjOk X.prog X.w H s.heap a (.ins (T.cls c) dx vs) from hr.ok I.hok)
    obtain ⟨od, J, _⟩ := (⟨ob, n1, ne⟩ : ObjM s.heap a dx (T.cls c) mA).look
    exact ⟨_, PySem.W.kitx_own (ci.cl.get _) ci.cl.hd ci.ha gi.hn gi.htk ci.hm, J⟩
  | set y => cases e
  | lam k => cases e
  | cell k => cases e
/-- isinstance(e, T), T a built-in type or an own class -/
theorem de_isi {fp : Ep} {w : Value} {wv : V} {bs : List Bool} {os : List (Nat × Bool)} (hg : Gl X "isinstance") (hm : X.mg "isinstance" = none) (ho : DO T X W e fp) (ht : PE X c (tC wv)) (hw : ClsV wv w) (hk : IsiK T X.K (fun t => PySem.W.kitOne X.K t w) bs os)
    (he : starEach [e, c] X.env = (false, eval e X.env) :: starEach [c] X.env := by rfl) (he2 : starEach [c] X.env = (false, eval c X.env) :: starEach [] X.env := by rfl) (hpl : (backTo pos (starEach [c] X.env)).any (·.1) = false := by rfl) : DE T X W (.Call (.Name "isinstance" p) [e, c] [] pos) (eIsi bs os fp) := by
  have hcall : CallR X (.builtin "isinstance") (fun vs H Q => ∃ (v : V) (d : D) (r : Bool), vs = [v, wv] ∧ RepR T X.K H v d ∧ isiD bs os d = some r ∧ Q (.bl r) H) := by
    intro pins s σ H xs us Q I r ⟨v, d, k, ev, rp, ek, q⟩
    subst ev
    obtain ⟨u1, u2, rfl, r1, r2⟩ := vals2 r
    have e2 := hw.eq r2
    subst e2
    obtain ⟨P, t, Z, pp, hx, hkt⟩ := kit_d I r1 rp hk ek
    exact PySem.W.kia_one Z I.kIn pp hkt hx fun tk => ⟨.bl k, H, I.tok tk, rfl, q⟩
  refine pe_weak (pe_callB hcall hg hm (by with_unfolding_all rfl) (pa_cons ho (pa_cons ht pa_nil he2) he) (by decide) (by decide) he hpl) fun σ H Q ⟨l, m, R, q⟩ => ⟨l, m, R, (post.bind q).imp fun ox l1 m1 H1 mo R1 q1 v rv => ?_⟩
  have q1 := q1.2
  cases e1 : ox.get l1 with
  | none => rw [e1] at q1; exact q1.elim
  | some d =>
    rw [e1] at q1
    dsimp only at q1
    cases e2 : DS.seen m1 d with
    | none => rw [e2] at q1; exact q1.elim
    | some d' =>
      rw [e2] at q1
      obtain ⟨r, er, q2⟩ := post.lift q1
      obtain ⟨k, ek, rfl⟩ := Option.map_eq_some_iff.mp er
      exact ⟨v, d', k, rfl, (rv.get .refl R1 e1).seen R1.mem e2, ek, q2 H1 .refl R1 _ (.bl _)⟩
/-- isinstance(e, (T, U, ..)) -/
theorem de_isiT {fp : Ep} {ws : List Value} {wvs : List V} {n : Nat} {bs : List Bool} {os : List (Nat × Bool)} (hg : Gl X "isinstance") (hm : X.mg "isinstance" = none) (ho : DO T X W e fp) (ht : PE X c (tTup (fun σ H Q => Q wvs H))) (hw : Paired ClsV wvs ws) (hz : wvs.length ≤ sizeLine) (hk : IsiK T X.K (fun t => PySem.W.kitAny X.K t ws) bs os)
    (he : starEach [e, c] X.env = (false, eval e X.env) :: starEach [c] X.env := by rfl) (he2 : starEach [c] X.env = (false, eval c X.env) :: starEach [] X.env := by rfl) (hpl : (backTo pos (starEach [c] X.env)).any (·.1) = false := by rfl) : DE T X W (.Call (.Name "isinstance" p) [e, c] [] pos) (eIsi bs os fp) := by
  have hcall : CallR X (.builtin "isinstance") (fun vs H Q => ∃ (v : V) (tp : Addr) (d : D) (r : Bool), vs = [v, .ref tp] ∧ H tp = some (.tup wvs) ∧ RepR T X.K H v d ∧ isiD bs os d = some r ∧ Q (.bl r) H) := by
    intro pins s σ H xs us Q I r ⟨v, tp, d, k, ev, hT, rp, ek, q⟩
    subst ev
    obtain ⟨u1, u2, rfl, r1, r2⟩ := vals2 r
    cases (show u2 = Value.ref tp from r2)
    obtain ⟨P, t, Z, pp, hx, hkt⟩ := kit_d I r1 rp hk ek
    obtain ⟨_, its, rv, o, h1, h2, n, h3⟩ := (show ObjOk X.prog X.w H s.heap tp (.tup wvs) from I.hok tp _ hT)
    have e3 := ClsV.all hw rv
    subst e3
    obtain ⟨oc, od, dt, sl⟩ := o
    simp only at h2 h3
    subst h2 h3
    exact PySem.W.kia_tup Z I.kIn pp h1 hkt hx fun tk => ⟨.bl k, H, I.tok tk, rfl, q⟩
  refine pe_weak (pe_callB hcall hg hm (by with_unfolding_all rfl) (pa_cons ho (pa_cons ht pa_nil he2) he) (by decide) (by decide) he hpl) fun σ H Q ⟨l, m, R, q⟩ => ⟨l, m, R, (post.bind q).imp fun ox l1 m1 H1 mo R1 q1 v rv => ?_⟩
  have q1 := q1.2
  cases e1 : ox.get l1 with
  | none => rw [e1] at q1; exact q1.elim
  | some d =>
    rw [e1] at q1
    dsimp only at q1
    cases e2 : DS.seen m1 d with
    | none => rw [e2] at q1; exact q1.elim
    | some d' =>
      rw [e2] at q1
      obtain ⟨r, er, q2⟩ := post.lift q1
      obtain ⟨k, ek, rfl⟩ := Option.map_eq_some_iff.mp er
      refine ⟨hz, fun tp htp => ?_⟩
      have g : Grow H1 (upd H1 tp (.tup wvs)) := .upd htp
      have R2 := R1.grow g
      exact ⟨v, tp, d', k, rfl, upd_same, ((rv.mono g.mono).get .refl R2 e1).seen R2.mem e2, ek, q2 _ g.mono R2 _ (.bl _)⟩
end
end DS
end

section
set_option Elab.async false
set_option linter.all false
set_option maxRecDepth 100000
set_option maxHeartbeats 2000000
namespace DS
open PySem PySem.Spec PyProof.Rows L2
section
variable {T : Tab} {X : Cx} {W : WX} {pos pos2 p p2 apos tpos : Pos} {a b c e o tge elt iter : Expr} {es elts : List Expr} {l : Loc} {m : Mem} {σ : L2.St} {H H1 : Hp} {fe : Ex} {kk k : Nat} {x : Str}
/-! ### own exceptions -/
/-- C(e, ..): the fields in the parameters' order -/
def tMkD (C : Addr) (xf : List Str) (ta : TA) : L2.St → Hp → XK → Prop := fun σ H Q => ta σ H fun vs H1 => vs.length = xf.length ∧ ∀ d, H1 d = none → Q (.ref C) (some d) (upd H1 d (.xd (xf.zip vs).reverse))
theorem pmk_weak {t t' : L2.St → Hp → XK → Prop} (h : PMk X e t) (w : ∀ σ H Q, t' σ H Q → t σ H Q) : PMk X e t' := fun pins s σ H Q I q => h pins s σ H Q I (w σ H Q q)
/-- what __init__ of one field does -/
def spX1 (C : Addr) (f : Str) : Sp := fun vs H Q _ => ∃ a y, vs = [.ref a, y] ∧ H a = some (exo a C none) ∧ ∀ dx, H dx = none → dx ≠ a → Q .non (upd (upd H dx (exd dx [(f, y)])) a (exo a C (some dx)))
def spX2 (C : Addr) (f g : Str) : Sp := fun vs H Q _ => ∃ a y z, vs = [.ref a, y, z] ∧ H a = some (exo a C none) ∧ ∀ dx, H dx = none → dx ≠ a → Q .non (upd (upd (upd H dx (exd dx [(f, y)])) a (exo a C (some dx))) dx (exd dx [(g, z), (f, y)]))
section
variable {P : Program} {w : World} {K : PySem.W.Frag} {mg : Str → Option Value} {base : Heap} {fI C : Addr} {fd : FuncData} {ps : List Str} {CX : CXT}
variable {name qual f g : Str} {params : Arguments} {scope : Scope} {dV kV doc pm cdv ct oc : Value} {an od : Option Addr} {osl : Array (Option Value)} {q1 q2 q3 q4 r1 r2 r3 r4 : Pos}
theorem fn_x1 (T : OexC K C) (hf : PySem.W.findIn K (.ref C) f = some none) (lk : K.lookup fI = some ⟨oc, od, .func (PySem.W.fnOf name qual params [.Assign [.Attribute (.Name "self" q1) f q2] (.Name f q3) q4] scope dV kV doc pm an cdv ct), osl⟩) (hcd : PySem.W.codeIn K cdv qual = true) (S : FnScope ["self", f] ["self", f] scope)
    (v0 : Vis scope "self") (v1 : Vis scope f) (hd0 : (("self" : Str) == ("__debug__" : Str)) = false := by decide) (hd1 : (f == ("__debug__" : Str)) = false := by decide) (hc0 : (("self" : Str) == ("__classdict__" : Str)) = false := by decide) (hc1 : (f == ("__classdict__" : Str)) = false := by decide) :
    FnOk P w K mg base CX (k + 1) fI (PySem.W.fnOf name qual params [.Assign [.Attribute (.Name "self" q1) f q2] (.Name f q3) q4] scope dV kV doc pm an cdv ct) ["self", f] (spX1 C f) := by
  refine fn_of lk hcd S (fun vs H Q E ⟨a, y, ev, _⟩ => by rw [ev]; rfl) fun A outer s H vs Q E hr ⟨a, y, ev, ha, q⟩ => ?_
  refine ⟨_, pss_one (ps_ost (pe_var (i := 0) rfl v0 hd0 hc0) (pe_var (i := 1) rfl v1 hd1 hc1) (by rfl)), ?_⟩
  subst ev
  exact ⟨y, rfl, .ref a, rfl, a, C, rfl, T, hf, .inl ⟨ha, fun dx n ne => q dx n ne⟩⟩
theorem fn_x2 (T : OexC K C) (hf : PySem.W.findIn K (.ref C) f = some none) (hg : PySem.W.findIn K (.ref C) g = some none) (lk : K.lookup fI = some ⟨oc, od, .func (PySem.W.fnOf name qual params [.Assign [.Attribute (.Name "self" q1) f q2] (.Name f q3) q4, .Assign [.Attribute (.Name "self" r1) g r2] (.Name g r3) r4] scope dV kV doc pm an cdv ct), osl⟩) (hcd : PySem.W.codeIn K cdv qual = true) (S : FnScope ["self", f, g] ["self", f, g] scope)
    (v0 : Vis scope "self") (v1 : Vis scope f) (v2 : Vis scope g) (hd0 : (("self" : Str) == ("__debug__" : Str)) = false := by decide) (hd1 : (f == ("__debug__" : Str)) = false := by decide) (hd2 : (g == ("__debug__" : Str)) = false := by decide) (hc0 : (("self" : Str) == ("__classdict__" : Str)) = false := by decide) (hc1 : (f == ("__classdict__" : Str)) = false := by decide) (hc2 : (g == ("__classdict__" : Str)) = false := by decide) :
    FnOk P w K mg base CX (k + 1) fI (PySem.W.fnOf name qual params [.Assign [.Attribute (.Name "self" q1) f q2] (.Name f q3) q4, .Assign [.Attribute (.Name "self" r1) g r2] (.Name g r3) r4] scope dV kV doc pm an cdv ct) ["self", f, g] (spX2 C f g) := by
  refine fn_of lk hcd S (fun vs H Q E ⟨a, y, z, ev, _⟩ => by rw [ev]; rfl) fun A outer s H vs Q E hr ⟨a, y, z, ev, ha, q⟩ => ?_
  refine ⟨_, pss_cons (ps_ost (pe_var (i := 0) rfl v0 hd0 hc0) (pe_var (i := 1) rfl v1 hd1 hc1) (by rfl)) (pss_one (ps_ost (pe_var (i := 0) rfl v0 hd0 hc0) (pe_var (i := 2) rfl v2 hd2 hc2) (by rfl))), ?_⟩
  subst ev
  refine ⟨y, rfl, .ref a, rfl, a, C, rfl, T, hf, .inl ⟨ha, fun dx n ne => ?_⟩⟩
  refine ⟨z, rfl, .ref a, rfl, a, C, rfl, T, hg, .inr ⟨dx, [(f, y)], upd_same, ?_, by simp, q dx n ne⟩⟩
  rw [upd_ne ne, upd_same]
end
theorem heap_x {H1 H2 : Hp} {a d : Addr} {o : HO} (ha : H1 a = none) (hda : d ≠ a) (h : ∀ b, b ≠ a → b ≠ d → H2 b = H1 b) : upd (del H2 a) d o = upd H1 d o := by
  funext b
  by_cases hb : b = d
  · subst hb; rw [upd_same, upd_same]
  · rw [upd_ne hb, upd_ne hb]
    by_cases hba : b = a
    · subst hba; rw [del_same, ha]
    · rw [del_ne hba]; exact h b hba hb
section
variable {fI : Addr} {c : Nat} {fd : FuncData} {ps : List Str} {f g : Str} {fa : Ea}
/-- what the text says of an own exception's class -/
structure ExcT (T : Tab) (X : Cx) (x : Str) (c : Nat) (fI : Addr) : Prop where
  cl : OexC X.K (T.cls c)
  iC : PySem.W.findIn X.K (.ref (T.cls c)) "__init__" = some (some (.ref fI))
  tI : PySem.W.typeIn X.K (.ref fI) = some (.type "function")
  m : X.mg x = some (.ref (T.cls c))
theorem ds_raise1 (hc : X.calm = true) (tk : Takes X W) (E : ExcT T X x c fI) (hx : T.xf c = [f])
    (F : FnOk X.prog X.w X.K X.mg X.base (fun _ _ _ _ _ _ => False) k fI fd ps (spX1 (T.cls c) f)) (hr : Room (k + 1) X.A) (hb : Binds X.K fd ps []) (hg : Gl X x) (ha : DA T X W [e] fa)
    (hdb : (x == ("__debug__" : Str)) = false := by decide) (he : starEach (e :: []) X.env = (false, eval e X.env) :: starEach [] X.env := by rfl) (hpl : (backTo pos (starEach [] X.env)).any (·.1) = false := by rfl) :
    DSt T X W (.Raise (some (.Call (.Name x p) [e] [] pos)) none pos2) (sRaise c 1 fa) :=
  ps_weak (ps_raise hc tk (pmk_oex E.cl E.iC E.tI F hr hb .nil (fun _ _ _ _ _ _ _ z => z.elim) hg E.m ha hdb he hpl)) fun D σ H ⟨l, m, R, q⟩ => ⟨l, m, R, (postS.then q).imp fun ds l1 m1 H1 mo R1 q1 vs rs => by
    have q1 := q1.2
    split at q1
    · rename_i hl
      have hvl : vs.length = 1 := by rw [rs.length]; exact hl
      obtain ⟨y, ev⟩ := List.length_eq_one_iff.mp hvl
      subst ev
      refine ⟨by simp, fun a hn => ⟨a, y, rfl, upd_same, fun dx hdx hne => ⟨rfl, dx, [(f, y)], upd_same, by rw [upd_ne hne, upd_same], by rw [upd_ne hne] at hdx; exact hdx, ?_⟩⟩⟩
      have hdx1 : H1 dx = none := by rw [upd_ne hne] at hdx; exact hdx
      rw [heap_x hn hne (fun b h1 h2 => by rw [upd_ne h1, upd_ne h2, upd_ne h1])]
      refine q1 _ _ σ _ (Grow.upd hdx1).mono (R1.grow (.upd hdx1)) ⟨rfl, .inr ⟨dx, [y], rfl, ?_, rs.mono (Grow.upd hdx1).mono, by rw [hx]; rfl⟩⟩
      rw [upd_same, hx]; rfl
    · exact q1.elim⟩
theorem ds_raise2 {e2 : Expr} (hc : X.calm = true) (tk : Takes X W) (E : ExcT T X x c fI) (hx : T.xf c = [f, g])
    (F : FnOk X.prog X.w X.K X.mg X.base (fun _ _ _ _ _ _ => False) k fI fd ps (spX2 (T.cls c) f g)) (hr : Room (k + 1) X.A) (hb : Binds X.K fd ps []) (hg : Gl X x) (ha : DA T X W [e, e2] fa)
    (hdb : (x == ("__debug__" : Str)) = false := by decide) (he : starEach (e :: [e2]) X.env = (false, eval e X.env) :: starEach [e2] X.env := by rfl) (hpl : (backTo pos (starEach [e2] X.env)).any (·.1) = false := by rfl) :
    DSt T X W (.Raise (some (.Call (.Name x p) [e, e2] [] pos)) none pos2) (sRaise c 2 fa) :=
  ps_weak (ps_raise hc tk (pmk_oex E.cl E.iC E.tI F hr hb .nil (fun _ _ _ _ _ _ _ z => z.elim) hg E.m ha hdb he hpl)) fun D σ H ⟨l, m, R, q⟩ => ⟨l, m, R, (postS.then q).imp fun ds l1 m1 H1 mo R1 q1 vs rs => by
    have q1 := q1.2
    split at q1
    · rename_i hl
      have hvl : vs.length = 2 := by rw [rs.length]; exact hl
      obtain ⟨y, z, ev⟩ : ∃ y z, vs = [y, z] := by
        match vs, hvl with
        | [y, z], _ => exact ⟨y, z, rfl⟩
      subst ev
      refine ⟨by simp, fun a hn => ⟨a, y, z, rfl, upd_same, fun dx hdx hne => ⟨rfl, dx, [(g, z), (f, y)], by rw [upd_ne (Ne.symm hne), upd_same], upd_same, by rw [upd_ne hne] at hdx; exact hdx, ?_⟩⟩⟩
      have hdx1 : H1 dx = none := by rw [upd_ne hne] at hdx; exact hdx
      rw [heap_x hn hne (fun b h1 h2 => by rw [upd_ne h2, upd_ne h1, upd_ne h2, upd_ne h1])]
      refine q1 _ _ σ _ (Grow.upd hdx1).mono (R1.grow (.upd hdx1)) ⟨rfl, .inr ⟨dx, [y, z], rfl, ?_, rs.mono (Grow.upd hdx1).mono, by rw [hx]; rfl⟩⟩
      rw [upd_same, hx]; rfl
    · exact q1.elim⟩
end
end
end DS
end

section
set_option Elab.async false
set_option linter.all false
set_option maxRecDepth 100000
set_option maxHeartbeats 2000000
namespace DS
open PySem PySem.Spec PyProof.Rows L2
section
variable {T : Tab} {X : Cx} {W : WX} {pos pos2 p p2 apos tpos : Pos} {a b c e o tge elt iter : Expr} {es elts : List Expr} {l : Loc} {m : Mem} {σ : L2.St} {H H1 : Hp} {fe fj : Ex} {kk k : Nat} {x : Str}
/-! ### what changes -/
theorem cg_at {K : PySem.W.Frag} {i : Nat} {d : D} (R : Rel T K l m σ H) (e : cgGet l m i = some d) : ∃ a, σ[i]? = some (some (.ref a)) ∧ Own T K H a d := by
  unfold cgGet at e
  split at e
  · rename_i d' hd
    cases e
    obtain ⟨v, h1, a, ev, ow, _⟩ := R.sl i _ hd
    exact ⟨a, by rw [h1, ev], ow⟩
  · rename_i d' hd
    cases e
    obtain ⟨v, h1, a, ev, ow, _⟩ := R.sl i _ hd
    exact ⟨a, by rw [h1, ev], ow⟩
  · rename_i q hd
    obtain ⟨v, h1, h2⟩ := R.sl i _ hd
    have h2 : Rep T K H v (.cell q) := h2
    cases h2 with
    | cell h3 => exact ⟨_, h1, R.mem.at_ _ _ _ h3 e⟩
  · cases e
theorem Rel.wr {K : PySem.W.Frag} {i : Nat} {d d' : D} {a : Addr} {u' : HO} (R : Rel T K l m σ H) (e : cgGet l m i = some d) (hs : σ[i]? = some (some (.ref a))) (ow' : Own T K (L2.upd H a u') a d') :
    Rel T K (cgL l i d') (cgM l m i d') σ (L2.upd H a u') ∧ Mono H (L2.upd H a u') := by
  have oth : ∀ {b : Addr} {w : HO}, H b = some w → b ≠ a → L2.upd H a u' b = some w := fun h q => by rw [upd_ne q]; exact h
  -- a slot or a cell of its own
  have core : ∀ {u : HO}, H a = some u → Mut (some u) → (∀ φ, u ≠ .ext φ) → Mono H (L2.upd H a u') := fun hu mu nx => Mono.upd hu mu nx
  have slotCase : ∀ {s s' : Sl}, l[i]? = some (some s) → s.chg = true → SlR T K H (.ref a) s → (∀ (ow : Own T K (L2.upd H a u') a d'), SlR T K (L2.upd H a u') (.ref a) s') → s'.chg = true → a ∉ T.γ → (T.B a = none ∨ a ∈ T.ι) → (∃ u, H a = some u ∧ Mut (some u) ∧ (∀ ps, u ≠ .tbl ps) ∧ ∀ φ, u ≠ .ext φ) →
      Rel T K (l.set i (some s')) m σ (L2.upd H a u') ∧ Mono H (L2.upd H a u') := fun {s s'} hi hc hr hn hc' ng n0 ⟨u, hu, mu, nt, nx⟩ => by
    have mo := core hu mu nx
    have hlt : i < l.length := (List.getElem?_eq_some_iff.mp hi).1
    refine ⟨⟨by simp [R.len], fun j t ej => ?_, fun j q t1 t2 b hjq e1 e2 c1 c2 e3 e4 => ?_, ⟨R.mem.len, R.mem.nd, fun P hP => tabS_keep (R.mem.tb P hP) (fun ps e2 => oth e2 (by rintro rfl; rw [hu] at e2; exact nt _ (Option.some.inj e2))) mo.ext, fun q b d2 hk hm => ?_⟩, fun b w hb ngb ntb => ?_, fun b ps hb => ?_, fun P z => tabS_keep (R.stay.tn P z) (fun ps e2 => oth e2 (by rintro rfl; rw [hu] at e2; exact nt _ (Option.some.inj e2))) mo.ext⟩, mo⟩
    · by_cases hj : j = i
      · subst hj
        rw [List.getElem?_set_self hlt] at ej
        cases ej
        exact ⟨_, hs, hn ow'⟩
      · rw [List.getElem?_set_ne (Ne.symm hj)] at ej
        obtain ⟨v, h1, h2⟩ := R.sl j t ej
        refine ⟨v, h1, ?_⟩
        have apart : ∀ {b : Addr}, v = .ref b → t.chg = true → b ≠ a := fun ev ct z => by
          subst ev; subst z
          exact R.ap j i t s _ hj ej hi ct hc h1 hs
        cases t with
        | v d2 => exact Rep.mono mo h2
        | o d2 =>
          obtain ⟨b, eb, owb, nb, ngb⟩ := h2
          obtain ⟨w, ew, _⟩ := owb.there
          exact ⟨b, eb, owb.mono mo ((oth ew (apart eb rfl)).trans ew.symm), nb, ngb⟩
        | r d2 =>
          obtain ⟨b, eb, owb, ⟨⟨ob, nb⟩, nι⟩, ngb⟩ := h2
          obtain ⟨w, ew, _⟩ := owb.there
          have q : b ≠ a := by
            rintro rfl
            rcases n0 with n0 | n0
            · rw [n0] at nb; cases nb
            · exact nι n0
          exact ⟨b, eb, owb.mono mo ((oth ew q).trans ew.symm), ⟨⟨ob, nb⟩, nι⟩, ngb⟩
        | s d2 =>
          obtain ⟨b, eb, owb, nb, ngb⟩ := h2
          obtain ⟨w, ew, _⟩ := owb.there
          exact ⟨b, eb, owb.mono mo ((oth ew (apart eb rfl)).trans ew.symm), nb, ngb⟩
    · have f : ∀ {j : Nat} {t : Sl}, (l.set i (some s'))[j]? = some (some t) → t.chg = true → ∃ t', l[j]? = some (some t') ∧ t'.chg = true := fun {j t} e1 c1 => by
        by_cases hj : j = i
        · subst hj; exact ⟨s, hi, hc⟩
        · rw [List.getElem?_set_ne (Ne.symm hj)] at e1; exact ⟨t, e1, c1⟩
      obtain ⟨t1', e1', c1'⟩ := f e1 c1
      obtain ⟨t2', e2', c2'⟩ := f e2 c2
      exact R.ap j q t1' t2' b hjq e1' e2' c1' c2' e3 e4
    · have owb := R.mem.at_ q b d2 hk hm
      obtain ⟨w, ew, _⟩ := owb.there
      have q : b ≠ a := by
        rintro rfl
        exact ng (List.mem_of_getElem? hk)
      exact owb.mono mo ((oth ew q).trans ew.symm)
    · have q : b ≠ a := by
        rintro rfl
        rcases n0 with n0 | n0
        · rw [n0] at hb; cases hb
        · exact ngb (List.mem_append_right _ n0)
      exact oth (R.stay.at_ b w hb ngb ntb) q
    · obtain ⟨more, e2⟩ := R.stay.tb b ps hb
      have q : b ≠ a := by
        rintro rfl
        rw [hu] at e2
        exact nt _ (Option.some.inj e2)
      exact ⟨more, oth e2 q⟩
  unfold cgGet at e
  unfold cgL cgM
  split at e
  · rename_i d1 hd
    rw [hd]
    obtain ⟨v, h1, h2⟩ := R.sl i _ hd
    rw [hs] at h1; cases h1
    obtain ⟨a', ea, ow, n0, ng⟩ := id h2
    cases ea
    obtain ⟨u, eu, mu, _, _, nt, nx⟩ := ow.there
    exact slotCase hd rfl h2 (fun ow => ⟨a, rfl, ow, n0, ng⟩) rfl ng n0 ⟨u, eu, mu, nt, nx⟩
  · rename_i d1 hd
    rw [hd]
    obtain ⟨v, h1, h2⟩ := R.sl i _ hd
    rw [hs] at h1; cases h1
    obtain ⟨a', ea, ow, n0, ng⟩ := id h2
    cases ea
    obtain ⟨u, eu, mu, _, _, nt, nx⟩ := ow.there
    exact slotCase hd rfl h2 (fun ow => ⟨a, rfl, ow, n0, ng⟩) rfl ng (.inr n0) ⟨u, eu, mu, nt, nx⟩
  · rename_i q hd
    rw [hd]
    obtain ⟨v, h1, h2⟩ := R.sl i _ hd
    rw [hs] at h1; cases h1
    have h2 : Rep T K H (.ref a) (.cell q) := h2
    cases h2 with
    | cell hγ =>
      have ow := R.mem.at_ _ _ _ hγ e
      obtain ⟨u, eu, mu, _, _, nt, nx⟩ := ow.there
      have mo := core eu mu nx
      have hin : a ∈ T.γ := List.mem_of_getElem? hγ
      have inj : ∀ {j : Nat}, T.γ[j]? = some a → j = q := fun {j} hj => by
        obtain ⟨h1, e1⟩ := List.getElem?_eq_some_iff.mp hj
        obtain ⟨h2, e2⟩ := List.getElem?_eq_some_iff.mp hγ
        have pw := List.pairwise_iff_getElem.mp R.mem.nd
        rcases Nat.lt_trichotomy j q with z | z | z
        · exact absurd (e1.trans e2.symm) (pw j q h1 h2 z)
        · exact z
        · exact absurd (e2.trans e1.symm) (pw q j h2 h1 z)
      dsimp only
      refine ⟨⟨R.len, fun j t ej => ?_, R.ap, ⟨by rw [List.length_set]; exact R.mem.len, R.mem.nd, fun P hP => tabS_keep (R.mem.tb P hP) (fun ps e2 => oth e2 (by rintro rfl; rw [eu] at e2; exact nt _ (Option.some.inj e2))) mo.ext, fun j b d2 hk hm => ?_⟩, fun b w hb ngb ntb => ?_, fun b ps hb => ?_, fun P z => tabS_keep (R.stay.tn P z) (fun ps e2 => oth e2 (by rintro rfl; rw [eu] at e2; exact nt _ (Option.some.inj e2))) mo.ext⟩, mo⟩
      · obtain ⟨v, h1, h2⟩ := R.sl j t ej
        refine ⟨v, h1, ?_⟩
        have ne : ∀ {b : Addr}, b ∉ T.γ → b ≠ a := fun nb z => nb (z ▸ hin)
        cases t with
        | v d2 => exact Rep.mono mo h2
        | o d2 =>
          obtain ⟨b, eb, owb, nb, ngb⟩ := h2
          obtain ⟨w, ew, _⟩ := owb.there
          exact ⟨b, eb, owb.mono mo ((oth ew (ne ngb)).trans ew.symm), nb, ngb⟩
        | r d2 =>
          obtain ⟨b, eb, owb, nb, ngb⟩ := h2
          obtain ⟨w, ew, _⟩ := owb.there
          exact ⟨b, eb, owb.mono mo ((oth ew (ne ngb)).trans ew.symm), nb, ngb⟩
        | s d2 =>
          obtain ⟨b, eb, owb, nb, ngb⟩ := h2
          obtain ⟨w, ew, _⟩ := owb.there
          exact ⟨b, eb, owb.mono mo ((oth ew (ne ngb)).trans ew.symm), nb, ngb⟩
      · by_cases hj : j = q
        · subst hj
          rw [hγ] at hk; cases hk
          have hl : j < m.length := by rw [R.mem.len]; exact (List.getElem?_eq_some_iff.mp hγ).1
          rw [List.getElem?_set_self hl] at hm
          cases hm
          exact ow'
        · rw [List.getElem?_set_ne (Ne.symm hj)] at hm
          have owb := R.mem.at_ j b d2 hk hm
          obtain ⟨w, ew, _⟩ := owb.there
          have ne : b ≠ a := by
            rintro rfl
            exact hj (inj hk)
          exact owb.mono mo ((oth ew ne).trans ew.symm)
      · have ne : b ≠ a := by
          rintro rfl
          exact ngb (List.mem_append_left _ hin)
        exact oth (R.stay.at_ b w hb ngb ntb) ne
      · obtain ⟨more, e2⟩ := R.stay.tb b ps hb
        have ne : b ≠ a := by
          rintro rfl
          rw [eu] at e2
          exact nt _ (Option.some.inj e2)
        exact ⟨more, oth e2 ne⟩
  · cases e
/-- a name that stands for a thing that changes -/
theorem cg_slot {i : Nat} {d : D} (e : cgGet l m i = some d) : ∃ s, l[i]? = some (some s) := by
  unfold cgGet at e
  split at e <;> first | exact ⟨_, by assumption⟩ | cases e
/-! ### x.append(e) -/
theorem own_lst_inv {K : PySem.W.Frag} {a : Addr} {ds : List D} (o : Own T K H a (.lst ds)) : ∃ xs, H a = some (.lst xs) ∧ Reps T K H xs ds := by
  cases o with
  | lst p r => exact ⟨_, p, r⟩
theorem ds_app {i : Nat} (hv : PE X o (tVar i)) (he : DE T X W e fe) (hbase : attributeBase o "append" X.env (eval o X.env) = eval o X.env := by rfl)
    (hfew : ((backTo p (starEach (e :: []) X.env)).all (fun x => !x.1) && (backToKw p (keywordEach [] X.env)).all (fun x => x.1.isSome) && decide ((e :: []).length + ([] : List Keyword).length + (if ([] : List Keyword).isEmpty then 0 else 1) < 30)) = true := by rfl)
    (hline : (apos.endLine == p.line) = true := by rfl) (hst : starEach (e :: []) X.env = (false, eval e X.env) :: starEach [] X.env := by rfl) (hplain : (backTo p (starEach [] X.env)).any (·.1) = false := by rfl)
    (hs : swapsWith (.Call (.Attribute o "append" apos) [e] [] p) none pos.line X.env = pure false := by rfl) : DSt T X W (.Expr (.Call (.Attribute o "append" apos) [e] [] p) pos) (sApp i fe) :=
  ps_weak (ps_expr (pe_bm PySem.F.plainAttrs_list PySem.F.slot_list_append PySem.F.type_list_append mt_append hv (pa_cons he pa_nil hst) hbase hfew hline hst hplain) hs) fun D σ H ⟨l, m, R, q⟩ => by
    unfold sApp at q
    split at q
    · rename_i xs hcg
      obtain ⟨a, hs, ow⟩ := cg_at R hcg
      obtain ⟨ys, hy, ry⟩ := own_lst_inv ow
      refine ⟨_, hs, .inl ⟨rfl, ys, .inl (.inl hy)⟩, l, m, R, (postS.then q).imp fun d l1 m1 H1 mo R1 q1 v rv => ?_⟩
      have q1 := q1.2
      cases e1 : cgGet l1 m1 i with
      | none => rw [e1] at q1; exact q1.elim
      | some o1 =>
        rw [e1] at q1
        dsimp only at q1
        unfold cgSet at q1
        cases e2 : appD o1 d with
        | none => rw [e2] at q1; exact q1.elim
        | some o2 =>
          rw [e2] at q1
          dsimp only at q1
          obtain ⟨a1, hs1, ow1⟩ := cg_at R1 e1
          rw [hs] at hs1; cases hs1
          unfold appD at e2
          split at e2
          · rename_i zs _
            split at e2
            · rename_i hz
              cases e2
              obtain ⟨ws, hw, rw'⟩ := own_lst_inv ow1
              have mo2 : Mono H1 (L2.upd H1 a (.lst (ws ++ [v]))) := Mono.upd hw trivial (fun _ z => nomatch z)
              obtain ⟨R2, _⟩ := R1.wr e1 hs (.lst upd_same ((rw'.append (.cons rv .nil)).mono mo2))
              refine ⟨a, ws, v, rfl, rfl, hw, by rw [rw'.length, sizeLine_eq]; exact hz, q1 _ _ mo2 R2⟩
            · cases e2
          · cases e2
    · exact q.elim
/-! ### x[j] = e -/
theorem Reps.set {K : PySem.W.Frag} {v : V} {w : D} {vs : List V} {ds : List D} (r : Reps T K H vs ds) (rw : Rep T K H v w) (j : Nat) : Reps T K H (vs.set j v) (ds.set j w) := match r, j with
  | .nil, _ => .nil
  | .cons _ t, 0 => .cons rw t
  | .cons r t, j + 1 => .cons r (Reps.set t rw j)
def rPut (T : Tab) (K : PySem.W.Frag) : TSet := fun o i v H Q => ∃ a d k w d', o = .ref a ∧ Own T K H a d ∧ Rep T K H i k ∧ Rep T K H v w ∧ putD d k w = some d' ∧ ∀ u', Mono H (L2.upd H a u') → Own T K (L2.upd H a u') a d' → Q (L2.upd H a u')
theorem set_d (hu : X.A.units + 1 < cLine) : PSet X (rPut T X.K) := by
  intro pins s σ H o i v ov iv u Q I ro ri rv h
  obtain ⟨a, d, k, w, d', eo, ow, rk, rw', e, q⟩ := h
  subst eo
  unfold putD at e
  split at e
  · rename_i xs i'
    split at e
    · rename_i j hj
      cases e
      obtain ⟨ys, hy, ry⟩ := own_lst_inv ow
      have mo : Mono H (L2.upd H a (.lst (ys.set j v))) := Mono.upd hy trivial (fun _ z => nomatch z)
      refine set_list pins s σ H _ i v ov iv u Q I ro ri rv ⟨a, ys, i', j, rfl, RepR.int (.inl rk), hy, by rw [ry.length, ← idx_eq]; exact hj, q _ mo (.lst upd_same ?_)⟩
      exact (ry.set rw' j).mono mo
    · cases e
  · rename_i kvs _
    split at e
    · rename_i hk
      cases e
      cases ow with
      | dct hy ry =>
        rename_i ks
        obtain ⟨ky, hky, ek⟩ := RepR.key (.inl rk) hk.1
        have mo : Mono H (L2.upd H a (.dK (putK ks ky v))) := Mono.upd hy trivial (fun _ z => nomatch z)
        subst ek
        refine set_dict hu pins s σ H _ _ v ov iv u Q I ro ri rv ⟨a, _, rfl, .inl ⟨ks, ky, hy, rfl, by rw [ry.length, sizeLine_eq]; exact hk.2, rfl⟩, q _ mo (.dct upd_same ?_)⟩
        exact (ry.put hky rw').mono mo
    · cases e
  · cases e
theorem ds_put {i : Nat} (hu : X.A.units + 1 < cLine) (hv : PE X o (tVar i)) (hj : DE T X W c fj) (he : DE T X W e fe)
    (ha : ∀ v, assign (.Subscript o c p) X.env v = (do
      let ov ← holding [v] (eval o X.env)
      let iv ← holding [v, ov] (eval c X.env)
      standAt p
      holding [v, ov, iv] (setItem ov iv v)
      release [v, ov, iv] []) := by intro _; rfl)
    (hs : swapsWithSole [.Subscript o c p] e pos.line X.env = pure false := by rfl) (hw : swappedStores [.Subscript o c p] e X.env = pure none := by rfl) (h1 : (assignEach [.Subscript o c p] X.env).map (·.2) = [assign (.Subscript o c p) X.env] := by rfl) : DSt T X W (.Assign [.Subscript o c p] e pos) (sPut i fj fe) :=
  ps_weak (ps_asg he (pg_sub hv hj (set_d (T := T) hu) ha) hs hw h1) fun D σ H ⟨l, m, R, q⟩ => ⟨l, m, R, (postS.then q).imp fun d l1 m1 H1 mo R1 q1 v rv => by
    have q1 := q1.2
    cases e1 : cgGet l1 m1 i with
    | none => rw [e1] at q1; exact q1.elim
    | some o1 =>
      rw [e1] at q1
      dsimp only at q1
      obtain ⟨a, hs, ow⟩ := cg_at R1 e1
      refine ⟨_, hs, l1, m1, R1, (postS.then q1).imp fun k l2 m2 H2 mo2 R2 q2 ky rk => ?_⟩
      have q2 := q2.2
      cases e2 : cgGet l2 m2 i with
      | none => rw [e2] at q2; exact q2.elim
      | some o2 =>
        rw [e2] at q2
        dsimp only at q2
        unfold cgSet at q2
        cases e3 : putD o2 k d with
        | none => rw [e3] at q2; exact q2.elim
        | some o3 =>
          rw [e3] at q2
          dsimp only at q2
          obtain ⟨a1, hs1, ow1⟩ := cg_at R2 e2
          rw [hs] at hs1; cases hs1
          exact ⟨a, o2, k, d, o3, rfl, ow1, rk, rv.mono mo2, e3, fun u' mo3 ow3 => q2 σ _ mo3 (R2.wr e2 hs ow3).1⟩⟩
/-! ### op= -/
/-- an augmented operator on two values -/
def rI2 (T : Tab) (K : PySem.W.Frag) (f : D → D → Option D) : TIp := fun x y H Q => ∃ a b c, Rep T K H x a ∧ Rep T K H y b ∧ f a b = some c ∧ ∀ z H', Grow H H' → Rep T K H' z c → Q z H'
theorem ip_imp {op : Operator} {t t' : TIp} (h : PIp X op t) (w : ∀ x y H Q, t' x y H Q → t x y H Q) : PIp X op t' := fun pins s σ H x y v u Q I r1 r2 q => h pins s σ H x y v u Q I r1 r2 (w x y H Q q)
theorem i_add : PIp X .Add (rI2 T X.K addI) := by
  have hs : PIp X .Add (fun x y H Q => ∃ i j, x = .str i ∧ y = .str j ∧ i.length + j.length ≤ sizeLine ∧ Q (.str (i ++ j)) H) := fun pins s σ H x y v u Q I r1 r2 q => iop_add_str pins s σ H x y v u Q I r1 r2 q
  intro pins s σ H x y v u Q I r1 r2 ⟨a, b, c, ra, rb, e, q⟩
  unfold addI at e
  split at e
  · cases e
    exact ip_add pins s σ H x y v u Q I r1 r2 ⟨_, _, RepR.int (.inl ra), RepR.int (.inl rb), q _ H .refl (.int _)⟩
  · split at e
    · rename_i hz
      cases e
      obtain ⟨e1, h1, _⟩ := RepR.str (.inl ra)
      obtain ⟨e2, h2, _⟩ := RepR.str (.inl rb)
      refine hs pins s σ H x y v u Q I r1 r2 ⟨_, _, e1, e2, by rw [len_tx, len_tx, sizeLine_eq]; exact hz, ?_⟩
      rw [app_tx]
      exact q _ H .refl (.str _ (fun c hc => (List.mem_append.mp hc).elim (h1 c) (h2 c)) (by rw [List.length_append]; exact hz))
    · cases e
  · cases e
theorem i_sub : PIp X .Sub (rI2 T X.K subD) := ip_imp ip_sub fun x y H Q ⟨a, b, c, ra, rb, e, q⟩ => by
  unfold subD at e
  split at e
  · cases e
    exact ⟨_, _, RepR.int (.inl ra), RepR.int (.inl rb), q _ H .refl (.int _)⟩
  · cases e
theorem i_mul : PIp X .Mult (rI2 T X.K mulD) := by
  have hs : PIp X .Mult (fun x y H Q => ∃ i j, x = .int i ∧ y = .int j ∧ IntMulOk i j ∧ Q (.int (i * j)) H) := fun pins s σ H x y v u Q I r1 r2 ⟨i, j, e1, e2, hm, q⟩ => by
    subst e1; subst e2
    obtain ⟨t, rfl⟩ := r1
    obtain ⟨t', rfl⟩ := r2
    exact imul_int ⟨.int _, H, I.tok _, ⟨_, rfl⟩, q⟩ hm
  refine ip_imp hs fun x y H Q ⟨a, b, c, ra, rb, e, q⟩ => ?_
  unfold mulD at e
  split at e
  · split at e
    · rename_i hm
      cases e
      refine ⟨_, _, RepR.int (.inl ra), RepR.int (.inl rb), ?_, q _ H .refl (.int _)⟩
      unfold mulOk bits64 at hm
      simp only [Bool.or_eq_true, Bool.and_eq_true, decide_eq_true_eq] at hm
      rcases hm with (hm | hm) | hm
      · exact CMul.ok (.inl ⟨by omega, by omega⟩)
      · exact CMul.ok (.inr ⟨by omega, by omega⟩)
      · exact CMulW.ok hm
    · cases e
  · cases e
theorem i_fdiv : PIp X .FloorDiv (rI2 T X.K fdivD) := by
  have hs : PIp X .FloorDiv (rI CDivW fun i j => .int (i / j)) := fun pins s σ H x y v u Q I r1 r2 q => iop_fdivW pins s σ H x y v u Q I r1 r2 q
  refine ip_imp hs fun x y H Q ⟨a, b, c, ra, rb, e, q⟩ => ?_
  unfold fdivD at e
  split at e
  · split at e
    · rename_i hm
      cases e
      unfold divOk at hm
      simp only [Bool.and_eq_true, decide_eq_true_eq] at hm
      exact ⟨_, _, RepR.int (.inl ra), RepR.int (.inl rb), hm, q _ H .refl (.int _)⟩
    · cases e
  · cases e
theorem i_mod : PIp X .Mod (rI2 T X.K modD) := by
  have hs : PIp X .Mod (rI (fun _ j => 0 < j) fun i j => .int (i % j)) := fun pins s σ H x y v u Q I r1 r2 q => iop_mod pins s σ H x y v u Q I r1 r2 q
  refine ip_imp hs fun x y H Q ⟨a, b, c, ra, rb, e, q⟩ => ?_
  unfold modD at e
  split at e
  · split at e
    · rename_i hm
      cases e
      exact ⟨_, _, RepR.int (.inl ra), RepR.int (.inl rb), of_decide_eq_true hm, q _ H .refl (.int _)⟩
    · cases e
  · cases e
theorem ds_aug {i : Nat} {op : Operator} {f : D → D → Option D} (s : Slot X i x) (ho : PIp X op (rI2 T X.K f)) (he : DE T X W e fe) : DSt T X W (.AugAssign (.Name x p) op e pos) (sAug f i fe) :=
  ps_weak (ps_aug s.nd s.at_ s.loc he ho s.fn) fun D σ H ⟨l, m, R, q⟩ => by
    unfold sAug at q
    split at q
    · rename_i a hd
      obtain ⟨v, h1, h2⟩ := R.sl i _ hd
      refine ⟨v, h1, l, m, R, (postS.then q).imp fun b l1 m1 H1 mo R1 q1 y ry => ?_⟩
      have q1 := q1.2
      cases e1 : f a b with
      | none => rw [e1] at q1; exact q1.elim
      | some c =>
        rw [e1] at q1
        exact ⟨a, b, c, Rep.mono mo h2, ry, e1, fun z H2 g rz => q1 _ H2 g.mono ((R1.grow g).set rz)⟩
    · exact q.elim
theorem get_d (hu : X.A.units + 1 < cLine) : PGet X (fun o i H Q => ∃ a d k w, o = .ref a ∧ Own T X.K H a d ∧ Rep T X.K H i k ∧ ixD d k = some w ∧ ∀ v, Rep T X.K H v w → Q v H) := by
  intro pins s σ H o i ov iv Q I ro ri ⟨a, d, k, w, eo, ow, rk, e, q⟩
  subst eo
  unfold ixD at e
  split at e
  · split at e
    · split at e
      · rename_i xs _ i' _ j hj
        obtain ⟨ys, hy, ry⟩ := own_lst_inv ow
        obtain ⟨v, ev, rv⟩ := ry.get' e
        have hi := RepR.int (.inl rk)
        subst hi
        obtain rfl : ov = Value.ref a := ro
        obtain ⟨t, rfl⟩ := ri
        obtain ⟨its, r, pl, hz⟩ := I.list (.inl (.inl hy) : SqL X.K H a ys)
        obtain ⟨u, eu, ru⟩ := r.get ev
        have hl := r.length
        have hn := line63
        have hj' : ixN ys.length i' = some j := by rw [ry.length, ← idx_eq]; exact hj
        obtain ⟨h1, h2, h3, h4⟩ := ixN_seq hj'
        unfold ixN at hj'
        by_cases h0 : 0 ≤ i'
        · rw [if_pos h0, if_pos h4] at hj'
          cases hj'
          exact wpAny_getItem_list pl.isList h0 (by omega) (by simpa using eu) ⟨v, H, I, ru, q v rv⟩
        · rw [if_neg h0, if_pos h3] at hj'
          have hj'' : (i' + (its.toArray.size : Int)).toNat = j := by
            rw [List.size_toArray, ← hl]; exact Option.some.inj hj'
          refine wpAny_getItem_list_neg pl.isList (by omega) (by rw [List.size_toArray, ← hl]; exact h3) (by omega) (by rw [hj'']; simpa using eu) ⟨v, H, I, ru, q v rv⟩
      · cases e
    · cases e
  · cases ow
  · cases ow
  · rename_i kvs
    split at e
    · rename_i hk
      cases ow with
      | dct hy ry =>
        rename_i ks
        obtain ⟨ky, hky, ek⟩ := RepR.key (.inl rk) hk
        subst ek
        obtain rfl : ov = Value.ref a := ro
        rcases ry.val hky with ⟨_, e2⟩ | ⟨z, d', e1, e2, rz⟩
        · rw [e2] at e; cases e
        · rw [e2] at e; cases e
          exact d_getItem hu I (.inl ⟨ks, ky, .inl hy, rfl, e1.symm⟩) ri fun w' s3 I3 rw' => ⟨z, H, I3, rw', q z rz⟩
    · cases e
  · cases e
theorem ds_augP {i : Nat} {op : Operator} {f : D → D → Option D} (hu : X.A.units + 1 < cLine) (hv : PE X o (tVar i)) (hj : DE T X W c fj) (hp : PIp X op (rI2 T X.K f)) (he : DE T X W e fe)
    (ha : ∀ ov iv new, augStore c ov iv new = (do holding [new, ov, iv] (setItem ov iv new); release [new, ov, iv] []; pure .next) := by intros; rfl) : DSt T X W (.AugAssign (.Subscript o c p) op e pos) (sAugP f i fj fe) :=
  ps_weak (ps_augS hv hj (get_d (T := T) hu) he hp (set_d (T := T) hu) ha) fun D σ H ⟨l, m, R, q⟩ => by
    unfold sAugP at q
    split at q
    · rename_i o0 hcg
      obtain ⟨a, hs, ow⟩ := cg_at R hcg
      refine ⟨_, hs, l, m, R, (postS.then q).imp fun k l1 m1 H1 mo1 R1 q1 ky rk => ?_⟩
      have q1 := q1.2
      cases e1 : cgGet l1 m1 i with
      | none => rw [e1] at q1; exact q1.elim
      | some o1 =>
        rw [e1] at q1
        dsimp only at q1
        cases e2 : ixD o1 k with
        | none => rw [e2] at q1; exact q1.elim
        | some w =>
          rw [e2] at q1
          dsimp only at q1
          obtain ⟨a1, hs1, ow1⟩ := cg_at R1 e1
          rw [hs] at hs1; cases hs1
          refine ⟨a, o1, k, w, rfl, ow1, rk, e2, fun v0 rv0 => ⟨l1, m1, R1, (postS.then q1).imp fun b l2 m2 H2 mo2 R2 q2 y ry => ?_⟩⟩
          have q2 := q2.2
          cases e3 : f w b with
          | none => rw [e3] at q2; exact q2.elim
          | some c =>
            rw [e3] at q2
            dsimp only at q2
            cases e4 : cgGet l2 m2 i with
            | none => rw [e4] at q2; exact q2.elim
            | some o2 =>
              rw [e4] at q2
              dsimp only at q2
              unfold cgSet at q2
              cases e5 : putD o2 k c with
              | none => rw [e5] at q2; exact q2.elim
              | some o3 =>
                rw [e5] at q2
                dsimp only at q2
                refine ⟨w, b, c, rv0.mono mo2, ry, e3, fun z H3 g rz => ?_⟩
                have R3 := R2.grow g
                obtain ⟨a2, hs2, ow2⟩ := cg_at R3 e4
                rw [hs] at hs2; cases hs2
                exact ⟨a, o2, k, c, o3, rfl, ow2, rk.mono (mo2.trans g.mono), rz, e5, fun u' mo3 ow3 => q2 σ _ (g.mono.trans mo3) (R3.wr e4 hs ow3).1⟩
    · exact q.elim
/-! ### x.f = e -/
theorem RepFs.put {K : PySem.W.Frag} (hi : TabI T) {f : Nat} {y : V} {d : D} (hf : f < T.nf) (ry : Rep T K H y d) : ∀ {fs : List (Str × V)} {ds : List (Nat × D)}, RepFs T K H fs ds → RepFs T K H (putF (T.fld f) y fs) (putFs f d ds)
  | _, _, .nil => .cons hf ry .nil
  | _, _, .cons (f := g) (v := v) (d := d2) hg r t => by
    show RepFs T K H (if T.fld g = T.fld f then _ else _) (if g = f then _ else _)
    by_cases h : g = f
    · subst h
      rw [if_pos rfl, if_pos rfl]
      exact .cons hf ry t
    · rw [if_neg (fun z => h (hi.inj g f hg hf z)), if_neg h]
      exact .cons hg r (RepFs.put hi hf ry t)
theorem putAt_inv {K : PySem.W.Frag} {cs : List Nat} {f : Nat} {o0 d o1 : D} {a : Addr} {y : V} (hi : TabI T) (hf : f < T.nf) (hc : ∀ c ∈ cs, Cls K (T.cls c) ∧ NoAttr K (T.cls c) (T.fld f)) (ow : Own T K H a o0) (ry : Rep T K H y d) (e : putAt cs f o0 d = some o1) :
    ∃ c dx fs ds, o0 = .ins c ds ∧ H a = some (.ins (T.cls c) dx fs) ∧ Cls K (T.cls c) ∧ NoAttr K (T.cls c) (T.fld f) ∧ fs.length < 1000 ∧ Mono H (L2.upd H a (.ins (T.cls c) dx (putF (T.fld f) y fs))) ∧ Own T K (L2.upd H a (.ins (T.cls c) dx (putF (T.fld f) y fs))) a o1 := by
  unfold putAt at e
  split at e
  · split at e
    · rename_i c0 fs0 hcs
      cases e
      cases ow with
      | ins hy r =>
        obtain ⟨k1, k2⟩ := hc _ (by simpa using hcs.1)
        rename_i dx fs
        have mo : Mono H (L2.upd H a (.ins (T.cls c0) dx (putF (T.fld f) y fs))) := Mono.upd hy trivial (fun _ z => nomatch z)
        have hlen : ∀ {fs : List (Str × V)} {ds : List (Nat × D)}, RepFs T K H fs ds → fs.length = ds.length := fun {fs ds} r => by
          induction fs generalizing ds with
          | nil => cases r; rfl
          | cons p ps ih => cases r with
            | cons _ _ t => simp [ih t]
        exact ⟨_, _, _, _, rfl, hy, k1, k2, by rw [hlen r]; exact hcs.2, mo, .ins upd_same ((r.put hi hf ry).mono mo)⟩
    · cases e
  · cases e
theorem ds_fld {cs : List Nat} {f i : Nat} (hi : TabI T) (hf : f < T.nf) (hx : T.fld f = x) (hc : ∀ c ∈ cs, Cls X.K (T.cls c) ∧ NoAttr X.K (T.cls c) (T.fld f)) (hv : PE X o (tVar i)) (he : DE T X W e fe)
    (hs : swapsWith e (some (.Attribute o x p)) pos.line X.env = pure false := by rfl) : DSt T X W (.Assign [.Attribute o x p] e pos) (DS.sFld cs f i fe) := by
  subst hx
  exact ps_weak (ps_fld hv he hs) fun D σ H ⟨l, m, R, q⟩ => ⟨l, m, R, (postS.then q).imp fun d l1 m1 H1 mo R1 q1 v rv => by
    have q1 := q1.2
    cases e1 : cgGet l1 m1 i with
    | none => rw [e1] at q1; exact q1.elim
    | some o1 =>
      rw [e1] at q1
      dsimp only at q1
      unfold cgSet at q1
      obtain ⟨a, hs, ow⟩ := cg_at R1 e1
      cases e2 : putAt cs f o1 d with
      | none => rw [e2] at q1; exact q1.elim
      | some o2 =>
        rw [e2] at q1
        dsimp only at q1
        obtain ⟨c, dx, fs, ds, _, hy, k1, k2, hz, mo2, ow2⟩ := putAt_inv hi hf hc ow rv e2
        exact ⟨_, hs, a, _, dx, fs, rfl, hy, k1, k2, hz, q1 _ _ mo2 (R1.wr e1 hs ow2).1⟩⟩
theorem ds_fldA {cs : List Nat} {f i : Nat} {op : Operator} {g : D → D → Option D} (hi : TabI T) (hf : f < T.nf) (hx : T.fld f = x) (hc : ∀ c ∈ cs, Cls X.K (T.cls c) ∧ NoAttr X.K (T.cls c) (T.fld f)) (hv : PE X o (tVar i)) (hp : PIp X op (rI2 T X.K g)) (he : DE T X W e fe) :
    DSt T X W (.AugAssign (.Attribute o x p) op e pos) (sFldA g cs f i fe) := by
  subst hx
  exact ps_weak (ps_fldaug (rd := rI2 T X.K g) hv he (fun pins s σ H x y u v Q I r1 r2 q => hp pins s σ H x y u v Q I r1 r2 q)) fun D σ H ⟨l, m, R, q⟩ => by
    unfold sFldA at q
    split at q
    · rename_i o0 hcg
      obtain ⟨a, hs, ow⟩ := cg_at R hcg
      split at q
      · rename_i w hw
        unfold fldC at hw
        split at hw
        · rename_i c fs
          split at hw
          · rename_i hcs
            cases ow with
            | ins hy r =>
              obtain ⟨_, v, ev, rv⟩ := r.lookup hi hw
              obtain ⟨k1, k2⟩ := hc c (by simpa using hcs)
              refine ⟨_, hs, a, _, _, _, v, rfl, hy, k1, k2, ev, l, m, R, (postS.then q).imp fun b l1 m1 H1 mo R1 q1 y ry => ?_⟩
              have q1 := q1.2
              cases e1 : g w b with
              | none => rw [e1] at q1; exact q1.elim
              | some c2 =>
                rw [e1] at q1
                dsimp only at q1
                cases e2 : cgGet l1 m1 i with
                | none => rw [e2] at q1; exact q1.elim
                | some o1 =>
                  rw [e2] at q1
                  dsimp only at q1
                  have hcl : clsD (.ins c fs) = clsD o1 := by
                    by_cases h : clsD (.ins c fs) = clsD o1
                    · exact h
                    · rw [if_neg h] at q1; exact q1.elim
                  rw [if_pos hcl] at q1
                  unfold cgSet at q1
                  cases e3 : putAt cs f o1 c2 with
                  | none => rw [e3] at q1; exact q1.elim
                  | some o2 =>
                    rw [e3] at q1
                    dsimp only at q1
                    refine ⟨w, b, c2, rv.mono mo, ry, e1, fun z H2 gr rz => ?_⟩
                    have R2 := R1.grow gr
                    obtain ⟨a2, hs2, ow2⟩ := cg_at R2 e2
                    rw [hs] at hs2; cases hs2
                    obtain ⟨c3, dx, fs3, ds3, eo3, hy3, k13, k23, hz, mo3, ow3⟩ := putAt_inv hi hf hc ow2 rz e3
                    subst eo3
                    have : c = c3 := Option.some.inj hcl
                    subst this
                    exact ⟨dx, fs3, hy3, hz, q1 σ _ (gr.mono.trans mo3) (R2.wr e2 hs ow3).1⟩
          · cases hw
        · cases hw
      · exact q.elim
    · exact q.elim
end
end DS
end

section
set_option Elab.async false
set_option linter.all false
set_option maxRecDepth 100000
set_option maxHeartbeats 2000000
namespace DS
open PySem PySem.Spec PyProof.Rows L2
/-! ### a program's defs -/
/-- a def that may be called -/
def Cal (T : Tab) (P : Program) (w : World) (K : PySem.W.Frag) (mg : Str → Option Value) (base : Heap) (k : Nat) (f : Addr) (F : List D → Mem → DS.RC) : Prop :=
  ∃ fd ps, FnD T P w K mg base k f fd ps F ∧ Binds K fd ps [] ∧ PySem.W.keepIn K (.ref f) = true
def CalI (T : Tab) (P : Program) (w : World) (K : PySem.W.Frag) (mg : Str → Option Value) (base : Heap) (k c : Nat) (f : Addr) (F : List D → Mem → DS.RC) : Prop :=
  ∃ fd ps, FnI T P w K mg base k c f fd ps F ∧ Binds K fd ps []
section
variable {T : Tab} {X : Cx} {W : WX} {pos p apos : Pos} {a b c e o : Expr} {es : List Expr} {k : Nat} {f : Addr} {x : Str} {fa : Ea} {call : CallT} {i cl : Nat}
/-- another table of the same text -/
theorem Cal.of {T' : Tab} {P : Program} {w : World} {K : PySem.W.Frag} {mg : Str → Option Value} {base : Heap} {F : List D → Mem → DS.RC} (h : Cal T P w K mg base k f F) (e : spD T' K F = spD T K F) : Cal T' P w K mg base k f F := by
  obtain ⟨fd, ps, h1, h2, h3⟩ := h
  exact ⟨fd, ps, by unfold FnD; rw [e]; exact h1, h2, h3⟩
theorem dx_call (F : Cal T X.prog X.w X.K X.mg X.base k f (call i)) (hr : Room k X.A) (hg : Gl X x) (hm : X.mg x = some (.ref f)) (tk : Takes X W)
    (ha : DA T X W (e :: es) fa) (hdb : (x == ("__debug__" : Str)) = false := by decide) (he : starEach (e :: es) X.env = (false, eval e X.env) :: starEach es X.env := by rfl) (hpl : (backTo pos (starEach es X.env)).any (·.1) = false := by rfl) :
    DE T X W (.Call (.Name x p) (e :: es) [] pos) (eCall call i fa) := by
  obtain ⟨fd, ps, h1, h2, h3⟩ := F
  exact de_call h1 hr hg hm h3 h2 tk ha hdb he hpl
theorem dx_call0 (F : Cal T X.prog X.w X.K X.mg X.base k f (call i)) (hr : Room k X.A) (hg : Gl X x) (hm : X.mg x = some (.ref f)) (tk : Takes X W)
    (hdb : (x == ("__debug__" : Str)) = false := by decide) : DE T X W (.Call (.Name x p) [] [] pos) (eCall call i aNil) := by
  obtain ⟨fd, ps, h1, h2, h3⟩ := F
  exact de_call0 h1 hr hg hm h3 h2 tk hdb
theorem dx_new (M : Mk X.K (T.cls cl) f) (F : CalI T X.prog X.w X.K X.mg X.base k cl f (call i)) (hr : Room (k + 1) X.A) (hg : Gl X x) (hm : X.mg x = some (.ref (T.cls cl))) (tk : Takes X W)
    (ha : DA T X W (e :: es) fa) (hdb : (x == ("__debug__" : Str)) = false := by decide) (he : starEach (e :: es) X.env = (false, eval e X.env) :: starEach es X.env := by rfl) (hpl : (backTo pos (starEach es X.env)).any (·.1) = false := by rfl) :
    DF T X W (.Call (.Name x p) (e :: es) [] pos) (eNew call i fa) := by
  obtain ⟨fd, ps, h1, h2⟩ := F
  exact df_new M h1 hr hg hm h2 tk ha hdb he hpl
theorem dx_new0 (M : Mk X.K (T.cls cl) f) (F : CalI T X.prog X.w X.K X.mg X.base k cl f (call i)) (hr : Room (k + 1) X.A) (hg : Gl X x) (hm : X.mg x = some (.ref (T.cls cl))) (tk : Takes X W)
    (hdb : (x == ("__debug__" : Str)) = false := by decide) : DF T X W (.Call (.Name x p) [] [] pos) (eNew call i aNil) := by
  obtain ⟨fd, ps, h1, h2⟩ := F
  exact df_new0 M h1 hr hg hm h2 tk hdb
theorem methD (c : Cls X.K (T.cls cl)) (hm : Meth X.K (T.cls cl) x f) (F : Cal T X.prog X.w X.K X.mg X.base k f (call i)) (hr : Room k X.A) : MethD T X x (T.cls cl) (call i) := by
  obtain ⟨fd, ps, h1, h2, h3⟩ := F
  exact ⟨c, f, k, fd, ps, hm, h1, hr, h2⟩
/-- a def of the text, by its body -/
theorem cal_of {P : Program} {w : World} {K : PySem.W.Frag} {mg : Str → Option Value} {base : Heap} {name qual : Str} {params : Arguments} {body : List Stmt} {scope : Scope} {fd : FuncData} {N ps : List Str} {F : Es} {z n : Nat}
    (U : FunD K name qual params body scope [] [] f fd) (S : FnScope N ps scope) (hz : N.length = ps.length + z)
    (hbi : ∀ (kV doc pm : Value) (an : Option Addr) (cdv ct : Value) (us : List Value), us.length = ps.length → bindArgs (PySem.W.fnOf name qual params body scope .none kV doc pm an cdv ct) ⟨us, []⟩ = pure (ps.zip us))
    (hb : ∀ (cdv : Value) (A : Around) (outer : List Env) (s : Shared) (H : Hp) (E : XK) (T' : Tab) (W : WX), (∃ γ, T' = T.w γ [] H) → Room (2 * n + 1) (A.deeper (envOfC qual scope s.heap.objs.size f cdv)) → Takes (cxOf (L2.CX P w) P w K mg base N qual scope f cdv A outer s H E) W →
      PassesOwn (model P w) (A.deeper (envOfC qual scope s.heap.objs.size f cdv)) (envOfC qual scope s.heap.objs.size f cdv) (cxOf (L2.CX P w) P w K mg base N qual scope f cdv A outer s H E).xe →
      DSs T' (cxOf (L2.CX P w) P w K mg base N qual scope f cdv A outer s H E) W body F) : Cal T P w K mg base (2 * (n + 1)) f (defD ps.length z F) := by
  refine ⟨fd, ps, ?_, U.bindsN hbi, U.kp⟩
  obtain ⟨oc, od, dV, kV, doc, pm, an, cdv, ct, osl, rfl, lk, hcd, _, _⟩ := U.ex
  exact fn_d lk hcd S hz (fun A outer s H E T' W hT hr tk hp => hb cdv A outer s H E T' W hT hr tk hp)
theorem calI_of {P : Program} {w : World} {K : PySem.W.Frag} {mg : Str → Option Value} {base : Heap} {name qual : Str} {params : Arguments} {body : List Stmt} {scope : Scope} {fd : FuncData} {N ps : List Str} {F : Es} {a z n c : Nat}
    (U : FunD K name qual params body scope [] [] f fd) (S : FnScope N ps scope) (ha : ps.length = a + 1) (hz : N.length = ps.length + z)
    (hbi : ∀ (kV doc pm : Value) (an : Option Addr) (cdv ct : Value) (us : List Value), us.length = ps.length → bindArgs (PySem.W.fnOf name qual params body scope .none kV doc pm an cdv ct) ⟨us, []⟩ = pure (ps.zip us))
    (hb : ∀ (cdv : Value) (A : Around) (outer : List Env) (s : Shared) (H : Hp) (E : XK) (T' : Tab) (W : WX), (∃ γ x, T' = T.w γ [x] H) → Room (2 * n + 1) (A.deeper (envOfC qual scope s.heap.objs.size f cdv)) → Takes (cxOf (L2.CX P w) P w K mg base N qual scope f cdv A outer s H E) W →
      PassesOwn (model P w) (A.deeper (envOfC qual scope s.heap.objs.size f cdv)) (envOfC qual scope s.heap.objs.size f cdv) (cxOf (L2.CX P w) P w K mg base N qual scope f cdv A outer s H E).xe →
      DSs T' (cxOf (L2.CX P w) P w K mg base N qual scope f cdv A outer s H E) W body F) : CalI T P w K mg base (2 * (n + 1)) c f (initD c a z F) := by
  refine ⟨fd, ps, ?_, U.bindsN hbi⟩
  obtain ⟨oc, od, dV, kV, doc, pm, an, cdv, ct, osl, rfl, lk, hcd, _, _⟩ := U.ex
  exact fn_i lk hcd S ha hz (fun A outer s H E T' W hT hr tk hp => hb cdv A outer s H E T' W hT hr tk hp)
theorem cal_bad {P : Program} {w : World} {K : PySem.W.Frag} {mg : Str → Option Value} {base : Heap} {name qual : Str} {params : Arguments} {body : List Stmt} {scope : Scope} {fd : FuncData} {ps : List Str}
    (U : FunD K name qual params body scope [] [] f fd) (hbi : ∀ (kV doc pm : Value) (an : Option Addr) (cdv ct : Value) (us : List Value), us.length = ps.length → bindArgs (PySem.W.fnOf name qual params body scope .none kV doc pm an cdv ct) ⟨us, []⟩ = pure (ps.zip us)) :
    Cal T P w K mg base k f (fun _ _ => .bad) := ⟨fd, ps, fnD_bad, U.bindsN hbi, U.kp⟩
theorem calI_bad {P : Program} {w : World} {K : PySem.W.Frag} {mg : Str → Option Value} {base : Heap} {name qual : Str} {params : Arguments} {body : List Stmt} {scope : Scope} {fd : FuncData} {ps : List Str} {c : Nat}
    (U : FunD K name qual params body scope [] [] f fd) (hbi : ∀ (kV doc pm : Value) (an : Option Addr) (cdv ct : Value) (us : List Value), us.length = ps.length → bindArgs (PySem.W.fnOf name qual params body scope .none kV doc pm an cdv ct) ⟨us, []⟩ = pure (ps.zip us)) :
    CalI T P w K mg base k c f (fun _ _ => .bad) := ⟨fd, ps, fnI_bad, U.bindsN hbi⟩
end
end DS
end

section
set_option Elab.async false
set_option linter.all false
set_option maxRecDepth 100000
set_option maxHeartbeats 2000000
namespace DS
open PySem PySem.Spec PyProof.Rows L2
section
variable {T : Tab} {X : Cx} {W : WX} {pos spos p py apos : Pos} {a b c e o tge elt iter : Expr} {es : List Expr} {k : Nat} {f : Addr} {x : Str} {fa : Ea} {i cl : Nat} {fe : Ex}
/-- behind a statement a thing is never changed again -/
def tSFz (t : TS) : TS := fun D σ H => t { D with nx := fun σ1 H1 => D.nx σ1 H1 ∨ ∃ a u, H1 a = some u ∧ Mut (some u) ∧ ∀ o, D.nx σ1 (upd H1 a (.frz o u)) } σ H
theorem ps_sfz {s : Stmt} {t : TS} (h : PS X s t) : PS X s (tSFz t) := by
  refine ⟨fun pins s σ H D I q => ?_⟩
  refine thn (h.run pins s σ H _ I q) fun fl s1 hs => ?_
  cases fl with
  | next =>
    obtain ⟨σ1, H1, I1, q1⟩ := hs
    rcases q1 with q1 | ⟨a, u, ea, mu, q1⟩
    · exact ⟨σ1, H1, I1, q1⟩
    · obtain ⟨od, I2⟩ := I1.lock ea mu
      exact ⟨σ1, _, I2, q1 od⟩
  | ret v => exact hs
  | brk => exact hs
  | cont => exact hs
/-- name = [..] on one line -/
theorem ds_setLc {ifs : List Expr} {scope : Scope} {own : List (Str × Nat)} {fi : Ei} {tg : Tg} {ft : Et} (hc : X.calm = true) (s : Slot X i x) (hyl : X.env.scope.names.lookup x = some .local)
    (hsw : swapsWith (.ListComp elt [⟨tge, iter, ifs, 0⟩] scope pos) (some (.Name x py)) spos.line X.env = pure true) (hi : DC T X W tge iter fi) (ok : BlkOk X.N X.env.scope scope own) (hsl : ∀ i ∈ tg.slots, i ∈ own.map (·.2))
    (hg : ∀ (s : Shared) (H : Hp) (C : Addr) (cl : List (Str × Addr)) (fp : List Addr) (B : Hp), DG (T.v [] B) (X.blk s H scope (compEnvC scope cl C X.env) fp) tge tg)
    (ht : ∀ (s : Shared) (H : Hp) (C : Addr) (cl : List (Str × Addr)) (fp : List Addr) (B : Hp), DTs (T.v [] B) (X.blk s H scope (compEnvC scope cl C X.env) fp) W0 ifs ft)
    (he : ∀ (s : Shared) (H : Hp) (C : Addr) (cl : List (Str × Addr)) (fp : List Addr) (B : Hp), DE (T.v [] B) (X.blk s H scope (compEnvC scope cl C X.env) fp) W0 elt fe) (hs : ∀ x, foldedSetIterable iter X.env x = pure x := by intro _; rfl) :
    DSt T X W (.Assign [.Name x py] (.ListComp elt [⟨tge, iter, ifs, 0⟩] scope pos) spos) (sSetO i (eLC (own.map (·.2)) tg fi ft fe)) :=
  ps_weak (ps_setLc hc s.nd s.at_ hyl hsw hi ok (fun s H C cl fp => pg_any (hg s H C cl fp)) (fun s H C cl fp => pts_any (ht s H C cl fp)) (fun s H C cl fp => pe_any (he s H C cl fp)) hs) fun D σ H ⟨l, m, R, q⟩ => ⟨l, m, R, (post.bind (k := fun d l1 m1 H1 => ∀ p, Own T X.K H1 p d → Fresh T l1 σ p → D.nx (σ.set i (some (.ref p))) H1) ((postS.then q).imp fun d l1 m1 H1 mo R1 q1 p ow F => q1.2 _ H1 .refl (R1.setO ow F))).imp fun ds l1 m1 H1 mo R1 q1 _ J wd D' hD =>
    lc_post (Q := fun v H => gName i v σ H D.nx) R1 wd hsl hD (by
      have q1 := q1.2
      cases h : lcLoop tg ft fe (wipeL (roL l1) (own.map (·.2))) ds [] m1 with
      | ok xs l2 m2 =>
        rw [h] at q1
        intro H' mo' R' p ow F
        exact q1 H' mo' R' p ow F
      | ex c fs l2 m2 => rw [h] at q1; exact q1.elim
      | bad => rw [h] at q1; exact q1.elim)⟩
end
end DS
end

section
set_option Elab.async false
set_option linter.all false
set_option maxRecDepth 100000
set_option maxHeartbeats 2000000
namespace DS
open PySem PySem.Spec PyProof.Rows L2
/-! ### several names at once, constants of the module -/
section
variable {T : Tab} {X : Cx} {W : WX} {pos p p2 px py pz pt pt2 : Pos} {a b c e : Expr} {es : List Expr} {x y z : Str} {fa : Ea} {i j k : Nat}
theorem ds_par {kt k2} (hc : X.calm = true) (hi : Slot X i x) (hj : Slot X j y) (ha : DA T X W [a, b] fa)
    (hij : i ≠ j := by decide) (hx : X.env.scope.names.lookup x = some .local := by rfl) (hy : X.env.scope.names.lookup y = some .local := by rfl)
    (hw : swappedStores [.Tuple [.Name x px, .Name y py] kt pt] (.Tuple [a, b] k2 pt2) X.env = pure (some [x, y]) := by rfl)
    (hs : swapsWithSole [.Tuple [.Name x px, .Name y py] kt pt] (.Tuple [a, b] k2 pt2) pos.line X.env = pure false := by rfl) :
    DSt T X W (.Assign [.Tuple [.Name x px, .Name y py] kt pt] (.Tuple [a, b] k2 pt2) pos) (sPar [i, j] fa) := ps_weak (ps_par hc hi.nd hi.at_ hj.at_ hij hx hy ha hw hs) fun D σ H ⟨l, m, R, q⟩ => ⟨l, m, R, (postS.then q).imp fun ds l1 m1 H1 mo R1 q1 vs rv => by
  obtain ⟨_, q1⟩ := q1
  cases rv with
  | nil => exact q1.elim
  | cons r1 t1 =>
    cases t1 with
    | nil => exact q1.elim
    | cons r2 t2 =>
      cases t2 with
      | nil => exact ⟨_, _, rfl, q1 _ H1 .refl ((R1.set r1).set r2)⟩
      | cons r3 t3 => exact q1.elim⟩
theorem ds_par3 {kt k2} (hc : X.calm = true) (hi : Slot X i x) (hj : Slot X j y) (hk : Slot X k z) (ha : DA T X W [a, b, c] fa)
    (hij : i ≠ j := by decide) (hil : i ≠ k := by decide) (hjl : j ≠ k := by decide) (hx : X.env.scope.names.lookup x = some .local := by rfl) (hy : X.env.scope.names.lookup y = some .local := by rfl) (hz : X.env.scope.names.lookup z = some .local := by rfl)
    (hw : swappedStores [.Tuple [.Name x px, .Name y py, .Name z pz] kt pt] (.Tuple [a, b, c] k2 pt2) X.env = pure (some [x, y, z]) := by rfl)
    (hs : swapsWithSole [.Tuple [.Name x px, .Name y py, .Name z pz] kt pt] (.Tuple [a, b, c] k2 pt2) pos.line X.env = pure false := by rfl) :
    DSt T X W (.Assign [.Tuple [.Name x px, .Name y py, .Name z pz] kt pt] (.Tuple [a, b, c] k2 pt2) pos) (sPar [i, j, k] fa) := ps_weak (ps_par3 hc hi.nd hi.at_ hj.at_ hk.at_ hij hil hjl hx hy hz ha hw hs) fun D σ H ⟨l, m, R, q⟩ => ⟨l, m, R, (postS.then q).imp fun ds l1 m1 H1 mo R1 q1 vs rv => by
  obtain ⟨_, q1⟩ := q1
  cases rv with
  | nil => exact q1.elim
  | cons r1 t1 =>
    cases t1 with
    | nil => exact q1.elim
    | cons r2 t2 =>
      cases t2 with
      | nil => exact q1.elim
      | cons r3 t3 =>
        cases t3 with
        | nil => exact ⟨_, _, _, rfl, q1 _ H1 .refl (((R1.set r1).set r2).set r3)⟩
        | cons r4 t4 => exact q1.elim⟩
theorem de_globI {n : Int} (hg : Gl X x) (hm : ∃ t, X.mg x = some (.int n t)) (hd : (x == ("__debug__" : Str)) = false := by decide) : DE T X W (.Name x pos) (eC (.int n)) := by
  obtain ⟨t, hm⟩ := hm
  exact de_con (pe_glob hg hm (v := .int n) (by first | exact rfl | exact ⟨_, rfl⟩) hd) fun _ => .int n
theorem isi_of {K : PySem.W.Frag} {k : Value → Option Bool} {bs : List Bool} (h : kindNm.map (fun n => k (.type n)) = bs.map some) : IsiK T K k bs [] := by
  refine ⟨fun i n r h1 h2 => ?_, fun q h => by cases h⟩
  have e := congrArg (fun z => z[i]?) h
  simp only [List.getElem?_map, h1, h2, Option.map_some] at e
  exact Option.some.inj e
theorem isi_int {K : PySem.W.Frag} : IsiK T K (fun t => PySem.W.kitOne K t (.type "int")) [false, true, true, false, false, false, false] [] := isi_of rfl
theorem isi_bool {K : PySem.W.Frag} : IsiK T K (fun t => PySem.W.kitOne K t (.type "bool")) [false, true, false, false, false, false, false] [] := isi_of rfl
theorem isi_str {K : PySem.W.Frag} : IsiK T K (fun t => PySem.W.kitOne K t (.type "str")) [false, false, false, true, false, false, false] [] := isi_of rfl
theorem isi_list {K : PySem.W.Frag} : IsiK T K (fun t => PySem.W.kitOne K t (.type "list")) [false, false, false, false, true, false, false] [] := isi_of rfl
theorem isi_tuple {K : PySem.W.Frag} : IsiK T K (fun t => PySem.W.kitOne K t (.type "tuple")) [false, false, false, false, false, true, false] [] := isi_of rfl
theorem isi_dict {K : PySem.W.Frag} : IsiK T K (fun t => PySem.W.kitOne K t (.type "dict")) [false, false, false, false, false, false, true] [] := isi_of rfl
theorem isi_row {K : PySem.W.Frag} : IsiK T K (fun t => PySem.W.kitAny K t [.type "list", .type "tuple"]) [false, false, false, false, true, true, false] [] := isi_of rfl
end
end DS
end

section
set_option Elab.async false
set_option linter.all false
set_option maxRecDepth 100000
set_option maxHeartbeats 2000000
namespace DS
open PySem PySem.Spec PyProof.Rows L2
section
variable {T : Tab} {X : Cx} {W : WX} {pos : Pos} {a b c : Expr}
theorem de_chain {op op' : CmpOp} {f g : D → D → Option Bool} {fa fb fc : Ep} (ho : OpR X (compareOp op) (rB2 T X f)) (ho' : OpR X (compareOp op') (rB2 T X g)) (ha : DO T X W a fa) (hb : DO T X W b fb) (hc : DO T X W c fc)
    (hm : lastMarks [op, op'] [b, c] = false := by with_unfolding_all rfl) : DE T X W (.Compare a [op, op'] [b, c] pos) (eT (DS.tChain f g fa fb fc)) :=
  pe_weak (pe_chain ho ho' ha hb hc hm) fun σ H Q ⟨l, m, R, q0⟩ => ⟨l, m, R, (post.bind (post.bind q0)).imp fun ox l1 m1 H1 mo1 R1 q1 v1 r1 => ⟨l1, m1, R1, (post.bind q1.2).imp fun oy l2 m2 H2 mo2 R2 q2 v2 r2 => by
    have q2 := q2.2
    cases e1 : ox.get l2 with
    | none => rw [e1] at q2; exact q2.elim
    | some d =>
      cases e2 : oy.get l2 with
      | none => rw [e1, e2] at q2; exact q2.elim
      | some d' =>
        rw [e1, e2] at q2
        dsimp only at q2
        cases ef : f d d' with
        | none => rw [ef] at q2; exact q2.elim
        | some k =>
          rw [ef] at q2
          refine ⟨d, d', k, r1.get mo2 R2 e1, r2.get .refl R2 e2, ef, k, rfl, ?_⟩
          cases k with
          | true =>
            refine iteT ⟨l2, m2, R2, (post.bind q2).imp fun oz l3 m3 H3 mo3 R3 q3 v3 r3 => ?_⟩
            have q3 := q3.2
            cases e3 : oy.get l3 with
            | none => rw [e3] at q3; exact q3.elim
            | some d3 =>
              cases e4 : oz.get l3 with
              | none => rw [e3, e4] at q3; exact q3.elim
              | some d4 =>
                rw [e3, e4] at q3
                obtain ⟨r, er, q3⟩ := post.lift q3
                exact ⟨d3, d4, r, r2.get mo3 R3 e3, r3.get .refl R3 e4, er, (q3 H3 .refl R3).2 H3 .refl R3 _ (.bl r)⟩
          | false => exact iteF ((q2 H2 .refl R2).2 H2 .refl R2 _ (.bl false))⟩⟩
end
/-! ### facts of the head that are asked beyond He's -/
def oexIn (K : PySem.W.Frag) (C : Addr) : Bool := match K.lookup C with
  | some ⟨.type "type", _, .cls cd, sl⟩ => (match cd.mro, sl.toList with
    | .ref C' :: bm, [_, _, _, _, some (.builtin n), _] => C' == C && n == "ValueError.__new__" && !cd.hasDel && cd.hasDict && PySem.HandSPX.refsVE bm
    | _, _ => false)
  | _ => false
def oexB (K : PySem.W.Frag) (x : Str) (fs : List Str) : Bool := oexIn K (He.ga K x) && (He.eqO (PySem.W.findIn K (.ref (He.ga K x)) "__setattr__") (some (some (.builtin "object.__setattr__"))) && (PySem.W.keepIn K (.ref (He.ga K x)) && (decide (PySem.W.subIn K (.ref (He.ga K x)) (.type "BaseException") = some true) && (decide (PySem.W.typeIn K (.ref (He.ga K x)) = some (.type "type")) &&
  (He.eqO (PySem.W.findIn K (.ref (He.ga K x)) "__init__") (some (some (.ref (He.ma K (He.ga K x) "__init__")))) && (decide (PySem.W.typeIn K (.ref (He.ma K (He.ga K x) "__init__")) = some (.type "function")) && fs.all fun f => He.eqO (PySem.W.findIn K (.ref (He.ga K x)) f) (some none)))))))
structure OexF (K : PySem.W.Frag) (x : Str) (fs : List Str) : Prop where
  cl : OexC K (He.ga K x)
  iC : PySem.W.findIn K (.ref (He.ga K x)) "__init__" = some (some (.ref (He.ma K (He.ga K x) "__init__")))
  tI : PySem.W.typeIn K (.ref (He.ma K (He.ga K x) "__init__")) = some (.type "function")
  fs : ∀ f ∈ fs, PySem.W.findIn K (.ref (He.ga K x)) f = some none
theorem oex_ok {K : PySem.W.Frag} {x : Str} {fs : List Str} (c : oexB K x fs = true) : OexF K x fs := by
  unfold oexB at c
  obtain ⟨q, c⟩ := He.ba c
  obtain ⟨c2, c⟩ := He.ba c
  obtain ⟨c3, c⟩ := He.ba c
  obtain ⟨c4, c⟩ := He.ba c
  obtain ⟨c5, c⟩ := He.ba c
  obtain ⟨c6, c⟩ := He.ba c
  obtain ⟨c7, c8⟩ := He.ba c
  refine ⟨⟨?_, He.eqO_ok c2, of_decide_eq_true c4, of_decide_eq_true c5, c3⟩, He.eqO_ok c6, of_decide_eq_true c7, fun f hf => He.eqO_ok (List.all_eq_true.mp c8 f hf)⟩
  unfold oexIn at q
  split at q
  · rename_i dd cd sl ho
    split at q
    · rename_i C' bm k0 k1 k2 k3 n k5 hm hs
      simp only [Bool.and_eq_true, beq_iff_eq, Bool.not_eq_true'] at q
      obtain ⟨⟨⟨⟨e1, e2⟩, hdel⟩, hdict⟩, hr⟩ := q
      obtain ⟨nm, bs, mro, ns, qn, hd, sn, sub, ab, col, del⟩ := cd
      dsimp only at hm hdel hdict
      subst hm hdel hdict e1 e2
      have hsl : sl = #[k0, k1, k2, k3, some (.builtin "ValueError.__new__"), k5] := by
        obtain ⟨l⟩ := sl
        simp only at hs
        rw [hs]
      subst hsl
      exact ⟨nm, qn, ns, bs, bm, sn, sub, ab, col, dd, k0, k1, k2, k3, k5, ho, hr⟩
    · cases q
  · cases q
/-- an exception's __init__, one field -/
theorem fn_x1D {P : Program} {w : World} {K : PySem.W.Frag} {mg : Str → Option Value} {base : Heap} {x : Str} {f : Str} {fs : List Str} {name qual : Str} {params : Arguments} {body : List Stmt} {scope : Scope} {fd : FuncData} {q1 q2 q3 q4 : Pos}
    (E : OexF K x fs) (hf : f ∈ fs) (U : FunD K name qual params body scope [] [] (He.ma K (He.ga K x) "__init__") fd) (hbd : body = [.Assign [.Attribute (.Name "self" q1) f q2] (.Name f q3) q4]) (S : FnScope ["self", f] ["self", f] scope)
    (v0 : Vis scope "self") (v1 : Vis scope f) (hd1 : (f == ("__debug__" : Str)) = false := by decide) (hc1 : (f == ("__classdict__" : Str)) = false := by decide) :
    FnOk P w K mg base (fun _ _ _ _ _ _ => False) 1 (He.ma K (He.ga K x) "__init__") fd ["self", f] (spX1 (He.ga K x) f) := by
  obtain ⟨oc, od, dV, kV, doc, pm, an, cdv, ct, osl, rfl, lk, hcd, _, _⟩ := U.ex
  subst hbd
  exact fn_x1 (k := 0) E.cl (E.fs f hf) lk hcd S v0 v1 (hd1 := hd1) (hc1 := hc1)
end DS
end

section
set_option Elab.async false
set_option linter.all false
set_option maxRecDepth 100000
set_option maxHeartbeats 2000000
namespace DS
open PySem PySem.Spec PyProof.Rows L2
/-! ### what the head tells -/
structure Hd (fa : List He.Fa) (fn : List He.DefD) (ex : PySem.W.Frag → Bool) (w : World) (K : PySem.W.Frag) (mg : Str → Option Value) (base : Heap) : Prop where
  kin : K.In base
  ns : base.Ns mainGlobals mg
  d : He.SaysD fa fn K
  more : ex K = true
def fdOf (K : PySem.W.Frag) (p : Str × Option Str) : FuncData := match K.lookup (He.fAd K p) with
  | some ⟨_, _, .func fd, _⟩ => fd
  | _ => default
section
variable {fa : List He.Fa} {fn : List He.DefD} {ex : PySem.W.Frag → Bool} {w : World} {K : PySem.W.Frag} {mg : Str → Option Value} {base : Heap} {x : Str} {i : Nat} {v : Int}
theorem glo_ (c : Hd fa fn ex w K mg base) (h : fa[i]? = some (.glo x)) : mg x = some (.ref (He.ga K x)) := He.glo_ok c.kin c.ns (c.d.fact i h)
theorem free_ (c : Hd fa fn ex w K mg base) (h : fa[i]? = some (.free x)) : mg x = none := He.free_ok c.kin c.ns (c.d.fact i h)
theorem int_ (c : Hd fa fn ex w K mg base) (h : fa[i]? = some (.int x v)) : ∃ t, mg x = some (.int v t) := He.int_ok c.kin c.ns (c.d.fact i h)
theorem Hd.def_at (c : Hd fa fn ex w K mg base) (i : Nat) {d : He.DefD} (h : fn[i]? = some d) : FunD K d.name d.qual d.params d.body d.scope (d.dvs K) (d.kws K) (He.fAd K d.at_) (fdOf K d.at_) := by
  obtain ⟨fd, U⟩ := c.d.def_ i h
  obtain ⟨oc, od, dV, kV, doc, pm, an, cdv, ct, osl, e, lk, r⟩ := U.ex
  have : fdOf K d.at_ = fd := by
    unfold fdOf
    rw [lk]
  rw [this]
  exact ⟨⟨oc, od, dV, kV, doc, pm, an, cdv, ct, osl, e, lk, r⟩, U.kp⟩
theorem unit_ {k : Nat} {A : Around} (r : Room (k + 1) A) : A.units + 1 < cLine := by have := r.un; omega
end
end DS
end

section
set_option Elab.async false
set_option linter.all false
set_option maxRecDepth 100000
set_option maxHeartbeats 2000000
namespace DS
open PySem PySem.Spec PyProof.Rows L2
/-! ### a changing object of one's own, for the block's rest -/
abbrev Tab.c (T : Tab) (p : Addr) : Tab := { T with γ := T.γ ++ [p] }
section
variable {T : Tab} {K : PySem.W.Frag} {H : Hp} {p : Addr}
mutual
theorem Rep.c {v : V} {d : D} (h : Rep T K H v d) : Rep (T.c p) K H v d := match h with
  | .non => .non
  | .bl b => .bl b
  | .int i => .int i
  | .str l b z => .str l b z
  | .tup s r => .tup s (Reps.c r)
  | .lst s r => .lst s (Reps.c r)
  | .dct e r => .dct e (RepKs.c r)
  | .ins e r => .ins e (RepFs.c r)
  | .lam e g => .lam e g
  | .cell e => .cell (by rw [List.getElem?_append_left (List.getElem?_eq_some_iff.mp e).1]; exact e)
theorem Reps.c {vs : List V} {ds : List D} (h : Reps T K H vs ds) : Reps (T.c p) K H vs ds := match h with
  | .nil => .nil
  | .cons r t => .cons (Rep.c r) (Reps.c t)
theorem RepKs.c {vs : List (Key × V)} {ds : List (D × D)} (h : RepKs T K H vs ds) : RepKs (T.c p) K H vs ds := match h with
  | .nil => .nil
  | .cons k r t => .cons k (Rep.c r) (RepKs.c t)
theorem RepFs.c {vs : List (Str × V)} {ds : List (Nat × D)} (h : RepFs T K H vs ds) : RepFs (T.c p) K H vs ds := match h with
  | .nil => .nil
  | .cons q r t => .cons q (Rep.c r) (RepFs.c t)
end
mutual
theorem Rep.d {v : V} {d : D} (h : Rep (T.c p) K H v d) (n : d.noC = true) : Rep T K H v d := match h, n with
  | .non, _ => .non
  | .bl b, _ => .bl b
  | .int i, _ => .int i
  | .str l b z, _ => .str l b z
  | .tup s r, n => .tup s (Reps.d r (by simpa [D.noC] using n))
  | .lst s r, n => .lst s (Reps.d r (by simpa [D.noC] using n))
  | .dct e r, n => .dct e (RepKs.d r (by simpa [D.noC] using n))
  | .ins e r, n => .ins e (RepFs.d r (by simpa [D.noC] using n))
  | .lam e g, n => by simp [D.noC] at n
  | .cell e, n => by simp [D.noC] at n
theorem Reps.d {vs : List V} {ds : List D} (h : Reps (T.c p) K H vs ds) (n : D.noCs ds = true) : Reps T K H vs ds := match h, n with
  | .nil, _ => .nil
  | .cons r t, n => by
    simp only [D.noCs, Bool.and_eq_true] at n
    exact .cons (Rep.d r n.1) (Reps.d t n.2)
theorem RepKs.d {vs : List (Key × V)} {ds : List (D × D)} (h : RepKs (T.c p) K H vs ds) (n : D.noKs ds = true) : RepKs T K H vs ds := match h, n with
  | .nil, _ => .nil
  | .cons k r t, n => by
    simp only [D.noKs, D.noK, Bool.and_eq_true] at n
    exact .cons k (Rep.d r n.1) (RepKs.d t n.2)
theorem RepFs.d {vs : List (Str × V)} {ds : List (Nat × D)} (h : RepFs (T.c p) K H vs ds) (n : D.noFs ds = true) : RepFs T K H vs ds := match h, n with
  | .nil, _ => .nil
  | .cons q r t, n => by
    simp only [D.noFs, D.noF, Bool.and_eq_true] at n
    exact .cons q (Rep.d r n.1) (RepFs.d t n.2)
end
theorem Own.c {a : Addr} {d : D} (h : Own T K H a d) : Own (T.c p) K H a d := match h with
  | .lst e r => .lst e r.c
  | .dct e r => .dct e r.c
  | .ins e r => .ins e r.c
/-- back from the bigger table, the values without changing objects are dropped: what stands in a changing object may name the new one, so it is asked too -/
theorem Own.d {a : Addr} {d : D} (h : Own (T.c p) K H a d) (n : d.noC = true) : Own T K H a d := by
  cases h with
  | lst e r => exact .lst e (r.d (by simpa [D.noC] using n))
  | dct e r => exact .dct e (r.d (by simpa [D.noC] using n))
  | ins e r => exact .ins e (r.d (by simpa [D.noC] using n))
end
section
variable {T : Tab} {X : Cx} {W : WX} {pos : Pos} {e : Expr} {l : Loc} {m : Mem} {σ : L2.St} {H : Hp} {st : Stmt} {rest : List Stmt} {f g : Es} {fe : Ex} {K : PySem.W.Frag} {p : Addr} {d : D} {i : Nat}
theorem Rel.cell (R : Rel T K l m σ H) (ow : Own T K H p d) (F : Fresh T l σ p) : Rel (T.c p) K (l.set i (some (.v (.cell m.length)))) (m ++ [d]) (σ.set i (some (.ref p))) H := by
  have R1 : Rel (T.c p) K l (m ++ [d]) σ H := by
    refine ⟨R.len, fun j s ej => ?_, R.ap, ⟨by simp [R.mem.len], ?_, R.mem.tb, fun k a d' hk hm => ?_⟩, ?_⟩
    · obtain ⟨v, h1, h2⟩ := R.sl j s ej
      refine ⟨v, h1, ?_⟩
      have ne : ∀ b, v = .ref b → (∀ d, s ≠ .v d) → b ≠ p := by
        rintro b rfl hs rfl
        obtain ⟨d', e'⟩ := F.sl j s ej h1
        exact hs d' e'
      cases s with
      | v d' => exact Rep.c h2
      | o d' =>
        obtain ⟨b, eb, o, n, g⟩ := h2
        exact ⟨b, eb, o.c, n, fun z => (List.mem_append.mp z).elim g fun z => ne b eb (fun _ z => nomatch z) (List.mem_singleton.mp z)⟩
      | r d' =>
        obtain ⟨b, eb, o, n, g⟩ := h2
        exact ⟨b, eb, o.c, n, fun z => (List.mem_append.mp z).elim g fun z => ne b eb (fun _ z => nomatch z) (List.mem_singleton.mp z)⟩
      | s d' =>
        obtain ⟨b, eb, o, n, g⟩ := h2
        exact ⟨b, eb, o.c, n, fun z => (List.mem_append.mp z).elim g fun z => ne b eb (fun _ z => nomatch z) (List.mem_singleton.mp z)⟩
    · show (T.γ ++ [p]).Nodup
      rw [List.nodup_append]
      exact ⟨R.mem.nd, by simp, fun a ha b hb z => F.ng (by rw [List.mem_singleton.mp hb] at z; exact z ▸ ha)⟩
    · rcases Nat.lt_or_ge k T.γ.length with hlt | hge
      · have hk' : T.γ[k]? = some a := by rw [← hk]; exact (List.getElem?_append_left hlt).symm
        have hm' : m[k]? = some d' := by rw [← hm]; exact (List.getElem?_append_left (by rw [R.mem.len]; exact hlt)).symm
        exact (R.mem.at_ k a d' hk' hm').c
      · have hk2 : (T.γ ++ [p])[k]? = some a := hk
        have hlt := (List.getElem?_eq_some_iff.mp hk2).1
        simp at hlt
        have e0 : k = T.γ.length := by omega
        subst e0
        rw [List.getElem?_append_right (Nat.le_refl _)] at hk2
        simp at hk2
        rw [← R.mem.len, List.getElem?_append_right (Nat.le_refl _)] at hm
        simp at hm
        subst hk2 hm
        exact ow.c
    · refine R.stay.sub fun a ha => ?_
      rcases List.mem_append.mp ha with z | z
      · exact List.mem_append.mpr (.inl (List.mem_append.mpr (.inl z)))
      · exact List.mem_append.mpr (.inr z)
  exact R1.set (.cell (by rw [R.mem.len]; exact List.getElem?_concat_length))
theorem noCs_get {ds : List D} {k : Nat} {d : D} (h : D.noCs ds = true) (e : ds[k]? = some d) : d.noC = true := by
  induction ds generalizing k with
  | nil => simp at e
  | cons x xs ih =>
    simp only [D.noCs, Bool.and_eq_true] at h
    cases k with
    | zero => simp at e; subst e; exact h.1
    | succ k => exact ih h.2 (by simpa using e)
/-- the block's end -/
theorem Rel.cellEnd (R : Rel (T.c p) K l m σ H) (n0 : T.B p = none ∨ p ∈ T.ι) (hm : D.noCs (m.take T.γ.length) = true) : Rel T K (List.replicate l.length none) (m.take T.γ.length) σ H := by
  refine ⟨by simp [R.len], fun j s ej => ?_, fun j k s t a _ ej => ?_, ⟨?_, (List.nodup_append.mp R.mem.nd).1, R.mem.tb, fun k a d' hk hd => ?_⟩, fun a o h na nt => ?_, R.stay.tb, R.stay.tn⟩
  · rw [List.getElem?_replicate] at ej
    split at ej <;> cases ej
  · rw [List.getElem?_replicate] at ej
    split at ej <;> cases ej
  · have := R.mem.len
    simp at this
    simp
    omega
  · have hlt := (List.getElem?_eq_some_iff.mp hk).1
    have hd' := hd
    rw [List.getElem?_take_of_lt hlt] at hd
    exact (R.mem.at_ k a d' (by show (T.γ ++ [p])[k]? = some a; rw [List.getElem?_append_left hlt]; exact hk) hd).d (noCs_get hm hd')
  · refine R.stay.at_ a o h (fun z => ?_) nt
    rcases List.mem_append.mp z with z | z
    · rcases List.mem_append.mp z with z | z
      · exact na (List.mem_append.mpr (.inl z))
      · rw [List.mem_singleton] at z
        subst z
        rcases n0 with n0 | n0
        · rw [n0] at h; cases h
        · exact na (List.mem_append.mpr (.inr n0))
    · exact na (List.mem_append.mpr (.inr z))
theorem ExcR.back {c : Nat} {fs : List D} {cls : Value} {dd : Option Addr} (h : ExcR (T.c p) K H c fs cls dd) (n : D.noCs fs = true) : ExcR T K H c fs cls dd := by
  obtain ⟨h1, h2⟩ := h
  refine ⟨h1, ?_⟩
  rcases h2 with h2 | ⟨d, vs, a, b, r, c⟩
  · exact .inl h2
  · exact .inr ⟨d, vs, a, b, r.d n, c⟩
theorem pss_any {α : Type} {t : α → TS} {ss : List Stmt} (h : ∀ i, PSs X ss (t i)) : PSs X ss (fun D σ H => ∃ i, t i D σ H) := ⟨fun pins s σ H D I ⟨i, q⟩ => (h i).run pins s σ H D I q⟩
theorem endC_post {r : RS} {EE : Ends} {n : Nat} (n0 : T.B p = none ∨ p ∈ T.ι) (hn : n = T.γ.length) (q : postS T K W (endC n r) EE H) : postS (T.c p) K W r EE H := by
  subst hn
  cases r with
  | nx l m => exact q.elim
  | bk l m => exact q.elim
  | ct l m => exact q.elim
  | bad => exact q.elim
  | rt d l m =>
    intro v σ' H' mo R r
    by_cases z : d.noC = true ∧ D.noCs (m.take T.γ.length) = true
    · have e : endC T.γ.length (.rt d l m) = .rt d (List.replicate l.length none) (m.take T.γ.length) := if_pos z
      rw [e] at q
      exact q v σ' H' mo (R.cellEnd n0 z.2) (r.d z.1)
    · have e : endC T.γ.length (.rt d l m) = .bad := if_neg z
      rw [e] at q
      exact q.elim
  | ex c fs l m =>
    intro cls dd σ' H' mo R r
    by_cases z : D.noCs fs = true ∧ D.noCs (m.take T.γ.length) = true
    · have e : endC T.γ.length (.ex c fs l m) = .ex c fs (List.replicate l.length none) (m.take T.γ.length) := if_pos z
      rw [e] at q
      exact q cls dd σ' H' mo (R.cellEnd n0 z.2) (ExcR.back r z.1)
    · have e : endC T.γ.length (.ex c fs l m) = .bad := if_neg z
      rw [e] at q
      exact q.elim
theorem dss_cell {x : Str} {p' : Pos} (s : Slot X i x) (he : DF T X W e fe) (hr : ∀ p, DSs (T.c p) X W rest g) (hs : swapsWith e (some (.Name x p')) pos.line X.env = pure false := by rfl) : DSs T X W (.Assign [.Name x p'] e pos :: rest) (sCell i fe g) := by
  refine pss_weak (pss_cons (ps_set s.nd s.at_ s.loc he hs s.fn) (pss_any hr)) fun D σ H ⟨l, m, R, q⟩ => ⟨l, m, R, (postS.then q).imp fun d l1 m1 H1 mo R1 q1 p ow F => ?_⟩
  exact ⟨p, _, _, q1.1.cell ow F, endC_post F.n0 q1.1.mem.len q1.2⟩
end
end DS
end

section
set_option Elab.async false
set_option linter.all false
set_option maxRecDepth 100000
set_option maxHeartbeats 2000000
namespace DS
open PySem PySem.Spec PyProof.Rows L2
/-! ### how many unlike ones -/
theorem le_of_sub {α : Type} [DecidableEq α] : ∀ {a b : List α}, a.Nodup → (∀ k ∈ a, k ∈ b) → a.length ≤ b.length
  | [], b, _, _ => Nat.zero_le _
  | x :: xs, b, n, s => by
    rw [List.nodup_cons] at n
    have hx : x ∈ b := s x List.mem_cons_self
    have := le_of_sub (a := xs) (b := b.erase x) n.2 fun k hk => (List.mem_erase_of_ne (by rintro rfl; exact n.1 hk)).mpr (s k (List.mem_cons_of_mem _ hk))
    rw [List.length_erase_of_mem hx] at this
    have : 0 < b.length := List.length_pos_of_mem hx
    simp only [List.length_cons]
    omega
theorem mem_nub {k : Int} : ∀ {xs : List Int}, k ∈ nub xs ↔ k ∈ xs
  | [] => by simp [nub]
  | x :: xs => by
    unfold nub
    split
    · rename_i h
      rw [mem_nub, List.mem_cons]
      constructor
      · exact .inr
      · rintro (rfl | z)
        · simpa using h
        · exact z
    · rw [List.mem_cons, List.mem_cons, mem_nub]
theorem nodup_nub : ∀ {xs : List Int}, (nub xs).Nodup
  | [] => by simp [nub]
  | x :: xs => by
    unfold nub
    split
    · exact nodup_nub
    · rename_i h
      rw [List.nodup_cons]
      exact ⟨fun z => h (by simpa using mem_nub.mp z), nodup_nub⟩
theorem nub_len {a ns : List Int} (n : a.Nodup) (h : ∀ k, k ∈ a ↔ k ∈ ns) : a.length = (nub ns).length :=
  Nat.le_antisymm (le_of_sub n fun k hk => mem_nub.mpr ((h k).mp hk)) (le_of_sub nodup_nub fun k hk => (h k).mpr (mem_nub.mp hk))
section
variable {X : Cx}
theorem met_len {ns : List Int} : (PyProof.Rows.firstMet (fun i => ns.getD i 0) ns.length).length = (nub ns).length := by
  refine nub_len ?_ fun k => ?_
  · have : ∀ i, (PyProof.Rows.firstMet (fun i => ns.getD i 0) i).Nodup := fun i => by
      induction i with
      | zero => exact List.nodup_nil
      | succ i ih =>
        rw [PyProof.Rows.firstMet_succ]
        unfold step_dedup
        split
        · exact ih
        · rename_i h
          rw [List.nodup_append]
          refine ⟨ih, by simp, fun a ha b hb z => h ?_⟩
          rw [List.mem_singleton] at hb
          subst hb z
          exact List.any_eq_true.mpr ⟨_, ha, beq_self_eq_true _⟩
    exact this _
  · have e := PyProof.Rows.firstMet_any (fun i => ns.getD i 0) ns.length k
    have e2 : (List.range ns.length).map (fun i => ns.getD i 0) = ns := by
      apply List.ext_getElem
      · simp
      · intro i h1 h2
        simp at h1
        simp [List.getD_eq_getElem?_getD, h1]
    rw [e2] at e
    have := congrArg (fun b => b = true) e
    simpa using this
def tLenSetA (K : PySem.W.Frag) (ta : TE) : TE := fun σ H Q => ta σ H fun x H1 => ∃ (l : Addr) (ns : List Int), x = .ref l ∧ (SqL K H1 l (ns.map V.int) ∨ SqT K H1 l (ns.map V.int)) ∧ ns.length ≤ 4000 ∧ Q (.int ((nub ns).length : Nat)) H1
theorem pe_lenSetA {a : Expr} {ta : TE} {p p2 q pos : Pos} (hg : Gl X "len") (hm : X.mg "len" = none) (hg2 : Gl X "set") (hm2 : X.mg "set" = none) (ha : PE X a ta) (hc : X.calm = true := by rfl)
    (na : starEach [a] X.env = (false, eval a X.env) :: starEach [] X.env := by rfl) : PE X (.Call (.Name "len" p) [.Call (.Name "set" p2) [a] [] q] [] pos) (tLenSetA X.K ta) := by
  refine ⟨fun pins s σ H Q I h => ?_⟩
  refine Call_ (ld_blt I hg hm boot_len ?_)
  refine PyProof.Rows.callWith_builtin1 (PyProof.Rows.args_cons ?_ rfl) rfl rfl
  refine Call_ (ld_blt I hg2 hm2 boot_set ?_)
  refine PyProof.Rows.callWith_type1 (PyProof.Rows.args_cons (thn (ha.run pins s σ H _ I h) fun v s1 ⟨x, H1, I1, r1, q1⟩ => PyProof.Rows.args_nil ?_) na) na rfl
  obtain ⟨l, ns, rfl, hq, hl, q1⟩ := q1
  cases r1
  rcases hq with hq | hq
  · obtain ⟨its, r, pl, hz⟩ := I1.list hq
    have hlen : its.toArray.size = ns.length := by rw [List.size_toArray, ← r.length, List.length_map]
    refine call_set_list (I1.ok.hd hc) pl.isList (by simpa using RZ.intsAre_vals r) (by rw [hlen]; unfold scanBound; omega) fun h' tk hS hk => ?_
    refine PyProof.Rows.args_nil ?_
    rw [hlen] at hS
    have hle := firstMet_length_le (fun i => ns.getD i 0) ns.length
    obtain ⟨o, es, ep, t, ho, hex, hd, _, _, _, hf, hn⟩ := hS
    have I2 : Inv X pins σ H1 { s1 with heap := h', toks := tk } := I1.kept fun b o e => hk b o (Heap.lt_size e) e
    exact call_len_set ho hex hd hf (by rw [hn] <;> omega) ⟨.int ((nub ns).length : Nat), H1, I2.tok _, ⟨_, by rw [hn, met_len]⟩, q1⟩
  · obtain ⟨its, r, pl, hz⟩ := I1.tuple hq
    refine call_set_tupI ns (I1.ok.hd hc) pl (by simpa using RZ.intsAre_vals r) (by unfold scanBound; omega) fun h' tk c hS hc' hk => ?_
    refine PyProof.Rows.args_nil ?_
    obtain ⟨o, es, ep, t, ho, hex, hd, _, hnd, hmem, _, hf, hn, _⟩ := hS
    have I2 : Inv X pins σ H1 { s1 with heap := h', toks := tk } := I1.kept hk
    have e : es.size = (nub ns).length := by
      have := nub_len (ns := ns) hnd fun k => by
        rw [← hmem k]
        exact decide_eq_true_iff
      simpa using this
    exact call_len_set ho hex hd hf (by rw [hn] <;> omega) ⟨.int ((nub ns).length : Nat), H1, I2.tok _, ⟨_, by rw [e]⟩, q1⟩
end
section
variable {T : Tab} {X : Cx} {W : WX} {pos p p2 q : Pos} {a : Expr}
theorem de_lenSet {fp : Ep} (hc : X.calm = true) (hg : Gl X "len") (hm : X.mg "len" = none) (hg2 : Gl X "set") (hm2 : X.mg "set" = none) (ha : DO T X W a fp)
    (na : starEach [a] X.env = (false, eval a X.env) :: starEach [] X.env := by rfl) : DE T X W (.Call (.Name "len" p) [.Call (.Name "set" p2) [a] [] q] [] pos) (eB lenSetD (pCons fp pNil)) :=
  pe_weak (pe_lenSetA hg hm hg2 hm2 ha hc na) fun σ H Q ⟨l, m, R, qq⟩ => ⟨l, m, R, (post.bind (post.bind qq)).imp fun o l1 m1 H1 mo R1 q1 v r => by
    have q1 := q1.2
    have q1 := (post.bind (r := Res.ok [] l1 m1) q1) H1 .refl R1
    have q1 := q1.2
    have q1 := q1 H1 .refl R1
    have q1 := q1.2
    cases e1 : o.get l1 with
    | none => simp only [opsGet, e1] at q1; exact q1.elim
    | some d =>
      simp only [opsGet, e1] at q1
      obtain ⟨d', ed, q2⟩ := post.lift q1
      have rr := (r.getN .refl R1 e1).r
      unfold lenSetD at ed
      split at ed
      · rename_i xs hxs
        cases hxs
        split at ed
        · rename_i ns hns
          split at ed
          · rename_i hle
            cases ed
            obtain ⟨b, vs, ev, hr, rx⟩ := rr.lst
            exact ⟨b, ns, ev, .inl (by rw [← rx.ints hns]; exact .inl hr), hle, q2 H1 .refl R1 _ (.int _)⟩
          · cases ed
        · cases ed
      · rename_i xs hxs
        cases hxs
        split at ed
        · rename_i ns hns
          split at ed
          · rename_i hle
            cases ed
            obtain ⟨b, vs, ev, hr, rx⟩ := rr.tup
            exact ⟨b, ns, ev, .inr (by rw [← rx.ints hns]; exact hr), hle, q2 H1 .refl R1 _ (.int _)⟩
          · cases ed
        · cases ed
      · cases ed⟩
end
end DS
end

section
set_option Elab.async false
set_option linter.all false
set_option maxRecDepth 100000
set_option maxHeartbeats 2000000
namespace DS
open PySem PySem.Spec PyProof.Rows L2 LamX
/-! ### lambdas as values -/
/-- the function object of a closed lambda -/
def lamO (q : Str) (params : Arguments) (body : Expr) (scope : Scope) (c f : Addr) : Heap → Prop := fun h => ∃ (pm ctv : Value), h.get? f = some (PySem.W.kla_obj "<lambda>" q params body scope [] pm c ctv)
section
variable {X : Cx} {pins : List (Addr × Obj)} {σ : L2.St} {H : Hp} {s : Shared}
theorem Inv.tell {h' : Heap} {o : Obj} {t' : Nat} {q : Str} {params : Arguments} {body : Expr} {scope : Scope} {c : Addr} {pm ctv : Value} (I : Inv X pins σ H { s with heap := h', toks := t' }) (e : o = PySem.W.kla_obj "<lambda>" q params body scope [] pm c ctv) :
    Inv X pins σ (upd H h'.objs.size (.ext (lamO q params body scope c h'.objs.size))) { s with heap := h'.push o, toks := t' } := by
  subst e
  refine I.laid (s := { s with heap := h', toks := t' }) (fun b u e => Heap.get?_push_of_some _ e) (Nat.le_refl _) ?_
  have g : (h'.push (PySem.W.kla_obj "<lambda>" q params body scope [] pm c ctv)).get? h'.objs.size = some (PySem.W.kla_obj "<lambda>" q params body scope [] pm c ctv) := Heap.get?_push_size _ rfl
  exact ⟨⟨pm, ctv, g⟩, ⟨_, g⟩, fun h1 h2 ⟨pm, ctv, z⟩ k => ⟨pm, ctv, k _ z⟩⟩
/-- a closed lambda is made: its code object is new, or found in the table; the function object is known from now on -/
theorem lam_make3 {c P : Addr} {params : Arguments} {body : Expr} {scope : Scope} {pos : Pos} {E : Value → Shared → Prop} {Q : Value → Shared → Prop} (I : Inv X pins σ H s) (TB : TabB X.base X.mg c P) (hcode : X.env.code = .ref c)
    (hT : TabS H P (X.env.qual ++ "<lambda>")) (hdef : defaultsOf params X.env = ([], [])) (hcl : ∀ cells, cloFrom cells scope.names [] = []) (hfree : ∀ y ∈ scope.names, y.2 ≠ .free)
    (h : ∀ (f c' : Addr) (H1 : Hp) (s' : Shared), Inv X pins σ (upd H1 f (.ext (lamO (X.env.qual ++ "<lambda>") params body scope c' f))) s' → ExtN H H1 → (∀ a ps, H a = some (.tbl ps) → ∃ more, H1 a = some (.tbl (ps ++ more))) → TabS H1 P (X.env.qual ++ "<lambda>") → (∀ a, a ≠ P → ∀ q, TabS H a q → TabS H1 a q) →
      H1 f = none → H1 c' = some (CodeO c' (X.env.qual ++ "<lambda>")) → Q (.ref f) s') :
    wpAny (model X.prog X.w) X.A (eval (.Lambda params body scope pos) X.env) Q E s := by
  obtain ⟨ps, hP, ht, ha⟩ := hT
  have hfr : ∀ y ∈ scope.names, y.2 = .free → ∃ c, X.env.cells.lookup y.1 = some c := fun y hy e => absurd e (hfree y hy)
  refine PySem.W.kla_eval hdef ?_
  have bP : s.heap.BuiltinsAt X.mg P := TB.bm.keeps I.bk
  have hP' : s.heap.get? P = some { cls := .none, data := .fields ps } := I.hok P _ hP
  cases hc : codeAmong pos ps.toList with
  | none =>
    refine PySem.W.kla_makeFunction (mg := X.mg) (c := c) (P := P) (ps := ps) (closure_ok hfr) I.ok.glob (I.mod.glob.keeps I.bk) hcode (TB.code.keeps I.bk) hP' ht hc TB.gP bP fun c' ctv h' tk hx hge hlt hrec htb => ?_
    obtain ⟨c2, oc, vs, t, e2, hoc, hd, hv⟩ := hrec
    cases e2
    have hsz : s.heap.objs.size ≤ h'.objs.size := Nat.le_trans hge (Nat.le_of_lt hlt)
    have nC : H c' = none := I.hok.fresh hge
    have I1 := inv_table (t' := tk) (more := #[rawInt pos.line, rawInt pos.col, .ref c']) (h' := h') I hP hx htb hge ⟨oc, vs, t, hoc, hd, hv⟩
    have I2 := Inv.tell (c := c') (q := X.env.qual ++ "<lambda>") (params := params) (body := body) (scope := scope) (pm := (X.mg "__name__").getD .none) (ctv := ctv) (o := PySem.W.kla_obj "<lambda>" (X.env.qual ++ "<lambda>") params body scope (cloFrom X.env.cells scope.names []) ((X.mg "__name__").getD .none) c' ctv) I1 (by rw [hcl])
    have hE : ExtN H (upd (upd H P (.tbl (ps ++ #[rawInt pos.line, rawInt pos.col, .ref c']))) c' (CodeO c' (X.env.qual ++ "<lambda>"))) := fun b o e n => by
      rw [upd_ne (ne_of_none e nC), upd_ne (fun z => n ps (Option.some.inj (e.symm.trans (by rw [z]; exact hP))))]
      exact e
    have eL : (ps ++ #[rawInt pos.line, rawInt pos.col, .ref c']).toList = ps.toList ++ [rawInt pos.line, rawInt pos.col, .ref c'] := by simp
    refine h h'.objs.size c' _ _ I2 hE (fun a qs e => ?_) ?_ (fun a hb q ⟨ps', a1, a2, a3⟩ => ?_) ?_ upd_same
    · by_cases hb : a = P
      · subst hb
        rw [hP] at e; cases e
        exact ⟨_, by rw [upd_ne (ne_of_none hP nC), upd_same]⟩
      · exact ⟨#[], by rw [upd_ne (ne_of_none e nC), upd_ne hb, e]; simp⟩
    · refine ⟨_, by rw [upd_ne (ne_of_none hP nC), upd_same], by rw [eL]; exact PySem.TriplesOk_snoc _ _ _ _ ht, fun p' cv hcv => ?_⟩
      rw [eL] at hcv
      rcases among_app _ ht hcv with z | z
      · obtain ⟨c0, e1, e2⟩ := ha p' cv z
        exact ⟨c0, e1, hE _ _ e2 codeO_ne⟩
      · exact ⟨c', z, upd_same⟩
    · refine ⟨ps', by rw [upd_ne (ne_of_none a1 nC), upd_ne hb]; exact a1, a2, fun p' cv hcv => ?_⟩
      obtain ⟨c0, e1, e2⟩ := a3 p' cv hcv
      exact ⟨c0, e1, hE _ _ e2 codeO_ne⟩
    · have n1 : h'.objs.size ≠ c' := Nat.ne_of_gt hlt
      have n2 : h'.objs.size ≠ P := Nat.ne_of_gt (Nat.lt_of_lt_of_le (Heap.lt_size hP') hsz)
      rw [upd_ne n1, upd_ne n2]
      exact I.hok.fresh hsz
  | some cv =>
    obtain ⟨c', e, hco⟩ := ha pos cv hc
    subst e
    refine PySem.W.kla_makeFunctionHit (mg := X.mg) (c := c) (P := P) (ps := ps) (closure_ok hfr) I.ok.glob (I.mod.glob.keeps I.bk) hcode (TB.code.keeps I.bk) hP' ht hc bP fun ctv h' tk hx hsz => ?_
    have I1 : Inv X pins σ H { s with heap := h', toks := tk } := I.kept fun b o e => hx b o e
    have I2 := Inv.tell (c := c') (q := X.env.qual ++ "<lambda>") (params := params) (body := body) (scope := scope) (pm := (X.mg "__name__").getD .none) (ctv := ctv) (o := PySem.W.kla_obj "<lambda>" (X.env.qual ++ "<lambda>") params body scope (cloFrom X.env.cells scope.names []) ((X.mg "__name__").getD .none) c' ctv) I1 (by rw [hcl])
    exact h h'.objs.size c' H _ I2 (ExtN.refl H) (fun a qs e => ⟨#[], by rw [e]; simp⟩) ⟨ps, hP, ht, ha⟩ (fun a hb q z => z) (I.hok.fresh hsz) hco
end
end DS
namespace DS
open PySem PySem.Spec PyProof.Rows L2 LamX
section
variable {T : Tab} {X : Cx} {W : WX} {l : Loc} {m : Mem} {σ : L2.St} {H H' : Hp} {K : PySem.W.Frag}
theorem Stay.mono0 {tq : Addr → Str} (s : Stay tq [] H H') : Mono H H' := ⟨fun _ _ _ e => s.at_ _ _ e (by simp) (fun _ z => nomatch z), fun _ _ e => s.at_ _ _ e (by simp) (fun _ z => nomatch z), fun _ _ e => s.at_ _ _ e (by simp) (fun _ z => nomatch z)⟩
theorem Rel.stayed (R : Rel T K l m σ H) (s : Stay T.tq [] H H') : Rel T K l m σ H' := ⟨R.len, fun i t e => by
    obtain ⟨v, h1, h2⟩ := R.sl i t e
    exact ⟨v, h1, h2.keep s.mono0 fun a o e _ nt => s.at_ a o e (by simp) nt⟩, R.ap, ⟨R.mem.len, R.mem.nd, fun P hP => s.tn P (R.mem.tb P hP), fun k a d h1 h2 => by
    have o := R.mem.at_ k a d h1 h2
    obtain ⟨u, eu, _, _, _, nt, _⟩ := o.there
    exact o.mono s.mono0 ((s.at_ a u eu (by simp) nt).trans eu.symm)⟩, R.stay.trans (s.sub fun _ z => by simp at z)⟩
theorem de_lam {k : Nat} {c P : Addr} {params : Arguments} {body : Expr} {scope : Scope} {pos : Pos} (TB : TabB X.base X.mg c P) (hcode : X.env.code = .ref c) (hq : T.tq P = X.env.qual ++ "<lambda>") (hQ : T.lamQ = X.env.qual ++ "<lambda>") (hP : P ∈ T.ts)
    (hk : T.lamP k = lamO T.lamQ params body scope) (hdef : defaultsOf params X.env = ([], [])) (hcl : ∀ cells, cloFrom cells scope.names [] = []) (hfree : ∀ y ∈ scope.names, y.2 ≠ .free) : DE T X W (.Lambda params body scope pos) (eC (.lam k)) := by
  refine ⟨fun pins s σ H Q I ⟨l, m, R, q⟩ => lam_make3 I TB hcode (by rw [← hq]; exact R.mem.tb P hP) hdef hcl hfree fun f c' H1 s' I1 hE htb hTP hTo nf hco => ?_⟩
  have ke : ∀ a o, H1 a = some o → upd H1 f (.ext (lamO (X.env.qual ++ "<lambda>") params body scope c' f)) a = some o := fun a o e => by rw [upd_ne (ne_of_none e nf)]; exact e
  have st : Stay T.tq [] H (upd H1 f (.ext (lamO (X.env.qual ++ "<lambda>") params body scope c' f))) := ⟨fun a o e _ nt => ke _ _ (hE a o e nt), fun a ps e => by
    obtain ⟨more, e2⟩ := htb a ps e
    exact ⟨more, ke _ _ e2⟩, fun a z => by
    by_cases hb : a = P
    · subst hb
      rw [hq]
      exact tabS_keep hTP (fun ps e => ke _ _ e) fun a φ e => ke _ _ e
    · exact tabS_keep (hTo a hb _ z) (fun ps e => ke _ _ e) fun a φ e => ke _ _ e⟩
  exact ⟨.ref f, _, I1, rfl, q _ st.mono0 (R.stayed st) _ (.lam (c := c') (by rw [upd_same, hk, hQ]) (by rw [hQ]; exact ke _ _ hco))⟩
end
end DS
end

section
set_option Elab.async false
set_option linter.all false
set_option maxRecDepth 100000
set_option maxHeartbeats 2000000
namespace DS
open PySem PySem.Spec PyProof.Rows L2 LamX
/-! ### a closed lambda's call -/
abbrev lamEnv0 (q : Str) (scope : Scope) (L f c' : Addr) : Env := PySem.W.envX q scope L f (.ref c') []
/-- the context of a closed lambda's body, entered at s from the frames outer -/
def lamC0 (P : Program) (w : World) (K : PySem.W.Frag) (mg : Str → Option Value) (base : Heap) (q : Str) (A : Around) (outer : List Env) (s : Shared) (H : Hp) (E : XK) (scope : Scope) (f c' : Addr) : Cx where
  prog := P
  w := w
  K := K
  mg := mg
  base := base
  A := A.deeper (lamEnv0 q scope s.heap.objs.size f c')
  N := []
  s_0 := s
  H_0 := H
  env := lamEnv0 q scope s.heap.objs.size f c'
  outer := outer
  stack := lamEnv0 q scope s.heap.objs.size f c' :: outer
  ex := []
  fn := fun _ => false
  calm := true
  pn := []
  xe := fun e s' => wpAny (model P w) (A.deeper (lamEnv0 q scope s.heap.objs.size f c')) (leaving (lamEnv0 q scope s.heap.objs.size f c') e) (fun _ s'' => L2.CX P w outer H s E e s'') (fun e' s'' => L2.CX P w outer H s E e' s'') s'
/-- no name of its own, none captured -/
structure LamC (scope : Scope) : Prop where
  kind : scope.kind = .function
  co : scope.isCoroutine = false
  gen : scope.isGenerator = false
  own : ∀ y ∈ scope.names, y.2 ≠ .local ∧ y.2 ≠ .cell ∧ y.2 ≠ .free
section
variable {P : Program} {w : World} {K : PySem.W.Frag} {mg : Str → Option Value} {base : Heap}
theorem lam_start0 {A : Around} {outer : List Env} {E : XK} {q : Str} {scope : Scope} {f c' : Addr} {h₁ : Heap} {tk : Nat} {s1 : Shared} {HZ : Hp} (L : LamC scope) (e0 : Env0 P w K mg base A outer s1 HZ) (hd : A.handled = none)
    (hns : h₁.Ns s1.heap.objs.size fun y => ([] : List (Str × Value)).reverse.lookup y) (kp : ∀ b o, s1.heap.get? b = some o → h₁.get? b = some o) :
    Inv (lamC0 P w K mg base q A outer s1 HZ E scope f c') [] [] HZ { s1 with heap := h₁, toks := tk } := by
  have noA : ∀ b : Addr, b ∉ (lamC0 P w K mg base q A outer s1 HZ E scope f c').ex := fun b z => absurd (show b ∈ ([] : List Addr) from z) (by simp)
  have nl : ∀ {y c}, (lamEnv0 q scope s1.heap.objs.size f c').cells.lookup y = some c → False := fun {y c} e => by cases (show none = some c from e)
  refine ⟨⟨e0.mod, L.kind, rfl, rfl, Nat.le_refl _, fun y z c e1 e2 => (nl e1).elim, fun y hy => ?_, fun y c z _ => ?_, fun _ => hd, Around.frames_deeper e0.frames, .inr ⟨rfl, rfl⟩, fun b z => absurd z (noA b), e0.bs, e0.bsz, fun b _ _ => noA b,
      fun b z => absurd z (noA b), e0.funs, e0.frf⟩,
    rfl, e0.bare, Un.kept kp, ⟨_, hns, fun i y v e1 e2 e3 => ?_⟩, fun y c e => (nl e).elim, e0.hok.fresh (Nat.le_refl _), fun y c e => (nl e).elim, fun q hq => absurd (show q ∈ ([] : List (Addr × Obj)) ++ [] from hq) (by simp), e0.hok.kept kp, rfl⟩
  · have hy : scope.names.lookup y = some .cell ∨ scope.names.lookup y = some .free := hy
    rcases hy with hy | hy
    · exact absurd rfl (L.own _ (PySem.mem_of_lookup hy)).2.1
    · exact absurd rfl (L.own _ (PySem.mem_of_lookup hy)).2.2
  · have z : false = true := z
    cases z
  · cases (show (none : Option Str) = some y from e1)
/-- what a closed lambda does -/
def lamF (fe : Ex) (m : Mem) : DS.RC := match fe [] m with
  | .ok d _ m => .ok d m
  | .ex c fs _ m => .ex c fs m
  | .bad => .bad
/-- the lambda's body does fe -/
def LamOk (T : Tab) (P : Program) (w : World) (K : PySem.W.Frag) (mg : Str → Option Value) (base : Heap) (k : Nat) (q : Str) (body : Expr) (scope : Scope) (fe : Ex) : Prop :=
  ∀ (A : Around) (outer : List Env) (s : Shared) (H : Hp) (E : XK) (T' : Tab) (W : WX) (f c' : Addr), (∃ γ, T' = T.w γ [] H) → Room k (A.deeper (lamEnv0 q scope s.heap.objs.size f c')) → Takes (lamC0 P w K mg base q A outer s H E scope f c') W →
    DE T' (lamC0 P w K mg base q A outer s H E scope f c') W body fe
end
section
variable {T : Tab} {X : Cx} {W : WX} {p1 p2 : Pos} {a : Str} {i k : Nat}
/-- x(), the local x a closed lambda -/
theorem de_lamcall {lams : Nat → Ex} (hN : X.N[i]? = some a) (hv : Vis X.env.scope a) (tk : Takes X W) (hr : Room (k + 1) X.A)
    (hl : ∀ j, lams j = (fun _ _ => .bad) ∨ ∃ (params : Arguments) (body : Expr) (scope : Scope), T.lamP j = lamO T.lamQ params body scope ∧ LamC scope ∧ (∀ (q : Str) (cl : List (Str × Addr)) (pm cv ctv : Value), bindArgs (PySem.W.kla_fn "<lambda>" q params body scope cl pm cv ctv) ⟨[], []⟩ = pure []) ∧ LamOk T X.prog X.w X.K X.mg X.base k T.lamQ body scope (lams j))
    (hd : (a == ("__debug__" : Str)) = false := by decide) (hcd : (a == ("__classdict__" : Str)) = false := by decide) :
    DE T X W (.Call (.Name a p1) [] [] p2) (eLamCall lams i) := by
  refine ⟨fun pins s σ H Q I ⟨l, m, R, q⟩ => ?_⟩
  unfold eLamCall at q
  split at q
  · rename_i j hj
    obtain ⟨v, hs, rv⟩ := R.sl i _ hj
    have rv : Rep T X.K H v (.lam j) := rv
    cases rv with
    | lam hf hc =>
      rename_i f c'
      rcases hl j with e | ⟨params, body, scope, hlp, L, hbind, ok⟩
      · rw [e] at q; exact q.elim
      refine wpAny_Call_Name_kw (thn ((pe_var (pos := p1) (i := i) hN hv hd hcd).run pins s σ H (fun v H1 => v = .ref f ∧ H1 = H) I ⟨.ref f, hs, rfl, rfl⟩) fun u s1 ⟨v, H1, I1, r1, q1⟩ => ?_)
      obtain ⟨ev, eH⟩ := q1
      subst ev
      rw [eH] at I1
      obtain rfl : u = Value.ref f := r1
      obtain ⟨hφ, _, _⟩ := I1.hok f _ hf
      rw [hlp] at hφ
      obtain ⟨pm, ctv, of1⟩ := hφ
      refine PySem.W.callWith_F0 ⟨_, _, _, _, of1⟩ ?_
      obtain ⟨⟨oc, vs, t, hoc, hdc, hvc⟩, _, _⟩ := I1.hok c' _ hc
      have rc : codeAny (model X.prog X.w) X.A (.call (.ref f) ⟨[], []⟩) (CR (L2.CX X.prog X.w) X.stack X.prog X.w H s1 Q (WE W σ)) s1 := by
        refine PySem.W.kla_callFunE hr.depth of1 rfl L.co L.gen rfl ⟨c', oc, vs, t, rfl, hoc, hdc, hvc⟩ ?_
        rw [hbind]
        refine wpAny_pure (wpAny_newFunctionEnv (fun y hy => (L.own y hy).2.1) (fun y hy => absurd hy (by simp)) (fun h₁ hns hsb => ⟨I1.nolimit.fresh _ hsb, ?_⟩) L.kind)
        show codeAny _ _ (.expr body (lamEnv0 T.lamQ scope s1.heap.objs.size f c')) _ _
        have kp : ∀ b o, s1.heap.get? b = some o → h₁.get? b = some o := fun b o e => hsb.extBut b o (Nat.ne_of_lt (Heap.lt_size e)) (Heap.get?_push_of_some _ e)
        have J : Inv (lamC0 X.prog X.w X.K X.mg X.base T.lamQ X.A X.stack s1 H (WE W σ) scope f c') [] [] H { s1 with heap := h₁, toks := s1.toks + ([] : List (Str × Value)).length } :=
          lam_start0 L I1.env0 hr.hd hns kp
        have tk0 : Takes (lamC0 X.prog X.w X.K X.mg X.base T.lamQ X.A X.stack s1 H (WE W σ) scope f c') (fun cls d _ H => WE W σ cls d H) := takes_of (E₁ := fun e' s'' => L2.CX X.prog X.w X.stack H s1 (WE W σ) e' s'') rfl rfl rfl rfl
        have hb := ok X.A X.stack s1 H (WE W σ) (T.w T.γ [] H) _ f c' ⟨T.γ, rfl⟩ (hr.deeper _) tk0
        have R0 : Rel (T.w T.γ [] H) X.K [] m [] H := ⟨rfl, fun i s e => by simp at e, fun i j s t a _ e => by simp at e, R.mem.v [] H, .refl⟩
        refine PySem.W.kla_codeExpr (wpAny_mono (hb.run [] _ [] H Q J ⟨[], m, R0, ?_⟩) (fun v s' hq => ?_) fun e s' hq => hq)
        · generalize hz : lams j [] m = z at q
          cases z with
          | ok d l' m' =>
            intro H' mo R' v rv
            exact q H' mo (R.call (R'.stay.sub fun a z => by simpa using z) (R'.mem.v T.ι T.B)) v (rv.v T.ι T.B)
          | ex c fs l' m' =>
            intro cls dd H' mo R' x
            exact q cls dd H' mo (R.call (R'.stay.sub fun a z => by simpa using z) (R'.mem.v T.ι T.B)) (x.v T.ι T.B)
          | bad => exact q.elim
        · obtain ⟨w', H', J', rv, q⟩ := hq
          exact ⟨w', H', J'.os, J'.bare, J'.base, J'.hok, rv, q⟩
      refine wpAny_call (codeAny_mono rc fun r s' hq => ?_)
      cases r with
      | error e => exact passAt tk σ pins H s1 e s' I1 hq
      | ok fl =>
        cases fl with
        | ret u => exact I1.after hq
        | next => exact False.elim hq
        | brk => exact False.elim hq
        | cont => exact False.elim hq
  · exact q.elim
end
end DS
end

section
set_option Elab.async false
set_option linter.all false
set_option maxRecDepth 100000
set_option maxHeartbeats 2000000
namespace DS
open PySem PySem.Spec PyProof.Rows L2
/-! ### several except clauses, each may name what it caught (after the hand layer's ps_try_many and ps_try_as) -/
/-- a clause: its class, the name's slot, what its suite does -/
abbrev HdN := Value × Option Nat × (Addr → Value → Option Addr → TS)
def wNamed (K : PySem.W.Frag) (Wout : WX) (D : Ends) : List HdN → WX
  | [] => Wout
  | (c, none, ts) :: r => fun cls d σ H => ∃ b, PySem.W.exmOne K cls c = some b ∧ (b = true → ∀ a, H a = none → ts a cls d D σ H) ∧ (b = false → wNamed K Wout D r cls d σ H)
  | (c, some i, ts) :: r => fun cls d σ H => ∃ b, PySem.W.exmOne K cls c = some b ∧ (b = true → ∀ a, H a = none → ts a cls d { nx := fun σ' H' => D.nx (σ'.set i none) H', rt := D.rt, bk := fun σ' H' => D.bk (σ'.set i none) H', ct := fun σ' H' => D.ct (σ'.set i none) H' } (σ.set i (some (.ref a))) H) ∧
    (b = false → wNamed K Wout D r cls d σ H)
inductive HdsN (X : Cx) : List ExceptHandler → List HdN → Prop
  | nil : HdsN X [] []
  | plain {x : Str} {c : Value} {ts : Addr → Value → Option Addr → TS} {b₀ : Stmt} {suite : List Stmt} {np pos' : Pos} {hds : List ExceptHandler} {l : List HdN} (hc : Names X x c)
      (hsu : ∀ (a : Addr) (oe : Obj) (cls : Value) (d : Option Addr) (pn : List (Addr × Obj)), Zc cls d oe → (∃ vs, oe.data = .fields vs) → PSs (X.suite a ((a, oe) :: pn)) (b₀ :: suite) (ts a cls d)) (r : HdsN X hds l) :
      HdsN X (.ExceptHandler (some (.Name x np)) none (b₀ :: suite) pos' :: hds) ((c, none, ts) :: l)
  | named {x n : Str} {c : Value} {i : Nat} {ts : Addr → Value → Option Addr → TS} {b₀ : Stmt} {suite : List Stmt} {np pos' : Pos} {hds : List ExceptHandler} {l : List HdN} (hi : X.N[i]? = some n) (hln : X.env.kindOf n = some .local) (hc : Names X x c)
      (hsu : ∀ (a : Addr) (oe : Obj) (cls : Value) (d : Option Addr) (pn : List (Addr × Obj)), Zc cls d oe → (∃ vs, oe.data = .fields vs) → PSs (X.suite a ((a, oe) :: pn)) (b₀ :: suite) (ts a cls d)) (r : HdsN X hds l) :
      HdsN X (.ExceptHandler (some (.Name x np)) (some n) (b₀ :: suite) pos' :: hds) ((c, some i, ts) :: l)
section
variable {X : Cx} {body : List Stmt} {h₀ : ExceptHandler} {hds : List ExceptHandler} {l : List HdN} {pos : Pos} {tb : WX → TS} {Wout : WX}
theorem ps_try_named (hs : X.stack = X.env :: X.outer) (hf : X.env.frame = some X.env.locals) (hN : X.N.Nodup) (tk : Takes X Wout)
    (hb : ∀ (W : WX) (pn : List (Addr × Obj)) (xe : Value → Shared → Prop), Takes (X.tr pn xe) W → PassesOwn (model X.prog X.w) X.A X.env xe → PSs (X.tr pn xe) body (tb W))
    (hh : HdsN X (h₀ :: hds) l) : PS X (.Try body (h₀ :: hds) [] [] pos) (fun D σ H => tb (wNamed X.K Wout D l) D σ H) := by
  refine ⟨fun pins s σ H D I h => ?_⟩
  have ok := I.ok
  have hfr : X.A.frames = some (X.env :: X.outer) := by rw [ok.frames, hs]
  refine wpAny_Try_except ?_
  refine wpAny_mono ((hb (wNamed X.K Wout D l) (X.pn ++ pins) (fun e s₁ => wpAny (model X.prog X.w) X.A (noteFrame e X.env) (fun _ s₂ => wpAny (model X.prog X.w) X.A (setFlight e none) (fun _ s₃ =>
    wpAny (model X.prog X.w) X.A (handleBy e X.env (h₀ :: hds)) (SP X pins D) X.xe s₃) X.xe s₂) X.xe s₁) (fun u s' xx => ?_) PassesOwn.looking).run [] s σ H D (I.toTry _) h) (fun f s1 hsp => ?_) (fun e s1 he => he)
  · -- the catch
    obtain ⟨a, B, sI, pins', σ', H', cls, d, rfl, J', nb, up, sky, na, os, ag, w⟩ := xx
    have J : Inv X pins σ' H' sI := J'.ofTry ok
    have sky' : Sky B (X.env :: X.outer) a (Zc cls d) X.env.locals s'.heap := by rw [← hs]; exact sky
    show wpAny (model X.prog X.w) X.A (noteFrame (.ref a) X.env) _ _ _
    refine Sky.land Zc.steady hfr hf sky' fun h3 fl3 up3 => ?_
    have J3 : Inv X pins σ' H' { s' with heap := h3 } := J.landed nb fl3.1 (up.trans up3) os ag
    obtain ⟨oe3, vs3, he3, hz3, hd3⟩ := fl3.there
    have notFr : ∀ {h : Heap} {o : Obj} {vs : Array Value}, h.FunFrames B (X.env :: X.outer) → h.get? a = some o → o.data = .fields vs → a ∉ frs (X.env :: X.outer) := fun {h o vs} ff e dd hm => by
      obtain ⟨_, o', e', hnf⟩ := ff.mem hm
      rw [e] at e'; cases e'
      exact hnf _ dd
    have nfr := notFr fl3.2.2.1 he3 hd3
    have nL : a ≠ X.env.locals := fun z => nfr (List.mem_filterMap.mpr ⟨X.env, List.mem_cons_self, by rw [hf, z]⟩)
    have nF : a ∉ X.fs := fun hm => by
      obtain ⟨e, he, q⟩ := List.mem_filterMap.mp hm
      exact nfr (List.mem_filterMap.mpr ⟨e, List.mem_cons_of_mem _ he, q⟩)
    have S3 := J3.suite he3 hd3 na nL nF
    have go : ∀ {hds' : List ExceptHandler} {l' : List HdN}, HdsN X hds' l' → wNamed X.K Wout D l' cls d σ' H' →
        wpAny (model X.prog X.w) X.A (handleBy (.ref a) X.env hds') (SP X pins D) X.xe { s' with heap := h3 } := by
      intro hds' l' hk
      induction hk with
      | nil =>
        intro w
        refine wpAny_handleBy_nil ?_
        obtain ⟨k1, k2, k3, oe, vs, T, oT, ts', he, hz, hd, h1, hr⟩ := id fl3
        unfold PySem.passOn
        refine wpAny_bind (wpAny_field he hd h1 ?_)
        rw [if_neg (show ¬ ((Value.ref T == Value.none) = true) from by simp)]
        have fin : wpAny (model X.prog X.w) X.A (setFlight (.ref a) X.env.frame) (fun _ s4 => wpAny (model X.prog X.w) X.A (throw (.ref a) : Sem Flow) (SP X pins D) X.xe s4) X.xe { s' with heap := h3 } := by
          rw [hf]
          refine HandSPX.setFlight_upZ fl3 fun h4 hh4 up4 => wpAny_throw (tk _ _ ?_)
          exact ⟨a, B, sI, pins, σ', H', cls, d, rfl, J, nb, (up.trans up3).trans up4, .inr (.inr (by rw [hs]; exact hh4)), na, os, ag, w⟩
        first
          | exact wpAny_bind (wpAny_pure (wpAny_bind fin))
          | exact wpAny_bind fin
      | @plain x c ts b₀ suite np pos' hds2 l2 hc hsu r ih =>
        intro w
        obtain ⟨b, hb1, hyes, hno⟩ := w
        refine wpAny_handleBy_cons (codeAny_handlers_test ?_) (by intro q; cases q)
        have LT : PySem.W.Looks (model X.prog X.w) h3 (typeOf (.ref a)) cls := fun A Q E s k q => wpAny_typeOf_ref (k _ _ he3) (by rw [hz3.1]; exact q)
        have LM := PySem.W.exm_one (M := model X.prog X.w) (J3.kIn) LT hb1
        have test : ∀ {Q : Value → Shared → Prop} {E : Value → Shared → Prop}, Q c { s' with heap := h3 } → wpAny (model X.prog X.w) (X.A.mark (some (.ref a))) (eval (.Name x np) X.env) Q E { s' with heap := h3 } := fun {Q E} q => by
          obtain ⟨hg, hdbg, hm | ⟨hm, hv, hnn⟩⟩ := hc
          · exact ld_glob (X := X.suite a ((a, oe3) :: (X.pn ++ pins))) S3 hg hm q hdbg
          · exact ld_blt (X := X.suite a ((a, oe3) :: (X.pn ++ pins))) S3 hg hm hv q hnn hdbg
        refine test (LM.here ?_)
        cases b with
        | true =>
          refine codeAny_handlers_suite ?_
          refine HandSPX.lands_againZ fl3 fun h4 fl4 up4 => ?_
          have J4 : Inv X pins σ' H' { s' with heap := h4 } := J.landed nb fl4.1 ((up.trans up3).trans up4) os ag
          obtain ⟨oe4, vs4, he4, hz4, hd4⟩ := fl4.there
          have S4 := J4.suite he4 hd4 na nL nF
          refine wpAny_mono ((hsu a oe4 cls d (X.pn ++ pins) hz4 ⟨_, hd4⟩).run [] _ _ H' _ S4 (hyes rfl a na)) (fun f s6 hsp => ?_) (fun _ _ z => False.elim z)
          cases f with
          | next =>
            obtain ⟨σ6, H6, S6, q6⟩ := hsp
            exact ⟨_, _, S6.unsuite ok, q6⟩
          | brk =>
            obtain ⟨σ6, H6, S6, q6⟩ := hsp
            exact ⟨_, _, S6.unsuite ok, q6⟩
          | cont =>
            obtain ⟨σ6, H6, S6, q6⟩ := hsp
            exact ⟨_, _, S6.unsuite ok, q6⟩
          | ret u =>
            obtain ⟨v6, σ6, H6, S6, r6, q6⟩ := hsp
            exact ⟨_, _, _, S6.unsuite ok, r6, q6⟩
        | false =>
          show wpAny _ X.A (handleBy (.ref a) X.env hds2) _ _ _
          exact ih (hno rfl)
      | @named x n c i ts b₀ suite np pos' hds2 l2 hi hln hc hsu r ih =>
        intro w
        obtain ⟨b, hb1, hyes, hno⟩ := w
        refine wpAny_handleBy_cons (codeAny_handlers_test ?_) (by intro q; cases q)
        have LT : PySem.W.Looks (model X.prog X.w) h3 (typeOf (.ref a)) cls := fun A Q E s k q => wpAny_typeOf_ref (k _ _ he3) (by rw [hz3.1]; exact q)
        have LM := PySem.W.exm_one (M := model X.prog X.w) (J3.kIn) LT hb1
        have test : ∀ {Q : Value → Shared → Prop} {E : Value → Shared → Prop}, Q c { s' with heap := h3 } → wpAny (model X.prog X.w) (X.A.mark (some (.ref a))) (eval (.Name x np) X.env) Q E { s' with heap := h3 } := fun {Q E} q => by
          obtain ⟨hg, hdbg, hm | ⟨hm, hv, hnn⟩⟩ := hc
          · exact ld_glob (X := X.suite a ((a, oe3) :: (X.pn ++ pins))) S3 hg hm q hdbg
          · exact ld_blt (X := X.suite a ((a, oe3) :: (X.pn ++ pins))) S3 hg hm hv q hnn hdbg
        refine test (LM.here ?_)
        cases b with
        | true =>
          refine codeAny_handlers_suite_as ?_
          refine HandSPX.lands_againZ fl3 fun h4 fl4 up4 => ?_
          have J4 : Inv X pins σ' H' { s' with heap := h4 } := J.landed nb fl4.1 ((up.trans up3).trans up4) os ag
          obtain ⟨oe4, vs4, he4, hz4, hd4⟩ := fl4.there
          have S4 := J4.suite he4 hd4 na nL nF
          refine store_ok (X := X.suite a ((a, oe4) :: (X.pn ++ pins))) (v := .ref a) S4 hN hi (.inl hln) rfl (fun s5 S5 => ?_) (.inr hln)
          refine wpAny_mono ((hsu a oe4 cls d (X.pn ++ pins) hz4 ⟨_, hd4⟩).run [] s5 _ H' _ S5 (hyes rfl a na)) (fun f s6 hsp => ?_) (fun _ _ z => False.elim z)
          have end_ : ∀ {σ6 : L2.St} {H6 : Hp} {Q : Shared → Prop}, Inv (X.suite a ((a, oe4) :: (X.pn ++ pins))) [] σ6 H6 s6 → (∀ s7, Inv X pins (σ6.set i none) H6 s7 → Q s7) →
              wpAny (model X.prog X.w) X.A (do bindName X.env n .none; unbindBehindTheSuite X.env n pos') (fun _ s7 => Q s7) X.xe s6 := fun {σ6 H6 Q} S6 hq => gone_ok (S6.unsuite ok) hN hi hln hq
          cases f with
          | next =>
            obtain ⟨σ6, H6, S6, q6⟩ := hsp
            exact end_ S6 fun s7 J7 => ⟨_, _, J7, q6⟩
          | brk =>
            obtain ⟨σ6, H6, S6, q6⟩ := hsp
            exact end_ S6 fun s7 J7 => ⟨_, _, J7, q6⟩
          | cont =>
            obtain ⟨σ6, H6, S6, q6⟩ := hsp
            exact end_ S6 fun s7 J7 => ⟨_, _, J7, q6⟩
          | ret u =>
            obtain ⟨v6, σ6, H6, S6, r6, q6⟩ := hsp
            exact end_ S6 fun s7 J7 => ⟨_, _, _, J7, r6, q6⟩
        | false =>
          show wpAny _ X.A (handleBy (.ref a) X.env hds2) _ _ _
          exact ih (hno rfl)
    exact go hh w
  · cases f with
    | next =>
      obtain ⟨σ', H', J', q⟩ := hsp
      exact wpAny_execs_nil ⟨σ', H', J'.ofTry ok, q⟩
    | brk =>
      obtain ⟨σ', H', J', q⟩ := hsp
      exact ⟨σ', H', J'.ofTry ok, q⟩
    | cont =>
      obtain ⟨σ', H', J', q⟩ := hsp
      exact ⟨σ', H', J'.ofTry ok, q⟩
    | ret u =>
      obtain ⟨v, σ', H', J', r, q⟩ := hsp
      exact ⟨v, σ', H', J'.ofTry ok, r, q⟩
end
end DS
end

section
set_option Elab.async false
set_option linter.all false
set_option maxRecDepth 100000
set_option maxHeartbeats 2000000
namespace DS
open PySem PySem.Spec PyProof.Rows L2
section
variable {T : Tab} {X : Cx} {W : WX} {pos : Pos} {body : List Stmt} {h₀ : ExceptHandler} {hds : List ExceptHandler} {l : List HdN} {f : Es} {hs : List (List (Nat × Bool) × HdD)}
/-- the reading of a part -/
abbrev ItT := Addr → Value → Option Addr → TE
inductive ItOk (T : Tab) (X : Cx) (C i : Nat) : Expr → HdI → ItT → Prop
  | fld {n fl : Str} {j : Nat} {q1 q2 : Pos} (hi : X.N[i]? = some n) (hxf : XfC X.K (T.cls C)) (hno : PySem.W.findIn X.K (.ref (T.cls C)) fl = some none) (hj : (T.xf C)[j]? = some fl) (hnd : (T.xf C).Nodup)
      (hb : attributeBase (.Name n q1) fl X.env (eval (.Name n q1) X.env) = eval (.Name n q1) X.env) (hv : Vis X.env.scope n) (hdb : (n == ("__debug__" : Str)) = false) (hcd : (n == ("__classdict__" : Str)) = false) :
      ItOk T X C i (.Attribute (.Name n q1) fl q2) (.fld j) (fun a cls d => tXf a cls d (T.cls C) fl (tVar i))
  | con {e : Expr} {d : D} {v : V} (h : ∀ a oe pn, PE (X.suite a ((a, oe) :: pn)) e (tC v)) (r : ∀ H, Rep T X.K H v d) : ItOk T X C i e (.con d) (fun _ _ _ => tC v)
theorem ItOk.pe {C i : Nat} {e : Expr} {x : HdI} {t : ItT} (o : ItOk T X C i e x t) {a : Addr} {oe : Obj} {cls : Value} {d : Option Addr} {pn : List (Addr × Obj)} (hz : Zc cls d oe) (hf : ∃ vs, oe.data = .fields vs) : PE (X.suite a ((a, oe) :: pn)) e (t a cls d) := by
  cases o with
  | fld hi hxf hno hj hnd hb hv hdb hcd => exact pe_xf hxf hno hz hf (pe_var (X := X.suite a ((a, oe) :: pn)) hi hv hdb hcd) hb
  | con h r => exact h a oe pn
/-- the clauses of a try, read -/
inductive HsOk (T : Tab) (X : Cx) : List ExceptHandler → List HdN → List (List (Nat × Bool) × HdD) → Prop
  | nil : HsOk T X [] [] []
  | one {x n : Str} {C i : Nat} {e : Expr} {it : HdI} {t : ItT} {tab : List (Nat × Bool)} {np pos' q3 : Pos} {hds : List ExceptHandler} {l : List HdN} {hs : List (List (Nat × Bool) × HdD)} (hi : X.N[i]? = some n) (hln : X.env.kindOf n = some .local) (hc : Names X x (.ref (T.cls C)))
      (ht : ∀ q ∈ tab, PySem.W.exmOne X.K (.ref (T.cls q.1)) (.ref (T.cls C)) = some q.2 ∧ (q.2 = true → q.1 = C)) (o : ItOk T X C i e it t) (r : HsOk T X hds l hs) :
      HsOk T X (.ExceptHandler (some (.Name x np)) (some n) [.Return (some e) q3] pos' :: hds) ((.ref (T.cls C), some i, fun a cls d => tRet (t a cls d)) :: l) ((tab, .one i it) :: hs)
  | two {x n : Str} {C i k : Nat} {e e2 : Expr} {it it2 : HdI} {t t2 : ItT} {tab : List (Nat × Bool)} {np pos' q3 q4 : Pos} {hds : List ExceptHandler} {l : List HdN} {hs : List (List (Nat × Bool) × HdD)} (hi : X.N[i]? = some n) (hln : X.env.kindOf n = some .local) (hc : Names X x (.ref (T.cls C)))
      (ht : ∀ q ∈ tab, PySem.W.exmOne X.K (.ref (T.cls q.1)) (.ref (T.cls C)) = some q.2 ∧ (q.2 = true → q.1 = C)) (o : ItOk T X C i e it t) (o2 : ItOk T X C i e2 it2 t2)
      (hs1 : ∀ a oe pn, starEach [e, e2] (X.suite a ((a, oe) :: pn)).env = (false, eval e (X.suite a ((a, oe) :: pn)).env) :: starEach [e2] (X.suite a ((a, oe) :: pn)).env) (hs2 : ∀ a oe pn, starEach [e2] (X.suite a ((a, oe) :: pn)).env = (false, eval e2 (X.suite a ((a, oe) :: pn)).env) :: starEach [] (X.suite a ((a, oe) :: pn)).env) (r : HsOk T X hds l hs) :
      HsOk T X (.ExceptHandler (some (.Name x np)) (some n) [.Return (some (.Tuple [e, e2] k q4)) q3] pos' :: hds) ((.ref (T.cls C), some i, fun a cls d => tRet (tTup (tCons (t a cls d) (tCons (t2 a cls d) tNil)))) :: l) ((tab, .two i it it2) :: hs)
  | con {x : Str} {C : Nat} {e : Expr} {d : D} {v : V} {tab : List (Nat × Bool)} {np pos' q3 : Pos} {hds : List ExceptHandler} {l : List HdN} {hs : List (List (Nat × Bool) × HdD)} (hc : Names X x (.ref (T.cls C)))
      (ht : ∀ q ∈ tab, PySem.W.exmOne X.K (.ref (T.cls q.1)) (.ref (T.cls C)) = some q.2) (h : ∀ a oe pn, PE (X.suite a ((a, oe) :: pn)) e (tC v)) (hr : ∀ H, Rep T X.K H v d) (r : HsOk T X hds l hs) :
      HsOk T X (.ExceptHandler (some (.Name x np)) none [.Return (some e) q3] pos' :: hds) ((.ref (T.cls C), none, fun _ _ _ => tRet (tC v)) :: l) ((tab, .con d) :: hs)
theorem HsOk.hdsN {h : List ExceptHandler} (o : HsOk T X h l hs) : HdsN X h l := by
  induction o with
  | nil => exact .nil
  | one hi hln hc ht o r ih => exact .named hi hln hc (fun a oe cls d pn hz hf => pss_one (ps_ret (o.pe hz hf))) ih
  | two hi hln hc ht o o2 hs1 hs2 r ih => exact .named hi hln hc (fun a oe cls d pn hz hf => pss_one (ps_ret (pe_tup (pa_cons (o.pe hz hf) (pa_cons (o2.pe hz hf) pa_nil (hs2 a oe pn)) (hs1 a oe pn))))) ih
  | con hc ht h hr r ih => exact .plain hc (fun a oe cls d pn hz hf => pss_one (ps_ret (h a oe pn))) ih
theorem xd_get {xs : List Str} {K : PySem.W.Frag} {H : Hp} {vs : List V} {fs : List D} {j : Nat} {fl : Str} {d : D} (hnd : xs.Nodup) (hj : xs[j]? = some fl) (r : Reps T K H vs fs) (hl : xs.length = vs.length) (e : fs[j]? = some d) : ∃ v, ((xs.zip vs).reverse).lookup fl = some v ∧ Rep T K H v d := by
  obtain ⟨v, ev, rv⟩ := r.get' e
  refine ⟨v, ?_, rv⟩
  have hz : (xs.zip vs)[j]? = some (fl, v) := by
    rw [List.getElem?_zip_eq_some]
    exact ⟨hj, ev⟩
  have hm : (fl, v) ∈ (xs.zip vs).reverse := List.mem_reverse.mpr (List.mem_of_getElem? hz)
  have uniq : ∀ w, (fl, w) ∈ (xs.zip vs).reverse → w = v := fun w hw => by
    obtain ⟨k, hk⟩ := List.getElem?_of_mem (List.mem_reverse.mp hw)
    rw [List.getElem?_zip_eq_some] at hk
    have : k = j := (List.getElem?_inj (List.getElem?_eq_some_iff.mp hk.1).1 hnd).mp (hk.1.trans hj.symm)
    subst this
    rw [ev] at hk
    exact (Option.some.inj hk.2).symm
  generalize (xs.zip vs).reverse = zs at hm uniq
  induction zs with
  | nil => cases hm
  | cons z zs ih =>
    obtain ⟨k, w⟩ := z
    simp only [List.lookup]
    split
    · rename_i hk
      rw [beq_iff_eq] at hk
      subst hk
      rw [uniq w List.mem_cons_self]
    · rename_i hk
      refine ih ?_ fun w hw => uniq w (List.mem_cons_of_mem _ hw)
      rcases List.mem_cons.mp hm with e | e
      · cases e
        simp at hk
      · exact e
/-- a part's value -/
theorem ItOk.run {C i : Nat} {e : Expr} {x : HdI} {t : ItT} (o : ItOk T X C i e x t) {fs : List D} {d : D} (g : x.get fs = some d) {a : Addr} {dd : Option Addr} {H H1 : Hp} {σ : L2.St} (xr : ExcR T X.K H C fs (.ref (T.cls C)) dd) (mo : ∀ d fs, H d = some (.xd fs) → H1 d = some (.xd fs)) (ms : Mono H H1) (hs : σ[i]? = some (some (.ref a))) {Q : VK}
    (q : ∀ v, Rep T X.K H1 v d → Q v H1) : t a (.ref (T.cls C)) dd σ H1 Q := by
  cases o with
  | fld hi hxf hno hj hnd hb hv hdb hcd =>
    have g : fs[_]? = some d := g
    rcases xr.2 with ⟨z, _⟩ | ⟨d1, vs, ed, hx, rx, hlen⟩
    · subst z; cases g
    · obtain ⟨v, hv1, hv2⟩ := xd_get hnd hj rx hlen g
      exact ⟨.ref a, hs, rfl, rfl, d1, _, v, ed, mo _ _ hx, hv1, q v (hv2.mono ms)⟩
  | con h r =>
    cases g
    exact q _ (r _)
theorem try_post {h : List ExceptHandler} {EE : Ends} {c : Nat} {fs : List D} {ll : Loc} {m : Mem} {H : Hp} (o : HsOk T X h l hs) (q : postS T X.K W (tryH hs c fs ll m) EE H) :
    ∀ cls dd σ' H', Mono H H' → Rel T X.K ll m σ' H' → ExcR T X.K H' c fs cls dd → wNamed X.K W EE l cls dd σ' H' := by
  induction o with
  | nil => exact q
  | @one x n C i e it t tab np pos' q3 hds l hs hi hln hc ht o r ih =>
    intro cls dd σ' H' mo R x
    have ec := x.1
    subst ec
    unfold tryH at q
    cases e1 : tab.lookup c with
    | none => rw [e1] at q; exact q.elim
    | some b =>
      rw [e1] at q
      have hm := ht _ (lookup_mem e1)
      cases b with
      | false => exact ⟨false, hm.1, (fun z => nomatch z), fun _ => ih q _ dd σ' H' mo R x⟩
      | true =>
        obtain rfl : c = C := hm.2 rfl
        dsimp only at q
        cases e2 : HdD.get ll.length fs (.one i it) with
        | none => rw [e2] at q; exact q.elim
        | some d =>
          rw [e2] at q
          have e2 : (if i < ll.length then it.get fs else none) = some d := e2
          split at e2
          · rename_i hll
            refine ⟨true, hm.1, fun _ a ha => ?_, (fun z => nomatch z)⟩
            exact o.run e2 x (fun _ _ z => z) .refl (List.getElem?_set_self (by rw [R.len]; exact hll)) fun v rv => q v σ' H' mo R rv
          · cases e2
  | @two x n C i k e e' it it2 t t2 tab np pos' q3 q4 hds l hs hi hln hc ht o o2 hs1 hs2 r ih =>
    intro cls dd σ' H' mo R x
    have ec := x.1
    subst ec
    unfold tryH at q
    cases e1 : tab.lookup c with
    | none => rw [e1] at q; exact q.elim
    | some b =>
      rw [e1] at q
      have hm := ht _ (lookup_mem e1)
      cases b with
      | false => exact ⟨false, hm.1, (fun z => nomatch z), fun _ => ih q _ dd σ' H' mo R x⟩
      | true =>
        obtain rfl : c = C := hm.2 rfl
        dsimp only at q
        cases e2 : HdD.get ll.length fs (.two i it it2) with
        | none => rw [e2] at q; exact q.elim
        | some d =>
          rw [e2] at q
          have e2 : (if i < ll.length then (match it.get fs, it2.get fs with | some a, some b => some (D.tup [a, b]) | _, _ => none) else none) = some d := e2
          split at e2
          · rename_i hll
            split at e2
            · rename_i da db ga gb
              cases e2
              refine ⟨true, hm.1, fun _ a ha => ?_, (fun z => nomatch z)⟩
              have hsl := List.getElem?_set_self (a := some (V.ref a)) (show i < σ'.length by rw [R.len]; exact hll)
              refine o.run ga x (fun _ _ z => z) .refl hsl fun v rv => o2.run gb x (fun _ _ z => z) .refl hsl fun v2 rv2 => ⟨by simp [sizeLine_eq, sizeMax], fun tp htp => ?_⟩
              have g : Grow H' (upd H' tp (.tup [v, v2])) := .upd htp
              exact q _ σ' _ (mo.trans g.mono) (R.grow g) (.tup (.inl (.inl upd_same)) (.cons (rv.mono g.mono) (.cons (rv2.mono g.mono) .nil)))
            · cases e2
          · cases e2
  | @con x C e d v tab np pos' q3 hds l hs hc ht h hr r ih =>
    intro cls dd σ' H' mo R x
    have ec := x.1
    subst ec
    unfold tryH at q
    cases e1 : tab.lookup c with
    | none => rw [e1] at q; exact q.elim
    | some b =>
      rw [e1] at q
      have hm := ht _ (lookup_mem e1)
      cases b with
      | false => exact ⟨false, hm, (fun z => nomatch z), fun _ => ih q _ dd σ' H' mo R x⟩
      | true => exact ⟨true, hm, fun _ a ha => q v σ' H' mo R (hr _), (fun z => nomatch z)⟩
theorem ds_try (hst : X.stack = X.env :: X.outer) (hf : X.env.frame = some X.env.locals) (hN : X.N.Nodup) (tk : Takes X W)
    (hb : ∀ (W' : WX) (pn : List (Addr × Obj)) (xe : Value → Shared → Prop), Takes (X.tr pn xe) W' → PassesOwn (model X.prog X.w) X.A X.env xe → DSs T (X.tr pn xe) W' body f)
    (hh : HsOk T X (h₀ :: hds) l hs) : DSt T X W (.Try body (h₀ :: hds) [] [] pos) (sTry f hs) :=
  ps_weak (ps_try_named (tb := fun W' => tS T X.K W' f) hst hf hN tk hb hh.hdsN) fun EE σ H ⟨ll, m, R, q⟩ => ⟨ll, m, R, by
    unfold sTry at q
    cases e : f ll m with
    | ex c fs l1 m1 =>
      rw [e] at q
      exact fun cls dd σ' H' mo R' x => try_post hh (postS.mono q mo) cls dd σ' H' .refl R' x
    | nx l1 m1 => rw [e] at q; exact q
    | rt d l1 m1 => rw [e] at q; exact q
    | bk l1 m1 => rw [e] at q; exact q
    | ct l1 m1 => rw [e] at q; exact q
    | bad => rw [e] at q; exact q⟩
end
end DS
end

section
set_option Elab.async false
set_option linter.all false
set_option maxRecDepth 100000
set_option maxHeartbeats 2000000
namespace DS
open PySem PySem.Spec PyProof.Rows L2 LamX
section
variable {X : Cx} {pins : List (Addr × Obj)} {σ : L2.St} {H : Hp} {s : Shared}
/-- a lambda is made, captured names and all; the function object is not told of -/
theorem lam_make4 {c P : Addr} {params : Arguments} {body : Expr} {scope : Scope} {pos : Pos} {E : Value → Shared → Prop} {Q : Value → Shared → Prop} (I : Inv X pins σ H s) (TB : TabB X.base X.mg c P) (hcode : X.env.code = .ref c)
    (hT : TabS H P (X.env.qual ++ "<lambda>")) (hdef : defaultsOf params X.env = ([], [])) (hfr : ∀ y ∈ scope.names, y.2 = .free → ∃ c, X.env.cells.lookup y.1 = some c)
    (h : ∀ (f c' : Addr) (pm ctv : Value) (H1 : Hp) (s' : Shared), Inv X pins σ H1 s' → s'.heap.get? f = some (PySem.W.kla_obj "<lambda>" (X.env.qual ++ "<lambda>") params body scope (cloFrom X.env.cells scope.names []) pm c' ctv) → f ∉ frs X.stack → ExtN H H1 → (∀ a ps, H a = some (.tbl ps) → ∃ more, H1 a = some (.tbl (ps ++ more))) → TabS H1 P (X.env.qual ++ "<lambda>") → (∀ a, a ≠ P → ∀ q, TabS H a q → TabS H1 a q) →
      H1 f = none → H1 c' = some (CodeO c' (X.env.qual ++ "<lambda>")) → Q (.ref f) s') :
    wpAny (model X.prog X.w) X.A (eval (.Lambda params body scope pos) X.env) Q E s := by
  obtain ⟨ps, hP, ht, ha⟩ := hT
  refine PySem.W.kla_eval hdef ?_
  have bP : s.heap.BuiltinsAt X.mg P := TB.bm.keeps I.bk
  have hP' : s.heap.get? P = some { cls := .none, data := .fields ps } := I.hok P _ hP
  have nofr : ∀ f, s.heap.objs.size ≤ f → f ∉ frs X.stack := fun f hf z => by
    rcases List.mem_cons.mp (I.stkSub _ z) with e | e
    · have h1 := I.lt
      rw [← e] at h1
      exact absurd hf (Nat.not_le.mpr h1)
    · exact I.nofs hf e
  cases hc : codeAmong pos ps.toList with
  | none =>
    refine PySem.W.kla_makeFunction (mg := X.mg) (c := c) (P := P) (ps := ps) (closure_ok hfr) I.ok.glob (I.mod.glob.keeps I.bk) hcode (TB.code.keeps I.bk) hP' ht hc TB.gP bP fun c' ctv h' tk hx hge hlt hrec htb => ?_
    obtain ⟨c2, oc, vs, t, e2, hoc, hd, hv⟩ := hrec
    cases e2
    have hsz : s.heap.objs.size ≤ h'.objs.size := Nat.le_trans hge (Nat.le_of_lt hlt)
    have nC : H c' = none := I.hok.fresh hge
    have I1 := inv_table (t' := tk) (more := #[rawInt pos.line, rawInt pos.col, .ref c']) (h' := h'.push (PySem.W.kla_obj "<lambda>" (X.env.qual ++ "<lambda>") params body scope (cloFrom X.env.cells scope.names []) ((X.mg "__name__").getD .none) c' ctv)) I hP (fun b o hb e => Heap.get?_push_of_some _ (hx b o hb e)) (Heap.get?_push_of_some _ htb) hge ⟨oc, vs, t, Heap.get?_push_of_some _ hoc, hd, hv⟩
    have hE : ExtN H (upd (upd H P (.tbl (ps ++ #[rawInt pos.line, rawInt pos.col, .ref c']))) c' (CodeO c' (X.env.qual ++ "<lambda>"))) := fun b o e n => by
      rw [upd_ne (ne_of_none e nC), upd_ne (fun z => n ps (Option.some.inj (e.symm.trans (by rw [z]; exact hP))))]
      exact e
    have eL : (ps ++ #[rawInt pos.line, rawInt pos.col, .ref c']).toList = ps.toList ++ [rawInt pos.line, rawInt pos.col, .ref c'] := by simp
    refine h h'.objs.size c' _ ctv _ _ I1 (Heap.get?_push_size _ rfl) (nofr _ hsz) hE (fun a qs e => ?_) ?_ (fun a hb q ⟨ps', a1, a2, a3⟩ => ?_) ?_ upd_same
    · by_cases hb : a = P
      · subst hb
        rw [hP] at e; cases e
        exact ⟨_, by rw [upd_ne (ne_of_none hP nC), upd_same]⟩
      · exact ⟨#[], by rw [upd_ne (ne_of_none e nC), upd_ne hb, e]; simp⟩
    · refine ⟨_, by rw [upd_ne (ne_of_none hP nC), upd_same], by rw [eL]; exact PySem.TriplesOk_snoc _ _ _ _ ht, fun p' cv hcv => ?_⟩
      rw [eL] at hcv
      rcases among_app _ ht hcv with z | z
      · obtain ⟨c0, e1, e2⟩ := ha p' cv z
        exact ⟨c0, e1, hE _ _ e2 codeO_ne⟩
      · exact ⟨c', z, upd_same⟩
    · refine ⟨ps', by rw [upd_ne (ne_of_none a1 nC), upd_ne hb]; exact a1, a2, fun p' cv hcv => ?_⟩
      obtain ⟨c0, e1, e2⟩ := a3 p' cv hcv
      exact ⟨c0, e1, hE _ _ e2 codeO_ne⟩
    · have n1 : h'.objs.size ≠ c' := Nat.ne_of_gt hlt
      have n2 : h'.objs.size ≠ P := Nat.ne_of_gt (Nat.lt_of_lt_of_le (Heap.lt_size hP') hsz)
      rw [upd_ne n1, upd_ne n2]
      exact I.hok.fresh hsz
  | some cv =>
    obtain ⟨c', e, hco⟩ := ha pos cv hc
    subst e
    refine PySem.W.kla_makeFunctionHit (mg := X.mg) (c := c) (P := P) (ps := ps) (closure_ok hfr) I.ok.glob (I.mod.glob.keeps I.bk) hcode (TB.code.keeps I.bk) hP' ht hc bP fun ctv h' tk hx hsz => ?_
    have I1 : Inv X pins σ H { s with heap := h'.push (PySem.W.kla_obj "<lambda>" (X.env.qual ++ "<lambda>") params body scope (cloFrom X.env.cells scope.names []) ((X.mg "__name__").getD .none) c' ctv), toks := tk } := I.kept fun b o e => Heap.get?_push_of_some _ (hx b o e)
    exact h h'.objs.size c' _ ctv H _ I1 (Heap.get?_push_size _ rfl) (nofr _ hsz) (ExtN.refl H) (fun a qs e => ⟨#[], by rw [e]; simp⟩) ⟨ps, hP, ht, ha⟩ (fun a hb q z => z) (I.hok.fresh hsz) hco
end
section
variable {T : Tab} {X : Cx} {pins : List (Addr × Obj)} {σ : L2.St} {H : Hp} {s : Shared} {l : Loc} {m : Mem} {fe : Ex}
/-- x(), in the def that got the lambda -/
theorem pe_actD {CXg : CXT} {Eg : XK} {Ng : List Str} {qg : Str} {sg : Scope} {g f c' : Addr} {cdg pm ctv : Value} {params : Arguments} {body : Expr} {scope : Scope} {k i : Nat} {a : Str} {pn : List (Addr × Obj)} {xe : Value → Shared → Prop} {W' : WX} {p1 p2 : Pos}
    (I : Inv X pins σ H s) (R : Rel T X.K l m σ H) (L : LamS X.env.scope scope) (hf : s.heap.get? f = some (PySem.W.kla_obj "<lambda>" (X.env.qual ++ "<lambda>") params body scope (cloFrom X.env.cells scope.names []) pm c' ctv)) (hfn : H f = none) (hfr : f ∉ frs X.stack)
    (hbind : bindArgs (PySem.W.kla_fn "<lambda>" (X.env.qual ++ "<lambda>") params body scope (cloFrom X.env.cells scope.names []) pm (.ref c') ctv) ⟨[], []⟩ = pure [])
    (tk : Takes ((cxOf CXg X.prog X.w X.K X.mg X.base Ng qg sg g cdg X.A X.stack s H Eg).tr pn xe) W') (hr : Room (k + 1) (X.A.deeper (envOfC qg sg s.heap.objs.size g cdg)))
    (hbody : ∀ (A : Around) (outer : List Env) (s : Shared) (H : Hp) (E : XK) (f c' : Addr) (B : Hp), Room k (A.deeper (lamEnv X scope s.heap.objs.size f c')) → Takes (lamCx X A outer s H E scope f c') (fun cls d _ H => E cls d H) → DE (T.v [] B) (lamCx X A outer s H E scope f c') (fun cls d _ H => E cls d H) body fe)
    (hN : Ng[i]? = some a) (hv : Vis sg a) (hd : (a == ("__debug__" : Str)) = false := by decide) (hcd : (a == ("__classdict__" : Str)) = false := by decide) :
    PE ((cxOf CXg X.prog X.w X.K X.mg X.base Ng qg sg g cdg X.A X.stack s H Eg).tr pn xe) (.Call (.Name a p1) [] [] p2)
      (fun σZ HZ Q => σZ[i]? = some (some (.ref f)) ∧ HZ c' = some (CodeO c' (X.env.qual ++ "<lambda>")) ∧ tD (T.v [] H) X.K W' (eAct fe l) σZ HZ Q) := by
  refine ⟨fun pinsZ sZ σZ HZ Q IZ ⟨hs, hc, lZ, mZ, RZ, qZ⟩ => ?_⟩
  refine wpAny_Call_Name_kw (thn ((pe_var (pos := p1) (i := i) hN hv hd hcd).run pinsZ sZ σZ HZ (fun v H1 => v = .ref f ∧ H1 = HZ) IZ ⟨.ref f, hs, rfl, rfl⟩) fun u s1 ⟨v, H1, I1, r1, ev, eH⟩ => ?_)
  subst ev
  rw [eH] at I1
  obtain rfl : u = Value.ref f := r1
  have of1 := I1.base.keep f _ hf hfn hfr (fun z => nomatch (show f ∈ ([] : List Addr) from z))
  refine PySem.W.callWith_F0 ⟨_, _, _, _, of1⟩ ?_
  obtain ⟨⟨oc, vs, t, hoc, hdc, hvc⟩, _, _⟩ := I1.hok c' _ hc
  have rc : codeAny (model X.prog X.w) (X.A.deeper (envOfC qg sg s.heap.objs.size g cdg)) (.call (.ref f) ⟨[], []⟩) (CR (L2.CX X.prog X.w) (envOfC qg sg s.heap.objs.size g cdg :: X.stack) X.prog X.w HZ s1 Q (WE W' σZ)) s1 := by
    refine PySem.W.kla_callFunE hr.depth of1 rfl L.co L.gen rfl ⟨c', oc, vs, t, rfl, hoc, hdc, hvc⟩ ?_
    rw [hbind]
    refine wpAny_pure (wpAny_newFunctionEnv (fun y hy => (L.own y hy).2) (fun y hy => absurd hy (by simp)) (fun h₁ hns hsb => ⟨I1.nolimit.fresh _ hsb, ?_⟩) L.kind)
    show codeAny _ _ (.expr body (lamEnv X scope s1.heap.objs.size f c')) _ _
    have kp : ∀ b o, s1.heap.get? b = some o → h₁.get? b = some o := fun b o e => hsb.extBut b o (Nat.ne_of_lt (Heap.lt_size e)) (Heap.get?_push_of_some _ e)
    have J := lam_start2 (E := WE W' σZ) (f := f) (c' := c') (tk := s1.toks + ([] : List (Str × Value)).length) I L I1.env0 hr.hd I1.base hns kp
    have tk0 : Takes (lamCx X (X.A.deeper (envOfC qg sg s.heap.objs.size g cdg)) (envOfC qg sg s.heap.objs.size g cdg :: X.stack) s1 HZ (WE W' σZ) scope f c') (fun cls d _ H => WE W' σZ cls d H) :=
      takes_of (E₁ := fun e' s'' => L2.CX X.prog X.w (envOfC qg sg s.heap.objs.size g cdg :: X.stack) HZ s1 (WE W' σZ) e' s'') rfl rfl rfl rfl
    have Rb : Rel (T.v [] HZ) X.K (roL l) mZ σ HZ := R.block (RZ.stay.sub fun a z => by simpa using z) (RZ.mem.v T.ι T.B) []
    refine PySem.W.kla_codeExpr (wpAny_mono ((hbody _ _ s1 HZ (WE W' σZ) f c' HZ (hr.deeper _) tk0).run [] _ σ HZ Q J ⟨roL l, mZ, Rb, ?_⟩) (fun v s' hq => ?_) fun e s' hq => hq)
    · unfold eAct at qZ
      generalize hz : fe (roL l) mZ = z at qZ
      cases z with
      | ok d l' m' =>
        intro H' mo R' v rv
        exact qZ H' mo (RZ.call (R'.stay.sub fun a z => by simpa using z) (R'.mem.v [] H)) v (rv.v [] H)
      | ex c fs l' m' =>
        intro cls dd H' mo R' x
        exact qZ cls dd H' mo (RZ.call (R'.stay.sub fun a z => by simpa using z) (R'.mem.v [] H)) (x.v [] H)
      | bad => exact qZ.elim
    · obtain ⟨w', H', J', rv, q⟩ := hq
      exact ⟨w', H', J'.os, J'.bare, J'.base, J'.hok, rv, q⟩
  refine wpAny_call (codeAny_mono rc fun r s' hq => ?_)
  cases r with
  | error e => exact passAt tk σZ pinsZ HZ s1 e s' I1 hq
  | ok fl =>
    cases fl with
    | ret u => exact I1.after hq
    | next => exact False.elim hq
    | brk => exact False.elim hq
    | cont => exact False.elim hq
/-- what is known of the def that asks lambdas -/
structure AskOk (T : Tab) (X : Cx) (x a : Str) (g : Addr) (Ng : List Str) (bg : List Stmt) (sg : Scope) (hs : List (List (Nat × Bool) × HdD)) (els : D) : Prop where
  run : ∃ (pg : Arguments) (dV kV doc pm cdv ct oc : Value) (an od : Option Addr) (osl : Array (Option Value)), X.K.lookup g = some ⟨oc, od, .func (PySem.W.fnOf x x pg bg sg dV kV doc pm an cdv ct), osl⟩ ∧ PySem.W.codeIn X.K cdv x = true ∧ L2.Binds X.K (PySem.W.fnOf x x pg bg sg dV kV doc pm an cdv ct) [a] []
  S : FnScope Ng [a] sg
  n0 : Ng[0]? = some a
  vis : Vis sg a
  body : ∃ (p1 p2 p3 p8 p9 : Pos) (h₀ : ExceptHandler) (hds : List ExceptHandler) (ee : Expr) (v : V), bg = [.Try [.Expr (.Call (.Name a p1) [] [] p2) p3] (h₀ :: hds) [] [] p8, .Return (some ee) p9] ∧ (∀ Z : Cx, PE Z ee (tC v)) ∧ (∀ H, Rep T X.K H v els) ∧
    ∀ (cdv : Value) (s : Shared) (H : Hp), ∃ lh, HsOk (T.v [] H) (cxOf C8.CX0 X.prog X.w X.K X.mg X.base Ng x sg g cdv X.A X.stack s H C8.E0).nox (h₀ :: hds) lh hs
theorem de_ref {W : WX} {x a : Str} {g c P : Addr} {k : Nat} {bg : List Stmt} {sg : Scope} {Ng : List Str} {params : Arguments} {body : Expr} {scope : Scope} {p lpos pos : Pos} {hs : List (List (Nat × Bool) × HdD)} {els : D}
    (hg : Gl X x) (hm : X.mg x = some (.ref g)) (hk : PySem.W.keepIn X.K (.ref g) = true) (ask : AskOk T X x a g Ng bg sg hs els)
    (TB : TabB X.base X.mg c P) (hcode : X.env.code = .ref c) (hP : P ∈ T.ts) (hq : T.tq P = X.env.qual ++ "<lambda>") (hr : Room (k + 2) X.A) (L : LamS X.env.scope scope) (hdef : defaultsOf params X.env = ([], []))
    (hbind : ∀ (q : Str) (cl : List (Str × Addr)) (pm cv ctv : Value), bindArgs (PySem.W.kla_fn "<lambda>" q params body scope cl pm cv ctv) ⟨[], []⟩ = pure [])
    (hbody : ∀ (A : Around) (outer : List Env) (s : Shared) (H : Hp) (E : XK) (f c' : Addr) (B : Hp), Room k (A.deeper (lamEnv X scope s.heap.objs.size f c')) → Takes (lamCx X A outer s H E scope f c') (fun cls d _ H => E cls d H) → DE (T.v [] B) (lamCx X A outer s H E scope f c') (fun cls d _ H => E cls d H) body fe)
    (hdb : (x == ("__debug__" : Str)) = false := by decide) (hd : (a == ("__debug__" : Str)) = false := by decide) (hcd : (a == ("__classdict__" : Str)) = false := by decide) :
    DE T X W (.Call (.Name x p) [.Lambda params body scope lpos] [] pos) (eRef Ng.length fe hs els) := by
  refine ⟨fun pins s σ H Q I ⟨l, m, R, q⟩ => ?_⟩
  refine wpAny_Call_Name_kw (ld_glob I hg hm ?_ hdb)
  refine PySem.W.callWith_K (h₀ := X.base) I.ok.mod.kin hk ?_ (by rfl) (by rfl)
  show wpAny _ _ (spliced ((false, eval (.Lambda params body scope lpos) X.env) :: backTo pos (starEach [] X.env))) _ _ s
  refine Calls.spliced_cons (lam_make4 I TB hcode (by rw [← hq]; exact R.mem.tb P hP) hdef (L.has I.ok) fun f c' pm' ctv H1 s' I1 hf hfr hE htb hTP hTo hfn hco => ?_)
  refine Calls.spliced_nil ⟨I1.kIn, ?_⟩
  have st : Stay T.tq [] H H1 := ⟨fun a o e _ nt => hE a o e nt, htb, fun b z => by
    by_cases hb : b = P
    · subst hb; rw [hq]; exact hTP
    · exact hTo b hb _ z⟩
  have R1 := R.stayed st
  have mo1 : Mono H H1 := st.mono0
  obtain ⟨⟨pg, dV, kV, doc, pm, cdv, ct, oc, an, od, osl, lk, hcg, hb⟩, Sg, hNg, hva, p1, p2, p3, p8, p9, h₀, hds, ee, v, ebg, hee, hels, hhs⟩ := ask
  subst ebg
  obtain ⟨lh, hh⟩ := hhs cdv s' H1
  have rc : codeAny (model X.prog X.w) X.A (.call (.ref g) ⟨[.ref f], []⟩) (CR C8.CX0 X.stack X.prog X.w H1 s' Q C8.E0) s' := by
    refine run_ofS (N := Ng) (ps := [a]) (us := [.ref f]) (vs := [.ref f]) lk hcg Sg hr I1.env0 (hb s' [.ref f] I1.kIn rfl) (.cons rfl .nil) rfl fun hr' => ?_
    have hp := pss_cons (ps_try_named (body := [.Expr (.Call (.Name a p1) [] [] p2) p3]) (X := (cxOf C8.CX0 X.prog X.w X.K X.mg X.base Ng x sg g cdv X.A X.stack s' H1 C8.E0).nox) (pos := p8) (Wout := fun _ _ _ _ => False)
      (tb := fun W' D σZ HZ => σZ[0]? = some (some (.ref f)) ∧ HZ c' = some (CodeO c' (X.env.qual ++ "<lambda>")) ∧ tS (T.v [] H1) X.K W' (sDrop (eAct fe l)) D σZ HZ) rfl rfl Sg.nd takes0 (fun W' pn xe tk _ => ?_) hh.hdsN) (pss_one (ps_ret (pos := p9) (hee _)))
    · refine ⟨_, hp.nox, ?_⟩
      have sl0 : (L2.start Ng [V.ref f])[0]? = some (some (V.ref f)) := rfl
      refine ⟨sl0, hco, List.replicate Ng.length none, m, ⟨?_, fun i t e => ?_, fun i j t1 t2 b _ e => ?_, R1.mem.v [] H1, .refl⟩, ?_⟩
      · have hlt := (List.getElem?_eq_some_iff.mp hNg).1
        unfold L2.start
        simp
        omega
      · rw [List.getElem?_replicate] at e
        split at e <;> cases e
      · rw [List.getElem?_replicate] at e
        split at e <;> cases e
      · unfold eRef at q
        unfold sDrop eAct
        generalize fe (roL l) m = z at q
        have back : ∀ {lz : Loc} {m' : Mem} {σ' : L2.St} {H' : Hp}, Rel (T.v [] H1) X.K lz m' σ' H' → Rel T X.K l m' σ H' := fun {lz m' σ' H'} R' => R1.call (R'.stay.sub fun a z => by simpa using z) (R'.mem.v T.ι T.B)
        cases z with
        | ok d l' m' =>
          intro σ' H' mo R'
          exact q H' (mo1.trans mo) (back R') v (hels H')
        | ex c fs l' m' =>
          dsimp only at q
          have q2 : postS (T.v [] H1) X.K (fun _ _ _ _ => False) (tryH hs c fs (List.replicate Ng.length none) m') { nx := fun σ' H' => tRet (tC v) { nx := fun _ H' => Q .non H', rt := Q } σ' H', rt := Q } H1 := by
            generalize tryH hs c fs (List.replicate Ng.length none) m' = z2 at q
            cases z2 with
            | rt d lz m2 =>
              intro v σ' H' mo R' rv
              exact q H' (mo1.trans mo) (back R') v (rv.v T.ι T.B)
            | _ => exact q.elim
          exact try_post (X := (cxOf C8.CX0 X.prog X.w X.K X.mg X.base Ng x sg g cdv X.A X.stack s' H1 C8.E0).nox) (T := T.v [] H1) hh q2
        | bad => exact q.elim
    · have hN0 : Ng[0]? = some a := hNg
      have act := pe_actD (Ng := Ng) (CXg := C8.CX0) (Eg := C8.E0) (W' := W') (i := 0) (pn := pn) (xe := xe) (p1 := p1) (p2 := p2) I1 R1 L hf hfn hfr (hbind _ _ _ _ _) tk hr' hbody hN0 hva hd hcd
      exact pss_weak (pss_one (ps_expr (pos := p3) act)) fun D σ2 H2 ⟨e1, e2, lz, mz, Rz, qz⟩ => ⟨e1, e2, lz, mz, Rz, (postS.then qz).imp fun d l1 m1 H3 mo R3 q3 v rv => q3.2 σ2 H3 .refl R3⟩
  refine wpAny_call (codeAny_mono rc fun r s2 hq => ?_)
  cases r with
  | error e => exact (show False from hq).elim
  | ok fl =>
    cases fl with
    | ret u => exact I1.after hq
    | next => exact False.elim hq
    | brk => exact False.elim hq
    | cont => exact False.elim hq
end
end DS
end

section
set_option Elab.async false
set_option linter.all false
set_option maxRecDepth 100000
set_option maxHeartbeats 2000000
namespace DS
open PySem PySem.Spec PyProof.Rows L2
/-! ### the law's end -/
/-- no list is among what is looked at -/
def noLst (K : PySem.W.Frag) : Bool := K.all fun p => !decide (p.2.cls = .type "list")
theorem noLst_ok {K : PySem.W.Frag} (h : noLst K = true) {a : Addr} {o : Obj} (e : K.lookup a = some o) (c : o.cls = .type "list") : False := by
  have z := List.all_eq_true.mp h (a, o) (lookup_mem e)
  simp [c] at z
abbrev CXF : CXT := fun _ _ _ _ _ _ => False
/-- a list that no one may change, in its place -/
def spLock (sp : Sp) : Sp := fun vs H Q _ => ∃ a xs, vs = [.ref a] ∧ Rd H a (.lst xs) ∧ ∀ H1 : Hp, (∃ o, H1 a = some (.frz o (.lst xs))) → (∀ b, b ≠ a → H1 b = H b) → sp vs H1 Q fun _ _ _ => False
theorem fn_lock {P : Program} {w : World} {K : PySem.W.Frag} {mg : Str → Option Value} {base : Heap} {k : Nat} {f : Addr} {fd : FuncData} {x : Str} {sp : Sp} (F : FnOk P w K mg base (L2.CX P w) k f fd [x] sp) : FnOk P w K mg base CXF k f fd [x] (spLock sp) := by
  refine ⟨fun vs H Q E ⟨a, xs, e, _⟩ => by rw [e]; rfl, fun A outer s H args us vs Q E hr e0 hb hv ⟨a, xs, ev, hd, hs⟩ => ?_⟩
  have key : ∀ H1 : Hp, (∃ o, H1 a = some (.frz o (.lst xs))) → (∀ b, b ≠ a → H1 b = H b) → H a ≠ none → (∀ o u, H a = some (.frz o u) → H1 a = some (.frz o u)) → (∀ ys, H a ≠ some (.tup ys)) → (∀ ps, H a ≠ some (.tbl ps)) → HOk P w H1 s.heap → codeAny (model P w) A (.call (.ref f) args) (CR CXF outer P w H s Q E) s := by
    intro H1 h1 h2 h3 h4 h5 h6 hok
    have back : ∀ b, H b = none → H1 b = none := fun b e => by rw [h2 b (fun z => h3 (z ▸ e))]; exact e
    have e1 : Env0 P w K mg base A outer s H1 := ⟨e0.frames, e0.mod, fun b o e => ⟨(e0.bs b o e).1, back b (e0.bs b o e).2⟩, e0.bsz, e0.funs, fun b hb => back b (e0.frf b hb), hok, e0.bare⟩
    refine codeAny_mono (F.run A outer s H1 args us vs Q _ hr e1 hb hv (hs H1 h1 h2)) fun r s' q => ?_
    cases r with
    | error e => obtain ⟨_, _, _, _, _, _, _, _, _, _, _, _, z⟩ := q; exact z.elim
    | ok fl =>
      cases fl with
      | next => exact q
      | brk => exact q
      | cont => exact q
      | ret u =>
        obtain ⟨v, H', os, bare, un, hok', rv, q⟩ := q
        refine ⟨v, H', os, bare, ⟨fun b o e n => un.keep b o e (back b n), fun b o e n => un.slot b o e (back b n), fun b o e n => un.free b o e (back b n), un.there, fun b ys e => ?_, fun b o u e => ?_, fun b ps e => ?_⟩, hok', rv, q⟩
        · exact un.tups b ys (by rw [h2 b (fun z => h5 ys (z ▸ e))]; exact e)
        · refine un.frzs b o u ?_
          by_cases hb : b = a
          · rw [hb] at e ⊢; exact h4 o u e
          · rw [h2 b hb]; exact e
        · exact un.tbls b ps (by rw [h2 b (fun z => h6 ps (z ▸ e))]; exact e)
  rcases hd with hd | ⟨o, hd⟩
  · have x := e0.hok a _ hd
    obtain ⟨z, its, n, r, eo⟩ := id x
    refine key (upd H a (.frz { cls := .type "list", data := .seq its.toArray n } (.lst xs))) ⟨_, upd_same⟩ (fun b hb => upd_ne hb) (by rw [hd]; simp) (fun o u e => by rw [hd] at e; cases e) (fun ys e => by rw [hd] at e; cases e) (fun ps e => by rw [hd] at e; cases e) fun b u e => ?_
    by_cases hb : b = a
    · subst hb
      rw [upd_same] at e
      cases e
      exact ⟨eo, z, its, n, r, eo⟩
    · rw [upd_ne hb] at e
      refine (e0.hok b u e).stay (fun c v _ q => q) (fun c q => ?_) fun c ys q => ?_
      · rw [upd_ne (fun z => by rw [z, hd] at q; cases q)]; exact q
      · rw [upd_ne (fun z => by rw [z, hd] at q; cases q)]; exact q
  · exact key H ⟨o, hd⟩ (fun _ _ => rfl) (by rw [hd]; simp) (fun _ _ e => e) (fun ys e => by rw [hd] at e; cases e) (fun ps e => by rw [hd] at e; cases e) e0.hok
/-- what the head tells, and the tables of code objects -/
structure HdX (fa : List He.Fa) (fn : List He.DefD) (tf : List He.Defn) (ex : PySem.W.Frag → Bool) (w : World) (K : PySem.W.Frag) (mg : Str → Option Value) (base : Heap) : Prop extends Hd fa fn ex w K mg base where
  tb : ∀ p ∈ tf, LamX.TabB base mg (He.cT K p).1 (He.cT K p).2
theorem reps_ints {T : Tab} {K : PySem.W.Frag} {H : Hp} : ∀ ns : List Int, Reps T K H (ns.map V.int) (ns.map D.int)
  | [] => .nil
  | n :: ns => .cons (.int n) (reps_ints ns)
theorem walk_law {l : PySem.W.OpenLaw} {n k m i j : Nat} {q : Program} {loose : List Str} {XP : (Str → Option Value) → Heap → Prop} {d : DefRec} {fa : List He.Fa} {fn : List He.DefD} {tf : List He.Defn} {ex : PySem.W.Frag → Bool} {x : Str} {G : List D → Mem → DS.RC} {TT : PySem.W.Frag → DS.Tab} {dl : He.DefD} {name qual : Str} {params : Arguments} {body : List Stmt} {scope : Scope}
    (hn : l.most = some n) (hn2 : n ≤ sizeLine) (hdf : d.params.defaults = []) (hr : Room k callerA) (hdn : d.name = ("law" : Str))
    (hi : fa[i]? = some (.glo "law")) (hj : fn[j]? = some dl) (hdl : dl = ⟨("law", none), name, qual, params, body, scope, [], []⟩)
    (hbi : ∀ (kV doc pm : Value) (an : Option Addr) (cdv ct : Value) (us : List Value), us.length = [x].length → bindArgs (PySem.W.fnOf name qual params body scope .none kV doc pm an cdv ct) ⟨us, []⟩ = pure ([x].zip us))
    (hex : ∀ K, ex K = true → noLst K = true) (hts : ∀ K, (TT K).ts = tf.map fun p => (He.cT K p).2) (hγ : ∀ K, (TT K).γ = [])
    (hc : ∀ (w : World) (K : PySem.W.Frag) (mg : Str → Option Value) (base : Heap), HdX fa fn tf ex w K mg base → FnD (TT K) l.prog w K mg base k (He.fAd K ("law", none)) (fdOf K ("law", none)) [x] G)
    (hG : ∀ ns : List Int, ns.length ≤ n → (∀ z ∈ ns, Builtin.Int.intBits z ≤ 1048576) → ∃ m, G [.lst (ns.map .int)] [] = .ok (.bl true) m) :
    PySem.W.WalkO q loose XP (He.hookX m fa fn [] tf ex).says l.row.toRowW d [] (fun f vs => PySem.call f vs) := by
  refine LamX.walk_ofTsE (CX := fun _ => CXF) (x := x) hn hn2 hdf hr (fun w mg f h Y G0 hmg => ?_) (fun _ _ _ _ _ z => z)
  obtain ⟨K, KX, c⟩ := Y
  rw [hdn] at hmg
  have e : f = He.ga K "law" := by
    have := He.glo_ok KX G0 (c.t.d.fact i hi)
    rw [hmg] at this
    cases this; rfl
  subst e
  obtain ⟨fd, U⟩ := c.t.d.def_ j hj
  subst hdl
  have U : FunD K name qual params body scope [] [] (He.fAd K ("law", none)) fd := U
  have efd : fdOf K ("law", none) = fd := by
    obtain ⟨oc, od, dV, kV, doc, pm, an, cdv, ct, osl, e, lk, r⟩ := U.ex
    unfold fdOf
    rw [lk]
  have b := FunD.bindsA (ps := [x]) U hbi
  refine ⟨K, KX, fd, tf.map (He.cT K), spLock (spD (TT K) K G), ?_, ?_, ?_, fun s v => b s [v] rfl, fun H a ns hl hbits hH hS => ?_, fun base hK hN hTB => ?_⟩
  · intro p hp
    obtain ⟨q, hq, rfl⟩ := List.mem_map.mp hp
    exact c.empty q hq
  · intro p hp
    obtain ⟨q, hq, rfl⟩ := List.mem_map.mp hp
    exact c.out q hq
  · intro p hp
    obtain ⟨q, hq, rfl⟩ := List.mem_map.mp hp
    exact PySem.W.codeHd_of_K KX (c.hd q hq)
  · rcases hS with hS | ⟨o, its, n', hk, hcl, _⟩
    · refine ⟨a, _, rfl, hS, fun H1 h1 h2 => ?_⟩
      obtain ⟨o, ho⟩ := h1
      obtain ⟨m', eG⟩ := hG ns hl hbits
      refine ⟨[], [.lst (ns.map .int)], [], .cons (.lst ⟨o, ho⟩ (reps_ints ns)) .nil, ⟨rfl, List.nodup_nil, fun P hP => ?_, fun k a d h => by simp at h⟩, ?_⟩
      · have hP : P ∈ (TT K).ts := hP
        rw [hts] at hP
        obtain ⟨q, hq, rfl⟩ := List.mem_map.mp hP
        refine LamX.TabS.nil ?_
        have hq' := hH _ (List.mem_map.mpr ⟨q, hq, rfl⟩)
        rw [h2 _ (fun z => ?_)]
        · exact hq'
        · rw [← z] at hS
          rcases hS with hS | ⟨_, hS⟩ <;> rw [hq'] at hS <;> cases hS
      · rw [eG]
        intro v H' _ _ rv
        cases rv
        rfl
    · exact (noLst_ok (hex K c.more) hk hcl).elim
  · have h := hc w K mg base ⟨⟨hK, hN, c.t.d, c.more⟩, fun p hp => hTB _ (List.mem_map.mpr ⟨p, hp, rfl⟩)⟩
    rw [efd] at h
    exact fn_lock h
end DS
end

section
set_option Elab.async false
set_option linter.all false
set_option maxRecDepth 100000
set_option maxHeartbeats 2000000
namespace DS
open PySem PySem.Spec PyProof.Rows L2
section
variable {T : Tab} {X : Cx} {W : WX} {pos p : Pos} {e a b : Expr} {l : Loc} {m : Mem} {σ : L2.St} {H : Hp} {k : Nat}
theorem intsD_eq : ∀ {ds : List D} {ns : List Int}, intsD ds = some ns → ds = ns.map .int
  | [], ns, h => by cases h; rfl
  | d :: ds, ns, h => by
    cases d <;> first | (cases h; done) | skip
    rename_i i
    obtain ⟨ms, h1, h2⟩ := Option.map_eq_some_iff.mp (show (intsD ds).map (i :: ·) = some ns from h)
    subst h2
    rw [intsD_eq h1]; rfl
theorem toPys_ints : ∀ ns : List Int, toPys (ns.map .int) = ns.map .int
  | [] => by simp [toPys]
  | n :: ns => by simp [toPys, toPy, toPys_ints ns]
theorem dats_ints (k : Nat) : ∀ ns : List Int, D.dats k (ns.map .int) = true
  | [] => by simp [D.dats]
  | n :: ns => by simp [D.dats, D.dat, dats_ints k ns]
theorem alikeAll_ints (ns : List Int) : PySem.W.AlikeAll (ns.map .int) := by
  refine ⟨fun x hx y hy => ?_, fun x hx => ?_⟩
  · obtain ⟨i, _, rfl⟩ := List.mem_map.mp hx
    obtain ⟨j, _, rfl⟩ := List.mem_map.mp hy
    rfl
  · obtain ⟨i, _, rfl⟩ := List.mem_map.mp hx
    exact fun z => nomatch z
theorem depth_ints : ∀ ns : List Int, PyData.depthAll (ns.map .int) = 0
  | [] => by simp [PyData.depthAll]
  | n :: ns => by simp [PyData.depthAll, PyData.depth, depth_ints ns]
theorem reads_int {h : Heap} {v : Value} {i : Int} {bs : List Addr} (r : Reads h v (.int i) bs) : ∃ t, v = .int i t := by
  cases r with
  | int i t => exact ⟨t, rfl⟩
theorem c_best {nm : String} {f : Int → Int → Int} (hr : Room k X.A) (hc : X.calm = true)
    (hL : ∀ (s : Shared) (l : Addr) (vs : Array Value) (x : PyData) (xs : List PyData) (as : List Addr) (n : Int) (ns : List Int) (Q E : Value → Shared → Prop), s.heap.IsList l vs → ReadsAll s.heap vs.toList ((n :: ns).map .int) as →
      (∀ v h' tk t, v = .int (ns.foldl f n) t → (∀ b o, s.heap.get? b = some o → h'.get? b = some o) → Q v { s with heap := h', toks := tk }) → wpAny (model X.prog X.w) X.A (call (.builtin nm) [.ref l]) Q E s)
    (hT : ∀ (s : Shared) (l : Addr) (vs : Array Value) (x : PyData) (xs : List PyData) (as : List Addr) (n : Int) (ns : List Int) (Q E : Value → Shared → Prop), s.heap.IsTuple l vs → ReadsAll s.heap vs.toList ((n :: ns).map .int) as →
      (∀ v h' tk t, v = .int (ns.foldl f n) t → (∀ b o, s.heap.get? b = some o → h'.get? b = some o) → Q v { s with heap := h', toks := tk }) → wpAny (model X.prog X.w) X.A (call (.builtin nm) [.ref l]) Q E s) : CallR X (.builtin nm) (rB T X.K (bestI f)) := by
  intro pins s σ H xs us Q I r ⟨ds, d, rs, e, q⟩
  unfold bestI at e
  split at e
  · rename_i ys
    split at e
    · rename_i n ns hns
      cases e
      obtain ⟨v, ev, rv⟩ := rs.one
      obtain ⟨a, xs, e3, hs, rx⟩ := rv.r.lst
      subst ev e3
      rw [Vals.ref1 r]
      have hs : SqL X.K H a xs := .inl hs
      obtain ⟨its, rv2, hl, _⟩ := I.list hs
      have hy := intsD_eq hns
      subst hy
      have dp := (Reps.dp (n := 8) rx (dats_ints 8 _)).1
      obtain ⟨as, ra⟩ := Dp.readsAll I _ _ _ dp rv2
      rw [toPys_ints] at ra
      exact hL s a its.toArray (.int n) (ns.map .int) as n ns _ _ hl.isList (by simpa using ra) fun v h' tk t ev hk => ⟨.int _, H, I.kept hk, ⟨t, ev⟩, q _ H .refl (.int _)⟩
    · cases e
  · rename_i ys
    split at e
    · rename_i n ns hns
      cases e
      obtain ⟨v, ev, rv⟩ := rs.one
      obtain ⟨a, xs, e3, hs, rx⟩ := rv.r.tup
      subst ev e3
      rw [Vals.ref1 r]
      obtain ⟨its, rv2, hl, _⟩ := I.tuple hs
      have hy := intsD_eq hns
      subst hy
      have dp := (Reps.dp (n := 8) rx (dats_ints 8 _)).1
      obtain ⟨as, ra⟩ := Dp.readsAll I _ _ _ dp rv2
      rw [toPys_ints] at ra
      exact hT s a its.toArray (.int n) (ns.map .int) as n ns _ _ hl (by simpa using ra) fun v h' tk t ev hk => ⟨.int _, H, I.kept hk, ⟨t, ev⟩, q _ H .refl (.int _)⟩
    · cases e
  · cases e
theorem units_ints {n : Int} {ns : List Int} (hr : Room (k + 1) X.A) : X.A.units + 1 + PyData.depthAll (PyData.int n :: ns.map .int) < cLine := by
  have h := depth_ints (n :: ns)
  rw [List.map_cons] at h
  rw [h]
  have := hr.un
  omega
theorem c_max1 (hr : Room (k + 1) X.A) (hc : X.calm = true) : CallR X (.builtin "max") (rB T X.K maxI) :=
  c_best hr hc (fun s l vs x xs as n ns Q E hl ra h => PySem.W.max_list_data hr.hd hl (by simpa using ra) (alikeAll_ints (n :: ns)) (units_ints hr) fun i v h' tk bs hv rd hk => by
    rw [PySem.W.maxD_ints] at rd
    obtain ⟨t, ev⟩ := reads_int rd
    exact h v h' tk t ev hk)
  (fun s l vs x xs as n ns Q E hl ra h => PySem.W.max_tuple_data hr.hd hl (by simpa using ra) (alikeAll_ints (n :: ns)) (units_ints hr) fun i v h' tk bs hv rd hk => by
    rw [PySem.W.maxD_ints] at rd
    obtain ⟨t, ev⟩ := reads_int rd
    exact h v h' tk t ev hk)
theorem c_min1 (hr : Room (k + 1) X.A) (hc : X.calm = true) : CallR X (.builtin "min") (rB T X.K minI) :=
  c_best hr hc (fun s l vs x xs as n ns Q E hl ra h => PySem.W.min_list_data hr.hd hl (by simpa using ra) (alikeAll_ints (n :: ns)) (units_ints hr) fun i v h' tk bs hv rd hk => by
    rw [PySem.W.minD_ints] at rd
    obtain ⟨t, ev⟩ := reads_int rd
    exact h v h' tk t ev hk)
  (fun s l vs x xs as n ns Q E hl ra h => PySem.W.min_tuple_data hr.hd hl (by simpa using ra) (alikeAll_ints (n :: ns)) (units_ints hr) fun i v h' tk bs hv rd hk => by
    rw [PySem.W.minD_ints] at rd
    obtain ⟨t, ev⟩ := reads_int rd
    exact h v h' tk t ev hk)
/-! ### list(range(..)) -/
theorem reps_rg {K : PySem.W.Frag} (i j : Int) : Reps T K H (rgV i j) (rangeL i j) := by
  unfold rgV rangeL
  generalize List.range (j - i).toNat = ns
  induction ns with
  | nil => exact .nil
  | cons n ns ih => exact .cons (.int _) ih
theorem small_pow {i : Int} (h : small i = true) : -(2 ^ 62) ≤ i ∧ i < 2 ^ 62 := by
  unfold small at h
  simp only [Bool.and_eq_true, decide_eq_true_eq] at h
  omega
theorem df_rg1 {fe : Ex} {p2 pos2 : Pos} (hc : X.calm = true) (hg : Gl X "list") (hm : X.mg "list" = none) (hg2 : Gl X "range") (hm2 : X.mg "range" = none) (he : DE T X W e fe)
    (na : starEach [e] X.env = (false, eval e X.env) :: starEach [] X.env := by rfl) (na2 : starEach [Expr.Call (.Name "range" p2) [e] [] pos2] X.env = (false, eval (Expr.Call (.Name "range" p2) [e] [] pos2) X.env) :: starEach [] X.env := by rfl) :
    DF T X W (.Call (.Name "list" p) [.Call (.Name "range" p2) [e] [] pos2] [] pos) (eRg1 fe) :=
  pe_weak (pe_listRg hc hg hm (prg_1 hg2 hm2 he na) na2) fun σ H Q ⟨l, m, R, q⟩ => ⟨l, m, R, (post.bind q).imp fun d l1 m1 H1 mo R1 q1 v rv => by
    obtain ⟨d', ed, q2⟩ := post.lift q1.2
    unfold rg1 at ed
    split at ed
    · rename_i j
      split at ed
      · rename_i hj
        cases ed
        have s1 := small_pow hj.1
        refine ⟨j, RepR.int (.inl rv), ⟨by omega, by omega, s1.1, s1.2, by simpa using hj.2⟩, fun q hq => ?_⟩
        exact q2 _ (Grow.upd hq).mono (R1.grow (.upd hq)) q (.lst upd_same (reps_rg 0 j)) (R1.fresh hq)
      · cases ed
    · cases ed⟩
theorem df_rg2 {fa fb : Ex} {p2 pos2 : Pos} (hc : X.calm = true) (hg : Gl X "list") (hm : X.mg "list" = none) (hg2 : Gl X "range") (hm2 : X.mg "range" = none) (ha : DE T X W a fa) (hb : DE T X W b fb)
    (na : starEach [a, b] X.env = (false, eval a X.env) :: starEach [b] X.env := by rfl) (nb : starEach [b] X.env = (false, eval b X.env) :: starEach [] X.env := by rfl) (hp : (backTo pos2 (starEach [b] X.env)).any (·.1) = false := by rfl)
    (na2 : starEach [Expr.Call (.Name "range" p2) [a, b] [] pos2] X.env = (false, eval (Expr.Call (.Name "range" p2) [a, b] [] pos2) X.env) :: starEach [] X.env := by rfl) :
    DF T X W (.Call (.Name "list" p) [.Call (.Name "range" p2) [a, b] [] pos2] [] pos) (eRg2 fa fb) :=
  pe_weak (pe_listRg hc hg hm (prg_2 hg2 hm2 ha hb na nb hp) na2) fun σ H Q ⟨l, m, R, q⟩ => ⟨l, m, R, (post.bind q).imp fun d l1 m1 H1 mo R1 q1 v rv => ⟨l1, m1, R1, (post.bind q1.2).imp fun d2 l2 m2 H2 mo2 R2 q2 v2 rv2 => by
    obtain ⟨d', ed, q3⟩ := post.lift q2.2
    unfold rg2 at ed
    split at ed
    · rename_i i j
      split at ed
      · rename_i hj
        cases ed
        have s1 := small_pow hj.1
        have s2 := small_pow hj.2.1
        refine ⟨i, j, RepR.int (.inl rv), RepR.int (.inl rv2), ⟨s1.1, s1.2, s2.1, s2.2, hj.2.2⟩, fun q hq => ?_⟩
        exact q3 _ (Grow.upd hq).mono (R2.grow (.upd hq)) q (.lst upd_same (reps_rg i j)) (R2.fresh hq)
      · cases ed
    · cases ed⟩⟩
end
end DS
end

section
set_option Elab.async false
set_option linter.all false
set_option maxRecDepth 100000
set_option maxHeartbeats 2000000
namespace DS
open PySem PySem.Spec PyProof.Rows L2
/-! ### parts of a text, by places -/
def gDef : Expr := .Name "" ⟨0, 0, 0, 0⟩
def gChild : Expr → Nat → Expr
  | .List es _, i => es.getD i gDef
  | .Tuple es _ _, i => es.getD i gDef
  | .BinOp a _ b _, i => if i = 0 then a else b
  | .Call _ es _ _, i => es.getD i gDef
  | .ListComp e gs _ _, i => match gs with
    | ⟨_, it, _, _⟩ :: _ => if i = 0 then it else e
    | [] => e
  | _, _ => gDef
def gPath (e : Expr) : List Nat → Expr
  | [] => e
  | i :: is => gPath (gChild e i) is
def gVal : Stmt → Expr
  | .Assign _ e _ => e
  | .Return (some e) _ => e
  | .If t _ _ _ => t
  | .Expr e _ => e
  | _ => gDef
def lPar : Expr → Arguments
  | .Lambda p _ _ _ => p
  | _ => ⟨[], [], none, [], [], none, []⟩
def lBody : Expr → Expr
  | .Lambda _ b _ _ => b
  | _ => gDef
def lScope : Expr → Scope
  | .Lambda _ _ s _ => s
  | _ => ⟨.function, [], false, false, []⟩
def lamCB (sc : Scope) : Bool := decide (sc.kind = .function) && !sc.isCoroutine && !sc.isGenerator && sc.names.all fun y => !decide (y.2 = .local) && !decide (y.2 = .cell) && !decide (y.2 = .free)
theorem lamC_by {sc : Scope} (h : lamCB sc = true) : LamC sc := by
  unfold lamCB at h
  simp only [Bool.and_eq_true, Bool.not_eq_true', decide_eq_true_eq, decide_eq_false_iff_not, List.all_eq_true] at h
  exact ⟨h.1.1.1, h.1.1.2, h.1.2, fun y hy => ⟨(h.2 y hy).1.1, (h.2 y hy).1.2, (h.2 y hy).2⟩⟩
section
variable {fa : List He.Fa} {fn : List He.DefD} {ex : PySem.W.Frag → Bool} {w : World} {K : PySem.W.Frag} {mg : Str → Option Value} {base : Heap} {x y f : Str} {i : Nat} {v : Int}
theorem exm_ {b : Bool} (c : Hd fa fn ex w K mg base) (h : fa[i]? = some (.exm x y b)) : PySem.W.exmOne K (.ref (He.ga K x)) (.ref (He.ga K y)) = some b := He.exm_ok (c.d.fact i h)
theorem noat_ (c : Hd fa fn ex w K mg base) (h : fa[i]? = some (.noat x f)) : PySem.W.findIn K (.ref (He.ga K x)) f = some none := He.noat_ok (c.d.fact i h)
theorem cls_ (c : Hd fa fn ex w K mg base) (h : fa[i]? = some (.cls x)) : Cls K (He.ga K x) := He.cls_ok (c.d.fact i h)
theorem meth_ {m : Str} (c : Hd fa fn ex w K mg base) (h : fa[i]? = some (.meth x m)) : Meth K (He.ga K x) m (He.ma K (He.ga K x) m) := He.meth_ok (c.d.fact i h)
theorem mkr_ (c : Hd fa fn ex w K mg base) (h : fa[i]? = some (.mkr x)) : Mk K (He.ga K x) (He.ma K (He.ga K x) "__init__") := He.mkr_ok (c.d.fact i h)
theorem str_ {z : Str} (c : Hd fa fn ex w K mg base) (h : fa[i]? = some (.str x z)) : ∃ t, mg x = some (.str z t) := He.str_ok c.kin c.ns (c.d.fact i h)
end
theorem rep_str {T : Tab} {K : PySem.W.Frag} {H : Hp} {x : Str} {l : List Nat} (h : x = tx l := by rfl) (b : (l.all (fun c => decide (c < 1114112)) && decide (l.length ≤ 16777216)) = true := by decide) : Rep T K H (.str x) (.str l) := by
  rw [Bool.and_eq_true] at b
  rw [h]; exact .str l (by simpa using b.1) (of_decide_eq_true b.2)
/-- a def of the text, by its body; the code object known -/
theorem fnd_of {T : Tab} {P : Program} {w : World} {K : PySem.W.Frag} {mg : Str → Option Value} {base : Heap} {p : Str × Option Str} {name qual : Str} {params : Arguments} {body : List Stmt} {scope : Scope} {fd : FuncData} {N ps : List Str} {F : Es} {z k : Nat}
    (U : FunD K name qual params body scope [] [] (He.fAd K p) fd) (S : FnScope N ps scope) (hz : N.length = ps.length + z)
    (hb : ∀ (A : Around) (outer : List Env) (s : Shared) (H : Hp) (E : XK) (T' : Tab) (W : WX), (∃ γ, T' = T.w γ [] H) → Room k (A.deeper (envOfC qual scope s.heap.objs.size (He.fAd K p) (.ref (He.codeOf K p)))) → Takes (cxOf (L2.CX P w) P w K mg base N qual scope (He.fAd K p) (.ref (He.codeOf K p)) A outer s H E) W →
      PassesOwn (model P w) (A.deeper (envOfC qual scope s.heap.objs.size (He.fAd K p) (.ref (He.codeOf K p)))) (envOfC qual scope s.heap.objs.size (He.fAd K p) (.ref (He.codeOf K p))) (cxOf (L2.CX P w) P w K mg base N qual scope (He.fAd K p) (.ref (He.codeOf K p)) A outer s H E).xe →
      DSs T' (cxOf (L2.CX P w) P w K mg base N qual scope (He.fAd K p) (.ref (He.codeOf K p)) A outer s H E) W body F) : FnD T P w K mg base (k + 1) (He.fAd K p) fd ps (defD ps.length z F) := by
  obtain ⟨oc, od, dV, kV, doc, pm, an, cdv, ct, osl, rfl, lk, hcd, _, _⟩ := U.ex
  obtain ⟨c, ec⟩ := He.codeIn_ref hcd
  have e2 : He.codeOf K p = c := He.codeOf_eq lk ec
  subst ec
  subst e2
  exact fn_d lk hcd S hz (fun A outer s H E T' W hT hr tk hp => hb A outer s H E T' W hT hr tk hp)
/-- the def that asks lambdas, by the text -/
theorem ask_of {T : Tab} {X : Cx} {x a : Str} {g : Addr} {Ng : List Str} {pg : Arguments} {bg : List Stmt} {sg : Scope} {hs : List (List (Nat × Bool) × HdD)} {els : D} {fd : FuncData} (U : FunD X.K x x pg bg sg [] [] g fd)
    (hbi : ∀ (kV doc pm : Value) (an : Option Addr) (cdv ct : Value) (us : List Value), us.length = [a].length → bindArgs (PySem.W.fnOf x x pg bg sg .none kV doc pm an cdv ct) ⟨us, []⟩ = pure ([a].zip us)) (S : FnScope Ng [a] sg) (n0 : Ng[0]? = some a) (vis : Vis sg a)
    (body : ∃ (p1 p2 p3 p8 p9 : Pos) (h₀ : ExceptHandler) (hds : List ExceptHandler) (ee : Expr) (v : V), bg = [.Try [.Expr (.Call (.Name a p1) [] [] p2) p3] (h₀ :: hds) [] [] p8, .Return (some ee) p9] ∧ (∀ Z : Cx, PE Z ee (tC v)) ∧ (∀ H, Rep T X.K H v els) ∧
      ∀ (cdv : Value) (s : Shared) (H : Hp), ∃ lh, HsOk (T.v [] H) (cxOf C8.CX0 X.prog X.w X.K X.mg X.base Ng x sg g cdv X.A X.stack s H C8.E0).nox (h₀ :: hds) lh hs) : AskOk T X x a g Ng bg sg hs els := by
  refine ⟨?_, S, n0, vis, body⟩
  have b := U.bindsN hbi
  obtain ⟨oc, od, dV, kV, doc, pm, an, cdv, ct, osl, rfl, lk, hcd, hd, hk⟩ := U.ex
  exact ⟨pg, dV, kV, doc, pm, cdv, ct, oc, an, od, osl, lk, hcd, b⟩
/-- an exception's __init__, two fields -/
theorem fn_x2D {P : Program} {w : World} {K : PySem.W.Frag} {mg : Str → Option Value} {base : Heap} {x : Str} {f g : Str} {fs : List Str} {name qual : Str} {params : Arguments} {body : List Stmt} {scope : Scope} {fd : FuncData} {q1 q2 q3 q4 r1 r2 r3 r4 : Pos}
    (E : OexF K x fs) (hf : f ∈ fs) (hg : g ∈ fs) (U : FunD K name qual params body scope [] [] (He.ma K (He.ga K x) "__init__") fd) (hbd : body = [.Assign [.Attribute (.Name "self" q1) f q2] (.Name f q3) q4, .Assign [.Attribute (.Name "self" r1) g r2] (.Name g r3) r4]) (S : FnScope ["self", f, g] ["self", f, g] scope)
    (v0 : Vis scope "self") (v1 : Vis scope f) (v2 : Vis scope g) (hd1 : (f == ("__debug__" : Str)) = false := by decide) (hc1 : (f == ("__classdict__" : Str)) = false := by decide) (hd2 : (g == ("__debug__" : Str)) = false := by decide) (hc2 : (g == ("__classdict__" : Str)) = false := by decide) :
    FnOk P w K mg base (fun _ _ _ _ _ _ => False) 1 (He.ma K (He.ga K x) "__init__") fd ["self", f, g] (spX2 (He.ga K x) f g) := by
  obtain ⟨oc, od, dV, kV, doc, pm, an, cdv, ct, osl, rfl, lk, hcd, _, _⟩ := U.ex
  subst hbd
  exact fn_x2 (k := 0) E.cl (E.fs f hf) (E.fs g hg) lk hcd S v0 v1 v2 (hd1 := hd1) (hc1 := hc1) (hd2 := hd2) (hc2 := hc2)
/-- which classes a clause catches -/
theorem ht_nil {K : PySem.W.Frag} {T : Tab} {C : Nat} : ∀ q ∈ ([] : List (Nat × Bool)), PySem.W.exmOne K (.ref (T.cls q.1)) (.ref (T.cls C)) = some q.2 ∧ (q.2 = true → q.1 = C) := fun q h => by cases h
theorem ht_cons {K : PySem.W.Frag} {T : Tab} {C d : Nat} {b : Bool} {l : List (Nat × Bool)} (h : PySem.W.exmOne K (.ref (T.cls d)) (.ref (T.cls C)) = some b) (e : b = true → d = C) (r : ∀ q ∈ l, PySem.W.exmOne K (.ref (T.cls q.1)) (.ref (T.cls C)) = some q.2 ∧ (q.2 = true → q.1 = C)) :
    ∀ q ∈ (d, b) :: l, PySem.W.exmOne K (.ref (T.cls q.1)) (.ref (T.cls C)) = some q.2 ∧ (q.2 = true → q.1 = C) := fun q hq => by
  rcases List.mem_cons.mp hq with rfl | hq
  · exact ⟨h, e⟩
  · exact r q hq
/-- what the program's exceptions must show -/
def exAll (K : PySem.W.Frag) (l : List (Str × List Str)) : Bool := noLst K && l.all fun e => oexB K e.1 e.2 && xfB K (He.ga K e.1)
theorem exAll_lst {K : PySem.W.Frag} {l : List (Str × List Str)} (h : exAll K l = true) : noLst K = true := (Bool.and_eq_true_iff.mp h).1
theorem exAll_at {K : PySem.W.Frag} {l : List (Str × List Str)} (h : exAll K l = true) (i : Nat) {e : Str × List Str} (hi : l[i]? = some e) : oexB K e.1 e.2 = true ∧ XfC K (He.ga K e.1) := by
  have z := Bool.and_eq_true_iff.mp (List.all_eq_true.mp (Bool.and_eq_true_iff.mp h).2 e (List.mem_of_getElem? hi))
  exact ⟨z.1, xfB_ok z.2⟩
end DS
end

section
set_option Elab.async false
set_option linter.all false
set_option maxRecDepth 100000
set_option maxHeartbeats 2000000
namespace DS
open PySem PySem.Spec PyProof.Rows L2
section
variable {T : Tab} {X : Cx} {W : WX} {pos : Pos} {a b : Expr} {k : Nat}
theorem de_ixS {fa fb : Ep} (hr : Room k X.A) (ha : DO T X W a fa) (hb : DO T X W b fb) (hs : PlainIx b := by exact fun _ _ => rfl) : DE T X W (.Subscript a b pos) (eIx fa fb) :=
  pe_weak (pe_ix (ix_d hr) ha hb hs) fun σ H Q ⟨l, m, R, q⟩ => ⟨l, m, R, (post.bind q).imp fun ox l1 m1 H1 mo1 R1 q1 v1 r1 => ⟨l1, m1, R1, (post.bind q1.2).imp fun oy l2 m2 H2 mo2 R2 q2 v2 r2 => by
    have q2 := q2.2
    cases e1 : ox.get l2 with
    | none => rw [e1] at q2; exact q2.elim
    | some d =>
      cases e2 : oy.get l2 with
      | none => rw [e1, e2] at q2; exact q2.elim
      | some d' =>
        rw [e1, e2] at q2
        dsimp only at q2
        cases e3 : DS.seen m2 d with
        | none => rw [e3] at q2; exact q2.elim
        | some d2 =>
          rw [e3] at q2
          dsimp only at q2
          obtain ⟨r, er, q3⟩ := post.lift q2
          exact ⟨d2, d', r, (r1.get mo2 R2 e1).seen R2.mem e3, r2.get .refl R2 e2, er, q3 H2 .refl R2⟩⟩⟩
end
end DS
end

section
set_option autoImplicit false
set_option linter.all false
namespace DS
/-! DL: plain laws of the evaluators. -/
theorem eqD_int (a b : Int) : eqD (.int a) (.int b) = some (a == b) := by simp [eqD, D.dat, D.eqv]
theorem neD_int (a b : Int) : neD (.int a) (.int b) = some (!(a == b)) := by simp [neD, D.dat, D.eqv]
theorem ltD_int (a b : Int) : ltD (.int a) (.int b) = some (decide (a < b)) := by simp [ltD, cmpOk, D.dat, D.alike, D.lt, D.isNon]
theorem gtD_int (a b : Int) : gtD (.int a) (.int b) = some (decide (b < a)) := by simp [gtD, cmpOk, D.dat, D.alike, D.lt, D.isNon]
theorem leD_int (a b : Int) : leD (.int a) (.int b) = some (decide (a ≤ b)) := by
  simp only [leD, cmpOk, D.dat, D.alike, D.lt, D.isNon, Bool.and_self, Bool.not_false, if_true]
  congr 1
  rw [← decide_not]
  exact decide_eq_decide.mpr Int.not_lt
theorem geD_int (a b : Int) : geD (.int a) (.int b) = some (decide (b ≤ a)) := by
  simp only [geD, cmpOk, D.dat, D.alike, D.lt, D.isNon, Bool.and_self, Bool.not_false, if_true]
  congr 1
  rw [← decide_not]
  exact decide_eq_decide.mpr Int.not_lt
theorem bits64_of {i : Int} (h0 : -18446744073709551616 < i) (h1 : i < 18446744073709551616) : bits64 i = true := by simp [bits64, h0, h1]
theorem mulOk_r {i j : Int} (h : bits64 j = true) : mulOk i j = true := by simp [mulOk, h]
theorem mulOk_l {i j : Int} (h : bits64 i = true) : mulOk i j = true := by simp [mulOk, h]
theorem divOk_of {j : Int} (h : 0 < j) (h2 : j.natAbs.log2 < 9000) : divOk j = true := by simp [divOk, h, h2]
theorem small_of {i : Int} (h0 : -4611686018427387904 ≤ i) (h1 : i < 4611686018427387904) : small i = true := by simp [small, h0, h1]
theorem bits64_nat {n : Nat} (h : n < 18446744073709551616) : bits64 (n : Int) = true := by
  have h1 : (n : Int) < ((18446744073709551616 : Nat) : Int) := Int.ofNat_lt.mpr h
  have h0 : (-18446744073709551616 : Int) < (n : Int) := Int.lt_of_lt_of_le (by decide) (Int.natCast_nonneg n)
  unfold bits64
  rw [decide_eq_true h0, Bool.true_and]
  exact decide_eq_true h1
theorem small_nat {n : Nat} (h : n < 4611686018427387904) : small (n : Int) = true := by
  have h1 : (n : Int) < ((4611686018427387904 : Nat) : Int) := Int.ofNat_lt.mpr h
  have h0 : (-4611686018427387904 : Int) ≤ (n : Int) := Int.le_trans (by decide) (Int.natCast_nonneg n)
  unfold small
  rw [decide_eq_true h0, Bool.true_and]
  exact decide_eq_true h1
theorem mulD_ok {a b : Int} (h : mulOk a b = true) : mulD (.int a) (.int b) = some (.int (a * b)) := by show (if mulOk a b = true then some (D.int (a * b)) else none) = _; rw [if_pos h]
theorem mulD_r {a b c : Int} (h : bits64 b = true) (e : a * b = c) : mulD (.int a) (.int b) = some (.int c) := by rw [mulD_ok (mulOk_r h), e]
theorem mulD_l {a b c : Int} (h : bits64 a = true) (e : a * b = c) : mulD (.int a) (.int b) = some (.int c) := by rw [mulD_ok (mulOk_l h), e]
theorem fdivD_ok {a b c : Int} (h : divOk b = true) (e : a / b = c) : fdivD (.int a) (.int b) = some (.int c) := by show (if divOk b = true then some (D.int (a / b)) else none) = _; rw [if_pos h, e]
theorem rangeD1_ok {j : Int} (h : small j = true) : rangeD1 [.int j] = some (rangeL 0 j) := by show (if small j = true then some (rangeL 0 j) else none) = _; rw [if_pos h]
theorem rangeD2_ok {i j : Int} (h1 : small i = true) (h2 : small j = true) : rangeD2 [.int i, .int j] = some (rangeL i j) := by show (if (small i && small j) = true then some (rangeL i j) else none) = _; rw [if_pos (by rw [h1, h2]; rfl)]
theorem modD_ok {a b c : Int} (h : 0 < b) (e : a % b = c) : modD (.int a) (.int b) = some (.int c) := by show (if decide (0 < b) = true then some (D.int (a % b)) else none) = _; rw [if_pos (decide_eq_true h), e]
theorem for_count {tg : Tg} {b : Es} {f : Nat → D} {L : Nat → Loc} {M : Nat → Mem} : ∀ (n k : Nat), (∀ i, k ≤ i → i < k + n → ∃ l1, tg.put (f i) (L i) = some l1 ∧ b l1 (M i) = .nx (L (i + 1)) (M (i + 1))) →
    forLoop tg b ((List.range' k n).map f) (L k) (M k) = .nx (L (k + n)) (M (k + n))
  | 0, k, _ => rfl
  | n + 1, k, h => by
    obtain ⟨l1, h1, h2⟩ := h k (Nat.le_refl _) (by omega)
    rw [List.range'_succ, List.map_cons]
    unfold forLoop
    rw [h1]
    dsimp only
    rw [h2]
    dsimp only
    have := for_count n (k + 1) (fun i hi hj => h i (by omega) (by omega))
    rw [this]
    have e : k + 1 + n = k + (n + 1) := by omega
    rw [e]
theorem for_find {tg : Tg} {b : Es} {f : Nat → D} {L : Nat → Loc} {M : Nat → Mem} {d : D} {l' : Loc} {m' : Mem} : ∀ (j n k : Nat), j < n → (∀ i, k ≤ i → i < k + j → ∃ l1, tg.put (f i) (L i) = some l1 ∧ b l1 (M i) = .nx (L (i + 1)) (M (i + 1))) →
    (∃ l1, tg.put (f (k + j)) (L (k + j)) = some l1 ∧ b l1 (M (k + j)) = .rt d l' m') → forLoop tg b ((List.range' k n).map f) (L k) (M k) = .rt d l' m'
  | _, 0, _, h, _, _ => absurd h (Nat.not_lt_zero _)
  | 0, n + 1, k, _, _, ⟨l1, h1, h2⟩ => by
    rw [List.range'_succ, List.map_cons]
    unfold forLoop
    rw [Nat.add_zero] at h1 h2
    rw [h1]
    dsimp only
    rw [h2]
  | j + 1, n + 1, k, hj, h, hl => by
    obtain ⟨l1, h1, h2⟩ := h k (Nat.le_refl _) (by omega)
    rw [List.range'_succ, List.map_cons]
    unfold forLoop
    rw [h1]
    dsimp only
    rw [h2]
    dsimp only
    have e : k + 1 + j = k + (j + 1) := by omega
    exact for_find j n (k + 1) (by omega) (fun i hi hi2 => h i (by omega) (by omega)) (by rw [e]; exact hl)
theorem rangeL_eq (lo hi : Int) : rangeL lo hi = (List.range' 0 (hi - lo).toNat).map fun i : Nat => .int (lo + (i : Nat)) := by
  unfold rangeL
  rw [List.range_eq_range']
theorem defD_eq {a k : Nat} {b : Es} {ds : List D} {m : Mem} (h : ds.length = a) (l : Loc) (hl : startL ds k = l) : defD a k b ds m = endR (b l m) := by subst hl; unfold defD; rw [if_pos h]
theorem drop_ok {e : Ex} {l l' : Loc} {m m' : Mem} {d : D} (h : e l m = .ok d l' m') : sDrop e l m = .nx l' m' := by unfold sDrop; rw [h]; rfl
theorem set_ok {e : Ex} {i : Nat} {l l' : Loc} {m m' : Mem} {d : D} (h : e l m = .ok d l' m') : sSet i e l m = .nx (l'.set i (some (.v d))) m' := by unfold sSet; rw [h]; rfl
theorem setO_ok {e : Ex} {i : Nat} {l l' : Loc} {m m' : Mem} {d : D} (h : e l m = .ok d l' m') : sSetO i e l m = .nx (l'.set i (some (.o d))) m' := by unfold sSetO; rw [h]; rfl
theorem ret_ok {e : Ex} {l l' : Loc} {m m' : Mem} {d : D} (h : e l m = .ok d l' m') : sRet e l m = .rt d l' m' := by unfold sRet; rw [h]; rfl
theorem asg_ok {e : Ex} {tg : Tg} {l l' l2 : Loc} {m m' : Mem} {d : D} (h : e l m = .ok d l' m') (g : tg.put d l' = some l2) : sAsg tg e l m = .nx l2 m' := by unfold sAsg; rw [h]; show (match tg.put d l' with | some l => RS.nx l m' | none => .bad) = _; rw [g]
theorem if_t {t : Et} {a b : Es} {l l' : Loc} {m m' : Mem} (h : t l m = .ok true l' m') : sIf t a b l m = a l' m' := by unfold sIf; rw [h]; rfl
theorem if_f {t : Et} {a b : Es} {l l' : Loc} {m m' : Mem} (h : t l m = .ok false l' m') : sIf t a b l m = b l' m' := by unfold sIf; rw [h]; rfl
theorem if_p {t : Et} {a : Es} {l l' : Loc} {m m' : Mem} (h : t l m = .ok false l' m') : sIf t a sPass l m = .nx l' m' := by rw [if_f h]; rfl
theorem if_rt {t : Et} {a b : Es} {l l' l2 : Loc} {m m' m2 : Mem} {d : D} (h : t l m = .ok true l' m') (g : a l' m' = .rt d l2 m2) : sIf t a b l m = .rt d l2 m2 := by rw [if_t h, g]
theorem for_ok {tg : Tg} {it : Ei} {b : Es} {l l' : Loc} {m m' : Mem} {ds : List D} (h : it l m = .ok ds l' m') : sFor tg it b l m = forLoop tg b ds l' m' := by unfold sFor; rw [h]; rfl
theorem call_ok {call : CallT} {k : Nat} {a : Ea} {l l' : Loc} {m m' m2 : Mem} {ds : List D} {d : D} (h : a l m = .ok ds l' m') (g : call k ds m' = .ok d m2) : eCall call k a l m = .ok d l' m2 := by unfold eCall; rw [h]; show (call k ds m').res l' = _; rw [g]; rfl
theorem iA1 {e : Ex} {f : List D → Option (List D)} {l l' : Loc} {m m' : Mem} {d : D} {ds : List D} (h : e l m = .ok d l' m') (g : f [d] = some ds) : iA (aCons e aNil) f l m = .ok ds l' m' := by
  unfold iA aCons aNil
  rw [h]
  show lift (f [d]) l' m' = _
  rw [g]
  rfl
theorem aC1 {e : Ex} {l l' : Loc} {m m' : Mem} {d : D} (h : e l m = .ok d l' m') : aCons e aNil l m = .ok [d] l' m' := by
  unfold aCons aNil
  rw [h]
  rfl
theorem aC {e : Ex} {r : Ea} {l l' l2 : Loc} {m m' m2 : Mem} {d : D} {ds : List D} (h : e l m = .ok d l' m') (g : r l' m' = .ok ds l2 m2) : aCons e r l m = .ok (d :: ds) l2 m2 := by
  unfold aCons
  rw [h]
  show (r l' m').bind _ = _
  rw [g]
  rfl
theorem for_step {tg : Tg} {b : Es} {d : D} {ds : List D} {l l1 l2 : Loc} {m m2 : Mem} (h1 : tg.put d l = some l1) (h2 : b l1 m = .nx l2 m2) : forLoop tg b (d :: ds) l m = forLoop tg b ds l2 m2 := by
  show (match tg.put d l with | some l => (match b l m with | .nx l m => forLoop tg b ds l m | .ct l m => forLoop tg b ds l m | .bk l m => .nx l m | r => r) | none => .bad) = _
  rw [h1]
  show (match b l1 m with | .nx l m => forLoop tg b ds l m | .ct l m => forLoop tg b ds l m | .bk l m => .nx l m | r => r) = _
  rw [h2]
theorem while_step {t : Et} {b : Es} {n : Nat} {l l1 l2 : Loc} {m m1 m2 : Mem} (ht : t l m = .ok true l1 m1) (hb : b l1 m1 = .nx l2 m2) : whileLoop t b (n + 1) l m = whileLoop t b n l2 m2 := by
  show (match t l m with | .ok true l m => (match b l m with | .nx l m => whileLoop t b n l m | .ct l m => whileLoop t b n l m | .bk l m => .nx l m | r => r) | .ok false l m => .nx l m | .ex c fs l m => .ex c fs l m | .bad => .bad) = _
  rw [ht]
  show (match b l1 m1 with | .nx l m => whileLoop t b n l m | .ct l m => whileLoop t b n l m | .bk l m => .nx l m | r => r) = _
  rw [hb]
theorem while_end {t : Et} {b : Es} {n : Nat} {l l1 : Loc} {m m1 : Mem} (ht : t l m = .ok false l1 m1) : whileLoop t b (n + 1) l m = .nx l1 m1 := by
  show (match t l m with | .ok true l m => (match b l m with | .nx l m => whileLoop t b n l m | .ct l m => whileLoop t b n l m | .bk l m => .nx l m | r => r) | .ok false l m => .nx l m | .ex c fs l m => .ex c fs l m | .bad => .bad) = _
  rw [ht]
theorem while_ok {t : Et} {b : Es} {n : Nat} {l : Loc} {m : Mem} {r : RS} (h : whileLoop t b n l m = r) : sWhile n t b l m = r := h
theorem seq_nx {a b : Es} {l l' : Loc} {m m' : Mem} (h : a l m = .nx l' m') : sSeq a b l m = b l' m' := by unfold sSeq; rw [h]
theorem seq_rt {a b : Es} {l l' : Loc} {m m' : Mem} {d : D} (h : a l m = .rt d l' m') : sSeq a b l m = .rt d l' m' := by unfold sSeq; rw [h]
theorem seq_ex {a b : Es} {l l' : Loc} {m m' : Mem} {c : Nat} {fs : List D} (h : a l m = .ex c fs l' m') : sSeq a b l m = .ex c fs l' m' := by unfold sSeq; rw [h]
/-! ### a list comprehension, without the growing list -/
def lcF (tg : Tg) (t : Et) (e : Ex) (l0 : Loc) : List D → Mem → Option (List D × Mem)
  | [], m => some ([], m)
  | d :: ds, m => match tg.put d l0 with
    | some l => match t l m with
      | .ok true l m => match e l m with
        | .ok x _ m => match lcF tg t e l0 ds m with
          | some (ys, m) => some (x :: ys, m)
          | none => none
        | _ => none
      | .ok false _ m => lcF tg t e l0 ds m
      | _ => none
    | none => none
theorem lcLoop_eq {tg : Tg} {t : Et} {e : Ex} {l0 : Loc} {m' : Mem} : ∀ (ds acc ys : List D) (m : Mem), ds.length + acc.length ≤ sizeMax → lcF tg t e l0 ds m = some (ys, m') → lcLoop tg t e l0 ds acc m = .ok (acc ++ ys) l0 m'
  | [], acc, ys, m, _, h => by
    cases h
    simp [lcLoop]
  | d :: ds, acc, ys, m, h, hf => by
    simp only [List.length_cons] at h
    unfold lcF at hf
    unfold lcLoop
    cases h1 : tg.put d l0 with
    | none => rw [h1] at hf; cases hf
    | some l =>
      rw [h1] at hf
      dsimp only at hf ⊢
      cases h2 : t l m with
      | ex c fs l m => rw [h2] at hf; cases hf
      | bad => rw [h2] at hf; cases hf
      | ok b l m =>
        rw [h2] at hf
        cases b with
        | false =>
          dsimp only at hf ⊢
          exact lcLoop_eq ds acc ys m (by omega) hf
        | true =>
          dsimp only at hf ⊢
          cases h3 : e l m with
          | ex c fs l m => rw [h3] at hf; cases hf
          | bad => rw [h3] at hf; cases hf
          | ok x l m =>
            rw [h3] at hf
            dsimp only at hf ⊢
            rw [if_pos (show acc.length < sizeMax by omega)]
            cases h4 : lcF tg t e l0 ds m with
            | none => rw [h4] at hf; cases hf
            | some r =>
              obtain ⟨zs, m2⟩ := r
              rw [h4] at hf
              cases hf
              rw [lcLoop_eq ds (acc ++ [x]) zs m (by rw [List.length_append]; simp only [List.length_cons, List.length_nil]; omega) h4, List.append_assoc]
              rfl
def eLCf (own : List Nat) (tg : Tg) (it : Ei) (t : Et) (e : Ex) : Ex := fun l m => (it l m).bind fun ds l m =>
  if ds.length ≤ sizeMax then match lcF tg t e (wipeL (roL l) own) ds m with
    | some (xs, m) => .ok (.lst xs) l m
    | none => eLC own tg (fun l m => .ok ds l m) t e l m
  else eLC own tg (fun l m => .ok ds l m) t e l m
theorem eLC_eq (own : List Nat) (tg : Tg) (it : Ei) (t : Et) (e : Ex) : eLC own tg it t e = eLCf own tg it t e := by
  funext l m
  unfold eLCf
  show (it l m).bind _ = _
  cases it l m with
  | ex c fs l m => rfl
  | bad => rfl
  | ok ds l m =>
    show (match lcLoop tg t e (wipeL (roL l) own) ds [] m with | .ok xs _ m => Res.ok (D.lst xs) l m | _ => .bad) = (if ds.length ≤ sizeMax then _ else _)
    by_cases h : ds.length ≤ sizeMax
    · rw [if_pos h]
      cases h4 : lcF tg t e (wipeL (roL l) own) ds m with
      | none => rfl
      | some r =>
        obtain ⟨ys, m'⟩ := r
        rw [lcLoop_eq ds [] ys m (by simpa using h) h4]
        rfl
    · rw [if_neg h]
      rfl
end DS
end

section
set_option autoImplicit false
set_option linter.all false
set_option maxRecDepth 100000
namespace G12
open DS
def lamE (call : CallT) : Nat → Ex := fun j => match j with
  | 0 => (eCall call 13 (aCons (eC (.int 1)) (aCons (eC .non) aNil)))
  | 1 => (eCall call 14 (aCons (eC (.int 5)) (aCons (eC (.int 1)) (aCons (eC (.int 6)) aNil))))
  | 2 => (eCall call 14 (aCons (eC (.int 5)) (aCons (eC (.int 6)) (aCons (eC (.int 1)) aNil))))
  | 3 => (eCall call 12 (aCons (eOp1 negD (pE (eC (.int 1)))) (aCons (eTup (aCons (eC (.int 1)) (aCons (eC (.int 2)) aNil))) aNil)))
  | 4 => (eCall call 11 (aCons (eC (.int 5)) (aCons (eLst (aCons (eC (.int 1)) (aCons (eC (.int 2)) aNil))) aNil)))
  | 5 => (eCall call 11 (aCons (eC (.int 5)) (aCons (eTup (aCons (eC (.int 2)) (aCons (eC (.int 1)) aNil))) aNil)))
  | 6 => (eCall call 11 (aCons (eC (.int 5)) (aCons (eTup (aCons (eC (.int 1)) (aCons (eC (.int 0)) aNil))) aNil)))
  | 7 => (eCall call 7 (aCons (eC .non) (aCons (eC (.int 1)) aNil)))
  | 8 => (eCall call 8 (aCons (eC (.int 1)) (aCons (eC (.int 201)) aNil)))
  | 9 => (eCall call 8 (aCons (eC (.int 0)) (aCons (eC (.int 1)) aNil)))
  | _ => fun _ _ => .bad
/-- is_integer -/
def b1 (call : CallT) : Es := (sRet (eAnd (eIsi [false, true, true, false, false, false, false] [] (pV 0)) (eT (tNot (tOp1 truthD (pE (eIsi [false, true, false, false, false, false, false] [] (pV 0))))))))
def f1 (call : CallT) : List D → Mem → RC := defD 1 0 (b1 call)
/-- is_number -/
def b2 (call : CallT) : Es := (sRet (eAnd (eCall call 1 (aCons (eV 0) aNil)) (eT (tChain leD leD (pV 1) (pV 0) (pV 2)))))
def f2 (call : CallT) : List D → Mem → RC := defD 3 0 (b2 call)
/-- common -/
def b3 (call : CallT) : Es := (sSeq (sWhile fuel (tOp2 gtD (pV 1) (pE (eC (.int 0)))) (sPar [0, 1] (aCons (eV 1) (aCons (eOp2 modD (pV 0) (pV 1)) aNil))))
  (sRet (eV 0)))
def f3 (call : CallT) : List D → Mem → RC := defD 2 0 (b3 call)
/-- check_odds -/
def b5 (call : CallT) : Es := (sSeq (sIf (tNot (tOp1 truthD (pE (eCall call 2 (aCons (eV 0) (aCons (eC (.int 1)) (aCons (eC (.int 1000000000)) aNil))))))) (sRaise 2 1 (aCons (eC (.str [110, 97, 109, 101, 115])) aNil)) sPass)
  (sIf (tNot (tOp1 truthD (pE (eCall call 2 (aCons (eV 1) (aCons (eC (.int 0)) (aCons (eC (.int 200)) aNil))))))) (sRaise 2 1 (aCons (eC (.str [100, 114, 97, 119, 110])) aNil)) sPass))
def f5 (call : CallT) : List D → Mem → RC := defD 2 0 (b5 call)
/-- lowest -/
def b6 (call : CallT) : Es := (sSeq (sSet 2 (eCall call 3 (aCons (eV 0) (aCons (eV 1) aNil))))
  (sRet (eTup (aCons (eOp2 fdivD (pV 0) (pV 2)) (aCons (eOp2 fdivD (pV 1) (pV 2)) aNil)))))
def f6 (call : CallT) : List D → Mem → RC := defD 2 1 (b6 call)
/-- apart_odds -/
def b7 (call : CallT) : Es := (sSeq (sDrop (eCall call 5 (aCons (eV 0) (aCons (eV 1) aNil))))
  (sSeq (sAsg (.tp [(.nm 3), (.nm 4)]) (eTup (aCons (eC (.int 1)) (aCons (eC (.int 1)) aNil))))
  (sSeq (sFor (.nm 2) (iA (aCons (eV 1) aNil) rangeD1) (sPar [3, 4] (aCons (eOp2 mulD (pV 3) (pE (eB max2D (pCons (pE (eC (.int 0))) (pCons (pE (eOp2 subD (pV 0) (pV 2))) pNil))))) (aCons (eOp2 mulD (pV 4) (pV 0)) aNil))))
  (sRet (eCall call 6 (aCons (eV 3) (aCons (eV 4) aNil)))))))
def f7 (call : CallT) : List D → Mem → RC := defD 2 3 (b7 call)
/-- clash_odds -/
def b8 (call : CallT) : Es := (sSeq (sAsg (.tp [(.nm 2), (.nm 3)]) (eCall call 7 (aCons (eV 0) (aCons (eV 1) aNil))))
  (sRet (eCall call 6 (aCons (eOp2 subD (pV 3) (pV 2)) (aCons (eV 3) aNil)))))
def f8 (call : CallT) : List D → Mem → RC := defD 2 2 (b8 call)
/-- check_fraction -/
def b9 (call : CallT) : Es := (sSeq (sIf (tOr (tNot (tOp1 truthD (pE (eIsi [false, false, false, false, false, true, false] [] (pV 0))))) (tOr (tOp2 neD (pE (eB lenD (pCons (pV 0) pNil))) (pE (eC (.int 2)))) (tNot (tOp1 truthD (pE (eCall call 2 (aCons (eIx (pV 0) (pE (eC (.int 1)))) (aCons (eC (.int 1)) (aCons (eC (.int 1000000)) aNil))))))))) (sRaise 2 1 (aCons (eC (.str [102, 114, 97, 99, 116, 105, 111, 110])) aNil)) sPass)
  (sIf (tNot (tOp1 truthD (pE (eCall call 2 (aCons (eIx (pV 0) (pE (eC (.int 0)))) (aCons (eC (.int 0)) (aCons (eIx (pV 0) (pE (eC (.int 1)))) aNil))))))) (sRaise 2 1 (aCons (eC (.str [102, 114, 97, 99, 116, 105, 111, 110])) aNil)) sPass))
def f9 (call : CallT) : List D → Mem → RC := defD 1 0 (b9 call)
/-- is_less -/
def b10 (call : CallT) : Es := (sRet (eT (tOp2 ltD (pE (eOp2 mulD (pE (eIx (pV 0) (pE (eC (.int 0))))) (pE (eIx (pV 1) (pE (eC (.int 1))))))) (pE (eOp2 mulD (pE (eIx (pV 1) (pE (eC (.int 0))))) (pE (eIx (pV 0) (pE (eC (.int 1))))))))))
def f10 (call : CallT) : List D → Mem → RC := defD 2 0 (b10 call)
/-- most_drawn -/
def b11 (call : CallT) : Es := (sSeq (sDrop (eCall call 5 (aCons (eV 0) (aCons (eC (.int 0)) aNil))))
  (sSeq (sDrop (eCall call 9 (aCons (eV 1) aNil)))
  (sSeq (sFor (.nm 2) (iA (aCons (eOp2 addD (pE (eC (.int 200))) (pE (eC (.int 1)))) aNil) rangeD1) (sIf (tOp1 truthD (pE (eCall call 10 (aCons (eV 1) (aCons (eCall call 8 (aCons (eV 0) (aCons (eV 2) aNil))) aNil))))) (sRet (eOp2 subD (pV 2) (pE (eC (.int 1))))) sPass))
  (sRet (eC .non)))))
def f11 (call : CallT) : List D → Mem → RC := defD 2 1 (b11 call)
/-- least_names -/
def b12 (call : CallT) : Es := (sSeq (sDrop (eCall call 5 (aCons (eC (.int 1)) (aCons (eV 0) aNil))))
  (sSeq (sDrop (eCall call 9 (aCons (eV 1) aNil)))
  (sSeq (sIf (tAnd (tOp2 gtD (pV 0) (pE (eC (.int 1)))) (tOp2 eqD (pE (eIx (pV 1) (pE (eC (.int 0))))) (pE (eC (.int 0))))) (sRaise 1 1 (aCons (eV 0) aNil)) sPass)
  (sSeq (sAsg (.tp [(.nm 2), (.nm 3)]) (eTup (aCons (eC (.int 1)) (aCons (eC (.int 1)) aNil))))
  (sSeq (sWhile fuel (tOp1 truthD (pE (eCall call 10 (aCons (eV 1) (aCons (eCall call 8 (aCons (eV 3) (aCons (eV 0) aNil))) aNil))))) (sSeq (sAug mulD 3 (eC (.int 2)))
  (sIf (tOp2 gtD (pV 3) (pE (eC (.int 500000000)))) (sRaise 1 1 (aCons (eV 3) aNil)) sPass)))
  (sSeq (sWhile fuel (tOp2 ltD (pV 2) (pV 3)) (sSeq (sSet 4 (eOp2 fdivD (pE (eOp2 addD (pV 2) (pV 3))) (pE (eC (.int 2)))))
  (sIf (tOp1 truthD (pE (eCall call 10 (aCons (eV 1) (aCons (eCall call 8 (aCons (eV 4) (aCons (eV 0) aNil))) aNil))))) (sSet 2 (eOp2 addD (pV 4) (pE (eC (.int 1))))) (sSet 3 (eV 4)))))
  (sRet (eV 2))))))))
def f12 (call : CallT) : List D → Mem → RC := defD 2 3 (b12 call)
/-- expected_unlike -/
def b13 (call : CallT) : Es := (sSeq (sDrop (eCall call 5 (aCons (eV 0) (aCons (eV 1) aNil))))
  (sSeq (sAsg (.tp [(.nm 3), (.nm 4)]) (eTup (aCons (eC (.int 1)) (aCons (eC (.int 1)) aNil))))
  (sSeq (sFor (.nm 2) (iA (aCons (eV 1) aNil) rangeD1) (sPar [3, 4] (aCons (eOp2 mulD (pV 3) (pE (eOp2 subD (pV 0) (pE (eC (.int 1)))))) (aCons (eOp2 mulD (pV 4) (pV 0)) aNil))))
  (sRet (eCall call 6 (aCons (eOp2 mulD (pV 0) (pE (eOp2 subD (pV 4) (pV 3)))) (aCons (eV 4) aNil)))))))
def f13 (call : CallT) : List D → Mem → RC := defD 2 3 (b13 call)
/-- seen_odds -/
def b14 (call : CallT) : Es := (sSeq (sDrop (eCall call 5 (aCons (eV 0) (aCons (eC (.int 0)) aNil))))
  (sSeq (sIf (tNot (tOp1 truthD (pE (eCall call 2 (aCons (eV 1) (aCons (eC (.int 0)) (aCons (eV 0) aNil))))))) (sRaise 2 1 (aCons (eC (.str [103, 105, 118, 101, 110])) aNil)) sPass)
  (sSeq (sIf (tNot (tOp1 truthD (pE (eCall call 2 (aCons (eV 2) (aCons (eC (.int 0)) (aCons (eB min2D (pCons (pV 0) (pCons (pE (eC (.int 200))) pNil))) aNil))))))) (sRaise 2 1 (aCons (eC (.str [116, 114, 105, 101, 100])) aNil)) sPass)
  (sSeq (sAsg (.tp [(.nm 4), (.nm 5)]) (eTup (aCons (eC (.int 1)) (aCons (eC (.int 1)) aNil))))
  (sSeq (sFor (.nm 3) (iA (aCons (eV 2) aNil) rangeD1) (sPar [4, 5] (aCons (eOp2 mulD (pV 4) (pE (eB max2D (pCons (pE (eC (.int 0))) (pCons (pE (eOp2 subD (pE (eOp2 subD (pV 0) (pV 1))) (pV 3))) pNil))))) (aCons (eOp2 mulD (pV 5) (pE (eOp2 subD (pV 0) (pV 3)))) aNil))))
  (sRet (eCall call 6 (aCons (eOp2 subD (pV 5) (pV 4)) (aCons (eV 5) aNil)))))))))
def f14 (call : CallT) : List D → Mem → RC := defD 3 3 (b14 call)
/-- _law_number -/
def b15 (call : CallT) : Es := (sSeq (sAsg (.tp [(.nm 5), (.nm 6)]) (eIf (tOp2 neD (pV 0) (pE (eLst aNil))) (eTup (aCons (eIx (pV 0) (pE (eOp2 modD (pV 1) (pE (eB lenD (pCons (pV 0) pNil)))))) (aCons (eOp2 fdivD (pV 1) (pE (eB lenD (pCons (pV 0) pNil)))) aNil))) (eTup (aCons (eC (.int 12345)) (aCons (eC (.int 0)) aNil)))))
  (sSeq (sSet 2 (eIf (tOp2 ltD (pV 6) (pE (eC (.int 60)))) (eOp2 subD (pV 5) (pE (eOp2 powD (pE (eC (.int 10))) (pE (eC (.int 18)))))) (eC (.int 0))))
  (sSeq (sFor (.nm 3) (iA (aCons (eOp2 modD (pE (eB intD (pCons (pV 6) pNil))) (pE (eC (.int 60)))) aNil) rangeD1) (sSet 2 (eOp2 fdivD (pV 2) (pE (eC (.int 1009))))))
  (sSeq (sIf (tOp2 gtD (pV 2) (pE (eC (.int 0)))) (sRet (eOp2 modD (pE (eB intD (pCons (pV 2) pNil))) (pE (eC (.int 1009))))) sPass)
  (sSeq (sSet 4 (eOp2 modD (pE (eOp2 addD (pE (eOp2 mulD (pE (eB intD (pCons (pE (eOp2 addD (pV 5) (pE (eOp2 mulD (pE (eC (.int 977))) (pV 1))))) pNil))) (pE (eC (.int 48271))))) (pE (eOp2 mulD (pE (eC (.int 31))) (pE (eB lenD (pCons (pV 0) pNil))))))) (pE (eC (.int 2147483647)))))
  (sSeq (sSet 4 (eOp2 modD (pE (eOp2 addD (pE (eOp2 mulD (pV 4) (pV 4))) (pE (eOp2 mulD (pE (eC (.int 40503))) (pV 1))))) (pE (eC (.int 2147483629)))))
  (sRet (eB intD (pCons (pE (eOp2 modD (pE (eOp2 addD (pE (eOp2 mulD (pV 4) (pE (eC (.int 69621))))) (pE (eOp2 fdivD (pV 4) (pE (eC (.int 977))))))) (pE (eC (.int 2147483587))))) pNil)))))))))
def f15 (call : CallT) : List D → Mem → RC := defD 2 5 (b15 call)
/-- _law_take -/
def b16 (call : CallT) : Es := (sSeq (sAugP addI 0 (eC (.int 1)) (eC (.int 1)))
  (sRet (eOp2 modD (pE (eB intD (pCons (pE (eCall call 15 (aCons (eIx (pV 0) (pE (eC (.int 0)))) (aCons (eB intD (pCons (pE (eIx (pV 0) (pE (eC (.int 1))))) pNil)) aNil)))) pNil))) (pV 1))))
def f16 (call : CallT) : List D → Mem → RC := defD 2 0 (b16 call)
/-- _law_ways -/
def b17 (call : CallT) : Es := (sSeq (sSet 2 (eLst (aCons (eTup aNil) aNil)))
  (sSeq (sFor (.nm 3) (iA (aCons (eV 1) aNil) rangeD1) (sSeq (sSet 4 (eLst aNil))
  (sSeq (sFor (.nm 5) (iE (eV 2) itemsD) (sSet 4 (eOp2 catD (pV 4) (pE (eLC [6] (.nm 6) (iA (aCons (eV 0) aNil) rangeD1) tYes (eOp2 addD (pV 5) (pE (eTup (aCons (eV 6) aNil)))))))))
  (sSet 2 (eV 4)))))
  (sRet (eV 2))))
def f17 (call : CallT) : List D → Mem → RC := defD 2 5 (b17 call)
/-- _law_low -/
def b18 (call : CallT) : Es := (sSeq (sFor (.nm 2) (iA (aCons (eIf (tOp2 gtD (pV 0) (pE (eC (.int 0)))) (eB min2D (pCons (pV 0) (pCons (pV 1) pNil))) (eV 1)) (aCons (eC (.int 0)) (aCons (eOp1 negD (pE (eC (.int 1)))) aNil))) rangeD3) (sIf (tAnd (tOp2 eqD (pE (eOp2 modD (pV 0) (pV 2))) (pE (eC (.int 0)))) (tOp2 eqD (pE (eOp2 modD (pV 1) (pV 2))) (pE (eC (.int 0))))) (sRet (eTup (aCons (eOp2 fdivD (pV 0) (pV 2)) (aCons (eOp2 fdivD (pV 1) (pV 2)) aNil)))) sPass))
  (sRet (eTup (aCons (eV 0) (aCons (eV 1) aNil)))))
def f18 (call : CallT) : List D → Mem → RC := defD 2 1 (b18 call)
/-- _law_clash -/
def b19 (call : CallT) : Es := (sSeq (sAsg (.tp [(.nm 3), (.nm 4)]) (eTup (aCons (eC (.int 1)) (aCons (eC (.int 1)) aNil))))
  (sSeq (sFor (.nm 2) (iA (aCons (eV 1) aNil) rangeD1) (sPar [3, 4] (aCons (eOp2 mulD (pV 3) (pE (eB max2D (pCons (pE (eC (.int 0))) (pCons (pE (eOp2 subD (pV 0) (pV 2))) pNil))))) (aCons (eOp2 mulD (pV 4) (pV 0)) aNil))))
  (sRet (eTup (aCons (eOp2 subD (pV 4) (pV 3)) (aCons (eV 4) aNil))))))
def f19 (call : CallT) : List D → Mem → RC := defD 2 3 (b19 call)
/-- _law_refused -/
def b20 (call : CallT) : Es := (sSeq (sTry (sDrop (eLamCall (lamE call) 0)) [([(1, false), (2, true)], .one 1 (.fld 0)), ([(1, true), (2, false)], .one 1 (.fld 0))])
  (sRet (eC (.str []))))
def f20 (call : CallT) : List D → Mem → RC := defD 1 1 (b20 call)
/-- law -/
def b21 (call : CallT) : Es := (sCell 1 (eLst (aCons (eV 0) (aCons (eC (.int 0)) aNil)))
  (sSeq (sAsg (.tp [(.nm 12), (.nm 13)]) (eTup (aCons (eOp2 addD (pE (eC (.int 1))) (pE (eCall call 16 (aCons (eV 1) (aCons (eC (.int 5)) aNil))))) (aCons (eCall call 16 (aCons (eV 1) (aCons (eC (.int 5)) aNil))) aNil))))
  (sSeq (sSet 2 (eCall call 17 (aCons (eV 12) (aCons (eV 13) aNil))))
  (sSeq (sSet 3 (eB lenD (pCons (pE (eLC [17] (.nm 17) (iP seqD (pV 2)) (tOp2 eqD (pE (eB lenSetD (pCons (pV 17) pNil))) (pV 13)) (eV 17))) pNil)))
  (sSeq (sIf (tOr (tOp2 neD (pE (eCall call 7 (aCons (eV 12) (aCons (eV 13) aNil)))) (pE (eCall call 18 (aCons (eV 3) (aCons (eB lenD (pCons (pV 2) pNil)) aNil))))) (tOp2 neD (pE (eCall call 8 (aCons (eV 12) (aCons (eV 13) aNil)))) (pE (eCall call 18 (aCons (eOp2 subD (pE (eB lenD (pCons (pV 2) pNil))) (pV 3)) (aCons (eB lenD (pCons (pV 2) pNil)) aNil)))))) (sRet (eC (.bl false))) sPass)
  (sSeq (sIf (tOp2 neD (pE (eCall call 13 (aCons (eV 12) (aCons (eV 13) aNil)))) (pE (eCall call 18 (aCons (eB sumD (pCons (pE (eLC [17] (.nm 17) (iP seqD (pV 2)) tYes (eB lenSetD (pCons (pV 17) pNil)))) pNil)) (aCons (eB lenD (pCons (pV 2) pNil)) aNil))))) (sRet (eC (.bl false))) sPass)
  (sSeq (sAsg (.tp [(.nm 14), (.nm 15)]) (eTup (aCons (eCall call 16 (aCons (eV 1) (aCons (eOp2 addD (pV 12) (pE (eC (.int 1)))) aNil))) (aCons (eCall call 16 (aCons (eV 1) (aCons (eOp2 addD (pE (eB min2D (pCons (pV 12) (pCons (pE (eC (.int 4))) pNil)))) (pE (eC (.int 1)))) aNil))) aNil))))
  (sSeq (sSetO 4 (eLC [17] (.nm 17) (iP seqD (pE (eCall call 17 (aCons (eV 12) (aCons (eV 15) aNil))))) (tOp2 eqD (pE (eB lenSetD (pCons (pV 17) pNil))) (pV 15)) (eV 17)))
  (sSeq (sIf (tOp2 neD (pE (eCall call 14 (aCons (eV 12) (aCons (eV 14) (aCons (eV 15) aNil))))) (pE (eCall call 18 (aCons (eB lenD (pCons (pE (eLC [17] (.nm 17) (iP seqD (pV 4)) (tOp1 truthD (pE (eB anyD (pCons (pE (eLC [18] (.nm 18) (iP seqD (pV 17)) tYes (eT (tOp2 ltD (pV 18) (pV 14))))) pNil)))) (eV 17))) pNil)) (aCons (eB lenD (pCons (pV 4) pNil)) aNil))))) (sRet (eC (.bl false))) sPass)
  (sSeq (sSet 5 (eTup (aCons (eCall call 16 (aCons (eV 1) (aCons (eC (.int 5)) aNil))) (aCons (eOp2 addD (pE (eC (.int 1))) (pE (eCall call 16 (aCons (eV 1) (aCons (eC (.int 9)) aNil))))) aNil))))
  (sSeq (sSet 5 (eTup (aCons (eB minI (pCons (pV 5) pNil)) (aCons (eB maxI (pCons (pV 5) pNil)) aNil))))
  (sSeq (sSet 6 (eOp2 addD (pE (eC (.int 1))) (pE (eCall call 16 (aCons (eV 1) (aCons (eC (.int 400)) aNil))))))
  (sSeq (sSetO 7 (eLst aNil))
  (sSeq (sFor (.nm 8) (iA (aCons (eC (.int 201)) aNil) rangeD1) (sSeq (sAsg (.tp [(.nm 18), (.nm 19)]) (eCall call 19 (aCons (eV 6) (aCons (eV 8) aNil))))
  (sIf (tOp2 leD (pE (eOp2 mulD (pV 18) (pE (eIx (pV 5) (pE (eC (.int 1))))))) (pE (eOp2 mulD (pE (eIx (pV 5) (pE (eC (.int 0))))) (pV 19)))) (sApp 7 (eV 8)) sPass)))
  (sSeq (sIf (tOr (tOp2 neD (pE (eCall call 11 (aCons (eV 6) (aCons (eV 5) aNil)))) (pE (eIf (tOp2 ltD (pE (eB lenD (pCons (pV 7) pNil))) (pE (eC (.int 201)))) (eB maxI (pCons (pV 7) pNil)) (eC .non)))) (tOp2 neD (pV 7) (pE (eRg1 (eB lenD (pCons (pV 7) pNil)))))) (sRet (eC (.bl false))) sPass)
  (sSeq (sSet 9 (eCall call 16 (aCons (eV 1) (aCons (eC (.int 12)) aNil))))
  (sSeq (sIf (tAnd (tOp2 gtD (pV 9) (pE (eC (.int 1)))) (tOp2 eqD (pE (eIx (pV 5) (pE (eC (.int 0))))) (pE (eC (.int 0))))) (sIf (tOp2 neD (pE (eRef 2 (eCall call 12 (aCons (eV 9) (aCons (eV 5) aNil))) [([(1, false), (2, true)], .one 1 (.fld 0)), ([(1, true), (2, false)], .one 1 (.fld 0))] (.str []))) (pV 9)) (sRet (eC (.bl false))) sPass) (sSeq (sSet 16 (eCall call 12 (aCons (eV 9) (aCons (eV 5) aNil))))
  (sSeq (sAsg (.tp [(.nm 18), (.nm 19)]) (eCall call 19 (aCons (eV 16) (aCons (eV 9) aNil))))
  (sSeq (sIf (tOp2 gtD (pE (eOp2 mulD (pV 18) (pE (eIx (pV 5) (pE (eC (.int 1))))))) (pE (eOp2 mulD (pE (eIx (pV 5) (pE (eC (.int 0))))) (pV 19)))) (sRet (eC (.bl false))) sPass)
  (sIf (tOp2 gtD (pV 16) (pE (eC (.int 1)))) (sSeq (sAsg (.tp [(.nm 18), (.nm 19)]) (eCall call 19 (aCons (eOp2 subD (pV 16) (pE (eC (.int 1)))) (aCons (eV 9) aNil))))
  (sIf (tOp2 leD (pE (eOp2 mulD (pV 18) (pE (eIx (pV 5) (pE (eC (.int 1))))))) (pE (eOp2 mulD (pE (eIx (pV 5) (pE (eC (.int 0))))) (pV 19)))) (sRet (eC (.bl false))) sPass)) sPass)))))
  (sSeq (sSet 10 (eTup (aCons (eCall call 16 (aCons (eV 1) (aCons (eC (.int 6)) aNil))) (aCons (eOp2 addD (pE (eC (.int 1))) (pE (eCall call 16 (aCons (eV 1) (aCons (eC (.int 6)) aNil))))) aNil))))
  (sSeq (sIf (tOr (tOp2 neD (pE (eCall call 10 (aCons (eV 5) (aCons (eV 10) aNil)))) (pE (eT (tOp2 ltD (pE (eOp2 mulD (pE (eIx (pV 5) (pE (eC (.int 0))))) (pE (eIx (pV 10) (pE (eC (.int 1))))))) (pE (eOp2 mulD (pE (eIx (pV 10) (pE (eC (.int 0))))) (pE (eIx (pV 5) (pE (eC (.int 1))))))))))) (tOp2 neD (pE (eCall call 6 (aCons (eOp2 mulD (pE (eC (.int 6))) (pE (eIx (pV 10) (pE (eC (.int 0)))))) (aCons (eOp2 mulD (pE (eC (.int 6))) (pE (eIx (pV 10) (pE (eC (.int 1)))))) aNil)))) (pE (eCall call 6 (aCons (eIx (pV 10) (pE (eC (.int 0)))) (aCons (eIx (pV 10) (pE (eC (.int 1)))) aNil)))))) (sRet (eC (.bl false))) sPass)
  (sSeq (sSet 11 (eLst (aCons (eTup (aCons (eC (.lam 9)) (aCons (eC (.str [110, 97, 109, 101, 115])) aNil))) (aCons (eTup (aCons (eC (.lam 8)) (aCons (eC (.str [100, 114, 97, 119, 110])) aNil))) (aCons (eTup (aCons (eC (.lam 7)) (aCons (eC (.str [110, 97, 109, 101, 115])) aNil))) (aCons (eTup (aCons (eC (.lam 6)) (aCons (eC (.str [102, 114, 97, 99, 116, 105, 111, 110])) aNil))) (aCons (eTup (aCons (eC (.lam 5)) (aCons (eC (.str [102, 114, 97, 99, 116, 105, 111, 110])) aNil))) (aCons (eTup (aCons (eC (.lam 4)) (aCons (eC (.str [102, 114, 97, 99, 116, 105, 111, 110])) aNil))) (aCons (eTup (aCons (eC (.lam 3)) (aCons (eC (.str [100, 114, 97, 119, 110])) aNil))) (aCons (eTup (aCons (eC (.lam 2)) (aCons (eC (.str [103, 105, 118, 101, 110])) aNil))) (aCons (eTup (aCons (eC (.lam 1)) (aCons (eC (.str [116, 114, 105, 101, 100])) aNil))) (aCons (eTup (aCons (eC (.lam 0)) (aCons (eC (.str [100, 114, 97, 119, 110])) aNil))) aNil))))))))))))
  (sRet (eB allD (pCons (pE (eLC [20, 21] (.tp [(.nm 20), (.nm 21)]) (iP seqD (pV 11)) tYes (eT (tOp2 eqD (pE (eCall call 20 (aCons (eV 20) aNil))) (pV 21))))) pNil)))))))))))))))))))))))
def f21 (call : CallT) : List D → Mem → RC := defD 1 21 (b21 call)
def callN : Nat → CallT
  | 0 => fun _ _ _ => .bad
  | n + 1 => fun k => match k with
    | 1 => f1 (callN n)
    | 2 => f2 (callN n)
    | 3 => f3 (callN n)
    | 5 => f5 (callN n)
    | 6 => f6 (callN n)
    | 7 => f7 (callN n)
    | 8 => f8 (callN n)
    | 9 => f9 (callN n)
    | 10 => f10 (callN n)
    | 11 => f11 (callN n)
    | 12 => f12 (callN n)
    | 13 => f13 (callN n)
    | 14 => f14 (callN n)
    | 15 => f15 (callN n)
    | 16 => f16 (callN n)
    | 17 => f17 (callN n)
    | 18 => f18 (callN n)
    | 19 => f19 (callN n)
    | 20 => f20 (callN n)
    | _ => fun _ _ => .bad
end G12
end

section
set_option autoImplicit false
set_option linter.all false
set_option maxRecDepth 100000
namespace G12
open DS
abbrev iv (n : Nat) : Option Sl := some (.v (.int n))
theorem common_loop (m : Mem) : ∀ (f b a : Nat), b < f → whileLoop (tOp2 gtD (pV 1) (pE (eC (.int 0)))) (sPar [0, 1] (aCons (eV 1) (aCons (eOp2 modD (pV 0) (pV 1)) aNil))) f [iv a, iv b] m = .nx [iv (Nat.gcd a b), iv 0] m
  | 0, b, a, h => absurd h (Nat.not_lt_zero _)
  | f + 1, b, a, h => by
    unfold whileLoop
    by_cases hb : b = 0
    · subst hb
      simp [gtD_int]
    · have h0 : (0 : Int) < b := by omega
      have hm : ((a : Int) % (b : Int)) = ((a % b : Nat) : Int) := by simp
      have ih := common_loop m f (a % b) b (by have := Nat.mod_lt a (show 0 < b by omega); omega)
      have e : Nat.gcd b (a % b) = Nat.gcd a b := by rw [Nat.gcd_comm a b, Nat.gcd_rec b a, Nat.gcd_comm]
      rw [e] at ih
      have h1 : 0 < b := by omega
      have ht : (tOp2 gtD (pV 1) (pE (eC (.int 0)))) [iv a, iv b] m = .ok true [iv a, iv b] m := by simp [gtD_int, h1]
      have hs : (sPar [0, 1] (aCons (eV 1) (aCons (eOp2 modD (pV 0) (pV 1)) aNil))) [iv a, iv b] m = .nx [iv b, iv (a % b)] m := by simp [modD_ok h0 hm]
      rw [ht]
      dsimp only
      rw [hs]
      exact ih
theorem common_spec (n a b : Nat) (hb : b < fuel) (m : Mem) : f3 (callN n) [.int a, .int b] m = .ok (.int (Nat.gcd a b : Nat)) m := by
  have h := common_loop m fuel b a hb
  unfold f3 b3
  simp [sWhile, h]
theorem c1 (n : Nat) : callN (n + 1) 1 = f1 (callN n) := rfl
theorem c2 (n : Nat) : callN (n + 1) 2 = f2 (callN n) := rfl
theorem c3 (n : Nat) : callN (n + 1) 3 = f3 (callN n) := rfl
theorem c5 (n : Nat) : callN (n + 1) 5 = f5 (callN n) := rfl
theorem c6 (n : Nat) : callN (n + 1) 6 = f6 (callN n) := rfl
theorem c7 (n : Nat) : callN (n + 1) 7 = f7 (callN n) := rfl
theorem c8 (n : Nat) : callN (n + 1) 8 = f8 (callN n) := rfl
theorem c9 (n : Nat) : callN (n + 1) 9 = f9 (callN n) := rfl
theorem c10 (n : Nat) : callN (n + 1) 10 = f10 (callN n) := rfl
theorem is_integer_spec (n : Nat) (a : Int) (m : Mem) : f1 (callN n) [.int a] m = .ok (.bl true) m := by
  unfold f1 b1
  simp
theorem is_number_spec (n : Nat) (a lo hi : Int) (m : Mem) : f2 (callN (n + 1)) [.int a, .int lo, .int hi] m = .ok (.bl (decide (lo ≤ a) && decide (a ≤ hi))) m := by
  unfold f2 b2
  simp [c1, is_integer_spec, leD_int]
  by_cases h : lo ≤ a <;> simp [h, leD_int]
theorem check_odds_spec (n : Nat) (a d : Int) (m : Mem) (h1 : 1 ≤ a) (h2 : a ≤ 1000000000) (h3 : 0 ≤ d) (h4 : d ≤ 200) : f5 (callN (n + 2)) [.int a, .int d] m = .ok .non m := by
  unfold f5 b5
  simp [c2, is_number_spec, h1, h2, h3, h4]
theorem lowest_spec (n a b : Nat) (m : Mem) (h0 : 0 < b) (hb : b < 2 ^ 8000) : f6 (callN (n + 1)) [.int a, .int b] m = .ok (.tup [.int (a / Nat.gcd a b : Nat), .int (b / Nat.gcd a b : Nat)]) m := by
  have hg : 0 < Nat.gcd a b := Nat.gcd_pos_of_pos_right a h0
  have hle : Nat.gcd a b ≤ b := Nat.gcd_le_right a h0
  have hf : b < fuel := Nat.lt_trans hb (Nat.pow_lt_pow_right (by decide) (by decide))
  have hd : divOk (Nat.gcd a b : Nat) = true := divOk_of (by omega) (by
    rw [Int.natAbs_natCast]
    exact (Nat.log2_lt (by omega)).mpr (Nat.lt_trans (Nat.lt_of_le_of_lt hle hb) (Nat.pow_lt_pow_right (by decide) (by decide))))
  unfold f6 b6
  simp [c3, common_spec n a b hf, fdivD_ok hd (Int.natCast_ediv a _).symm, fdivD_ok hd (Int.natCast_ediv b _).symm, sz, sizeMax]
theorem is_less_spec (n : Nat) (p q a b : Int) (m : Mem) (hp : bits64 p = true) (hq : bits64 q = true) : f10 (callN n) [.tup [.int p, .int q], .tup [.int a, .int b]] m = .ok (.bl (decide (p * b < a * q))) m := by
  unfold f10 b10
  simp [ixD, idx, mulD_l hp rfl, mulD_r hq rfl, ltD_int]
/-! ### odds -/
def fall (n : Nat) : Nat → Nat
  | 0 => 1
  | k + 1 => fall n k * (n - k)
theorem fall_le (n : Nat) : ∀ k, fall n k ≤ n ^ k
  | 0 => Nat.le_refl _
  | k + 1 => by
    unfold fall
    rw [Nat.pow_succ]
    exact Nat.mul_le_mul (fall_le n k) (Nat.sub_le _ _)
def tn (i : Nat) : Option Sl := if i = 0 then none else iv (i - 1)
theorem max_sub (n i : Nat) : (if (n : Int) - (i : Int) > 0 then (n : Int) - (i : Int) else 0) = ((n - i : Nat) : Int) := by
  split <;> omega
abbrev zv (i : Int) : Option Sl := some (.v (.int i))
abbrev oddsB : Es := sPar [3, 4] (aCons (eOp2 mulD (pV 3) (pE (eB max2D (pCons (pE (eC (.int 0))) (pCons (pE (eOp2 subD (pV 0) (pV 2))) pNil))))) (aCons (eOp2 mulD (pV 4) (pV 0)) aNil))
theorem odds_body {N K I A B X A' B' : Int} (m : Mem) (h1 : max2D [.int 0, .int (N - I)] = some (.int X)) (h2 : mulD (.int A) (.int X) = some (.int A')) (h3 : mulD (.int B) (.int N) = some (.int B')) : oddsB [zv N, zv K, zv I, zv A, zv B] m = .nx [zv N, zv K, zv I, zv A', zv B'] m := by
  simp [h1, h2, h3]
def oddsL (n k : Nat) (i : Nat) : Loc := [iv n, iv k, tn i, iv (fall n i), iv (n ^ i)]
theorem odds_for (n k : Nat) (hn : n ≤ 1000000000) (m : Mem) : forLoop (.nm 2) oddsB (rangeL 0 k) (oddsL n k 0) m = .nx (oddsL n k k) m := by
  have h := for_count (tg := .nm 2) (b := oddsB) (f := fun i : Nat => .int (0 + (i : Nat))) (L := oddsL n k) (M := fun _ => m) k 0 (fun i _ hi => ?_)
  · rw [rangeL_eq]
    simpa using h
  · refine ⟨[iv n, iv k, zv i, iv (fall n i), iv (n ^ i)], by simp [oddsL, Tg.put], ?_⟩
    have b1 : bits64 ((n - i : Nat) : Int) = true := bits64_nat (by omega)
    have b2 : bits64 (n : Int) = true := bits64_nat (by omega)
    have hm : max2D [.int 0, .int ((n : Int) - (i : Int))] = some (.int ((n - i : Nat) : Int)) := by
      simp only [max2D]
      rw [max_sub]
    exact odds_body m hm (mulD_r b1 (Int.natCast_mul _ _).symm) (mulD_r b2 (by rw [Nat.pow_succ, Int.natCast_mul]))
theorem pow_lt (n k : Nat) (hn : n ≤ 1000000000) (hk : k ≤ 200) : n ^ k < 2 ^ 8000 := by
  have h1 : n ^ k ≤ (2 ^ 30) ^ k := Nat.pow_le_pow_left (Nat.le_trans hn (by decide)) k
  rw [← Nat.pow_mul] at h1
  exact Nat.lt_of_le_of_lt h1 (Nat.pow_lt_pow_right (by decide) (by omega))
theorem odds_put (n k : Nat) : Tg.put (.tp [(.nm 3), (.nm 4)]) (.tup [.int 1, .int 1]) [iv n, iv k, none, none, none] = some (oddsL n k 0) := by simp [oddsL, tn, fall]
theorem one_one (l : Loc) (m : Mem) : (eTup (aCons (eC (.int 1)) (aCons (eC (.int 1)) aNil))) l m = .ok (.tup [.int 1, .int 1]) l m := rfl
theorem apart_spec (c n k : Nat) (m : Mem) (h1 : 1 ≤ n) (hn : n ≤ 1000000000) (hk : k ≤ 200) : f7 (callN (c + 3)) [.int n, .int k] m = .ok (.tup [.int (fall n k / Nat.gcd (fall n k) (n ^ k) : Nat), .int (n ^ k / Nat.gcd (fall n k) (n ^ k) : Nat)]) m := by
  have hc : callN (c + 3) 5 [.int n, .int k] m = .ok .non m := by rw [c5]; exact check_odds_spec c n k m (by omega) (by omega) (by omega) (by omega)
  have hf := odds_for n k hn m
  have hl : callN (c + 3) 6 [.int (fall n k : Nat), .int (n ^ k : Nat)] m = .ok (.tup [.int (fall n k / Nat.gcd (fall n k) (n ^ k) : Nat), .int (n ^ k / Nat.gcd (fall n k) (n ^ k) : Nat)]) m := by rw [c6]; exact lowest_spec (c + 1) (fall n k) (n ^ k) m (Nat.pow_pos (by omega)) (pow_lt n k hn hk)
  have hs : small (k : Int) = true := small_nat (by omega)
  unfold f7
  rw [defD_eq (a := 2) (k := 3) (ds := [.int n, .int k]) rfl [iv n, iv k, none, none, none] rfl]
  unfold b7
  rw [seq_nx (drop_ok (call_ok (ds := [.int n, .int k]) (l' := [iv n, iv k, none, none, none]) (m' := m) (by simp) hc))]
  rw [seq_nx (asg_ok (one_one _ m) (odds_put n k))]
  rw [seq_nx ((for_ok (l' := oddsL n k 0) (m' := m) (ds := rangeL 0 k) (iA1 (e := eV 1) (l := oddsL n k 0) rfl (rangeD1_ok hs))).trans hf)]
  rw [ret_ok (call_ok (ds := [.int (fall n k : Nat), .int (n ^ k : Nat)]) (l' := oddsL n k k) (m' := m) (by simp [oddsL]) hl)]
  rfl
theorem div_div {a b : Nat} (hb : 0 < b) : 0 < b / Nat.gcd a b ∧ a = a / Nat.gcd a b * Nat.gcd a b ∧ b = b / Nat.gcd a b * Nat.gcd a b ∧ 0 < Nat.gcd a b := by
  have hg : 0 < Nat.gcd a b := Nat.gcd_pos_of_pos_right a hb
  refine ⟨Nat.div_pos (Nat.gcd_le_right a hb) hg, (Nat.div_mul_cancel (Nat.gcd_dvd_left a b)).symm, (Nat.div_mul_cancel (Nat.gcd_dvd_right a b)).symm, hg⟩
/-- the odds of a clash: in lowest terms, of n ^ k - fall n k to n ^ k -/
theorem clash_spec (c n k : Nat) (m : Mem) (h1 : 1 ≤ n) (hn : n ≤ 1000000000) (hk : k ≤ 200) : ∃ A B x : Nat, callN (c + 5) 8 [.int n, .int k] m = .ok (.tup [.int A, .int B]) m ∧ 0 < x ∧ n ^ k = B * x ∧ n ^ k - fall n k = A * x := by
  have ha : callN (c + 4) 7 [.int n, .int k] m = _ := apart_spec c n k m h1 hn hk
  obtain ⟨p1, p2, p3, p4⟩ := div_div (a := fall n k) (b := n ^ k) (Nat.pow_pos (by omega))
  have hle := fall_le n k
  generalize hg : Nat.gcd (fall n k) (n ^ k) = g at *
  generalize hA : fall n k / g = A at *
  generalize hB : n ^ k / g = B at *
  have hAB : A ≤ B := by rw [← hA, ← hB]; exact Nat.div_le_div_right hle
  have hBlt : B < 2 ^ 8000 := Nat.lt_of_le_of_lt (by rw [← hB]; exact Nat.div_le_self _ _) (pow_lt n k hn hk)
  have hl : callN (c + 4) 6 [.int (B - A : Nat), .int B] m = .ok (.tup [.int ((B - A) / Nat.gcd (B - A) B : Nat), .int (B / Nat.gcd (B - A) B : Nat)]) m := by rw [c6]; exact lowest_spec (c + 2) (B - A) B m p1 hBlt
  obtain ⟨q1, q2, q3, q4⟩ := div_div (a := B - A) (b := B) p1
  refine ⟨(B - A) / Nat.gcd (B - A) B, B / Nat.gcd (B - A) B, Nat.gcd (B - A) B * g, ?_, Nat.mul_pos q4 p4, ?_, ?_⟩
  · rw [c8]
    unfold f8
    rw [defD_eq (a := 2) (k := 2) (ds := [.int n, .int k]) rfl [iv n, iv k, none, none] rfl]
    unfold b8
    rw [seq_nx (asg_ok (l' := [iv n, iv k, none, none]) (m' := m) (d := .tup [.int A, .int B]) (l2 := [iv n, iv k, iv A, iv B]) (call_ok (ds := [.int n, .int k]) (by simp) ha) (by simp))]
    have e : ((B : Int) - (A : Int)) = ((B - A : Nat) : Int) := by omega
    rw [ret_ok (call_ok (ds := [.int (B - A : Nat), .int B]) (l' := [iv n, iv k, iv A, iv B]) (m' := m) (by simp [e]) hl)]
    rfl
  · rw [← Nat.mul_assoc, ← q3]; exact p3
  · rw [← Nat.mul_assoc, ← q2, Nat.sub_mul, ← p2, ← p3]
end G12
end

section
set_option autoImplicit false
set_option linter.all false
set_option maxRecDepth 100000
namespace G12
open DS
theorem check_fraction_spec (n : Nat) (p q : Int) (m : Mem) (h1 : 0 ≤ p) (h2 : p ≤ q) (h3 : 1 ≤ q) (h4 : q ≤ 1000000) : f9 (callN (n + 2)) [.tup [.int p, .int q]] m = .ok .non m := by
  have e1 : callN (n + 2) 2 [.int q, .int 1, .int 1000000] m = .ok (.bl true) m := by rw [c2, is_number_spec]; simp [h3, h4]
  have e2 : callN (n + 2) 2 [.int p, .int 0, .int q] m = .ok (.bl true) m := by rw [c2, is_number_spec]; simp [h1, h2]
  unfold f9 b9
  simp [ixD, idx, e1, e2, lenD, neD_int]
def Cl (n k p q : Nat) : Bool := decide ((n ^ k - fall n k) * q ≤ p * n ^ k)
theorem is_less_clash (c n k p q : Nat) (m : Mem) (h1 : 1 ≤ n) (hn : n ≤ 1000000000) (hk : k ≤ 200) (hp : p ≤ 100) (hq : q ≤ 100) : ∃ A B : Nat, callN (c + 5) 8 [.int n, .int k] m = .ok (.tup [.int A, .int B]) m ∧ callN (c + 1) 10 [.tup [.int p, .int q], .tup [.int A, .int B]] m = .ok (.bl (!Cl n k p q)) m := by
  obtain ⟨A, B, x, e, hx, hB, hA⟩ := clash_spec c n k m h1 hn hk
  refine ⟨A, B, e, ?_⟩
  rw [c10, is_less_spec c p q A B m (bits64_nat (by omega)) (bits64_nat (by omega))]
  have e2 : decide ((p : Int) * (B : Int) < (A : Int) * (q : Int)) = !Cl n k p q := by
    unfold Cl
    rw [hA, hB, ← decide_not]
    refine decide_eq_decide.mpr ?_
    rw [Nat.not_le, ← Int.natCast_mul, ← Int.natCast_mul, Int.ofNat_lt]
    constructor
    · intro h
      have := Nat.mul_lt_mul_of_pos_right h hx
      calc p * (B * x) = p * B * x := by rw [Nat.mul_assoc]
        _ < A * q * x := this
        _ = A * x * q := by rw [Nat.mul_right_comm]
    · intro h
      refine Nat.lt_of_mul_lt_mul_right (a := x) ?_
      calc p * B * x = p * (B * x) := by rw [Nat.mul_assoc]
        _ < A * x * q := h
        _ = A * q * x := by rw [Nat.mul_right_comm]
  rw [e2]
theorem c11 (n : Nat) : callN (n + 1) 11 = f11 (callN n) := rfl
theorem c12 (n : Nat) : callN (n + 1) 12 = f12 (callN n) := rfl
abbrev fr (p q : Nat) : D := .tup [.int p, .int q]
abbrev fv (p q : Nat) : Option Sl := some (.v (fr p q))
/-- the test asked of a number of names and drawn ones -/
theorem test_spec (c n k p q : Nat) (m : Mem) (h1 : 1 ≤ n) (hn : n ≤ 1000000000) (hk : k ≤ 200) (hp : p ≤ 100) (hq : q ≤ 100) {e1 e2 e3 : Ex} {l : Loc} (g1 : e1 l m = .ok (fr p q) l m) (g2 : e2 l m = .ok (.int n) l m) (g3 : e3 l m = .ok (.int k) l m) :
    (tOp1 truthD (pE (eCall (callN (c + 5)) 10 (aCons e1 (aCons (eCall (callN (c + 5)) 8 (aCons e2 (aCons e3 aNil))) aNil))))) l m = .ok (!Cl n k p q) l m := by
  obtain ⟨A, B, e, g⟩ := is_less_clash c n k p q m h1 hn hk hp hq
  have g' : callN (c + 5) 10 [fr p q, .tup [.int A, .int B]] m = .ok (.bl (!Cl n k p q)) m := by
    obtain ⟨A2, B2, e2, g2⟩ := is_less_clash c n k p q m h1 hn hk hp hq
    obtain ⟨A3, B3, e3, g3⟩ := is_less_clash (c + 4) n k p q m h1 hn hk hp hq
    have := g
    rw [c10] at this ⊢
    exact this
  have hcall : eCall (callN (c + 5)) 10 (aCons e1 (aCons (eCall (callN (c + 5)) 8 (aCons e2 (aCons e3 aNil))) aNil)) l m = .ok (.bl (!Cl n k p q)) l m :=
    call_ok (aC g1 (aC1 (call_ok (aC g2 (aC1 g3)) e))) g'
  unfold tOp1 pE
  rw [hcall]
  rfl
def mdL (n p q i : Nat) : Loc := [iv n, fv p q, tn i]
theorem most_drawn_spec (c n p q J : Nat) (m : Mem) (h1 : 1 ≤ n) (hn : n ≤ 1000000000) (hpq : p ≤ q) (hq1 : 1 ≤ q) (hq : q ≤ 100) (hJ : J ≤ 200) (hj1 : ∀ i < J, Cl n i p q = true) (hj2 : Cl n J p q = false) : callN (c + 6) 11 [.int n, fr p q] m = .ok (.int ((J : Int) - 1)) m := by
  have e1 : callN (c + 5) 5 [.int n, .int 0] m = .ok .non m := by rw [c5]; exact check_odds_spec (c + 2) n 0 m (by omega) (by omega) (by omega) (by omega)
  have e2 : callN (c + 5) 9 [fr p q] m = .ok .non m := by rw [c9]; exact check_fraction_spec (c + 2) p q m (by omega) (by omega) (by omega) (by omega)
  have hf := for_find (tg := .nm 2) (b := sIf (tOp1 truthD (pE (eCall (callN (c + 5)) 10 (aCons (eV 1) (aCons (eCall (callN (c + 5)) 8 (aCons (eV 0) (aCons (eV 2) aNil))) aNil))))) (sRet (eOp2 subD (pV 2) (pE (eC (.int 1))))) sPass)
    (f := fun i : Nat => .int (0 + (i : Nat))) (L := mdL n p q) (M := fun _ => m) (d := .int ((J : Int) - 1)) (l' := mdL n p q (J + 1)) (m' := m) J 201 0 (by omega) (fun i _ hi => ?_) ?_
  · rw [c11]
    unfold f11
    rw [defD_eq (a := 2) (k := 1) (ds := [.int n, fr p q]) rfl (mdL n p q 0) rfl]
    unfold b11
    rw [seq_nx (drop_ok (call_ok (ds := [.int n, .int 0]) (l' := mdL n p q 0) (m' := m) (by rfl) e1))]
    rw [seq_nx (drop_ok (call_ok (ds := [fr p q]) (l' := mdL n p q 0) (m' := m) (by rfl) e2))]
    rw [seq_rt ((for_ok (l' := mdL n p q 0) (m' := m) (ds := rangeL 0 201) (by rfl)).trans (by rw [rangeL_eq]; exact hf))]
    rfl
  · refine ⟨mdL n p q (i + 1), by simp [mdL, tn], ?_⟩
    have t := test_spec c n i p q m h1 hn (by omega) (by omega) (by omega) (e1 := eV 1) (e2 := eV 0) (e3 := eV 2) (l := mdL n p q (i + 1)) rfl rfl rfl
    rw [hj1 i (by omega)] at t
    rw [if_f t]
    rfl
  · refine ⟨mdL n p q (J + 1), by simp [mdL, tn], ?_⟩
    have t := test_spec c n J p q m h1 hn (by omega) (by omega) (by omega) (e1 := eV 1) (e2 := eV 0) (e3 := eV 2) (l := mdL n p q (J + 1)) rfl rfl rfl
    rw [hj2] at t
    rw [if_t t]
    exact ret_ok rfl
theorem most_drawn_none (c n p q : Nat) (m : Mem) (h1 : 1 ≤ n) (hn : n ≤ 1000000000) (hpq : p ≤ q) (hq1 : 1 ≤ q) (hq : q ≤ 100) (hj1 : ∀ i < 201, Cl n i p q = true) : callN (c + 6) 11 [.int n, fr p q] m = .ok .non m := by
  have e1 : callN (c + 5) 5 [.int n, .int 0] m = .ok .non m := by rw [c5]; exact check_odds_spec (c + 2) n 0 m (by omega) (by omega) (by omega) (by omega)
  have e2 : callN (c + 5) 9 [fr p q] m = .ok .non m := by rw [c9]; exact check_fraction_spec (c + 2) p q m (by omega) (by omega) (by omega) (by omega)
  have hf := for_count (tg := .nm 2) (b := sIf (tOp1 truthD (pE (eCall (callN (c + 5)) 10 (aCons (eV 1) (aCons (eCall (callN (c + 5)) 8 (aCons (eV 0) (aCons (eV 2) aNil))) aNil))))) (sRet (eOp2 subD (pV 2) (pE (eC (.int 1))))) sPass)
    (f := fun i : Nat => .int (0 + (i : Nat))) (L := mdL n p q) (M := fun _ => m) 201 0 (fun i _ hi => ?_)
  · rw [c11]
    unfold f11
    rw [defD_eq (a := 2) (k := 1) (ds := [.int n, fr p q]) rfl (mdL n p q 0) rfl]
    unfold b11
    rw [seq_nx (drop_ok (call_ok (ds := [.int n, .int 0]) (l' := mdL n p q 0) (m' := m) (by rfl) e1))]
    rw [seq_nx (drop_ok (call_ok (ds := [fr p q]) (l' := mdL n p q 0) (m' := m) (by rfl) e2))]
    rw [seq_nx ((for_ok (l' := mdL n p q 0) (m' := m) (ds := rangeL 0 201) (by rfl)).trans (by rw [rangeL_eq]; exact hf))]
    rfl
  · refine ⟨mdL n p q (i + 1), by simp [mdL, tn], ?_⟩
    have t := test_spec c n i p q m h1 hn (by omega) (by omega) (by omega) (e1 := eV 1) (e2 := eV 0) (e3 := eV 2) (l := mdL n p q (i + 1)) rfl rfl rfl
    rw [hj1 i (by omega)] at t
    rw [if_f t]
    rfl
end G12
end

section
set_option autoImplicit false
set_option linter.all false
set_option maxRecDepth 100000
namespace G12
open DS
theorem dats_ints (k : Nat) : ∀ ns : List Int, D.dats k (ns.map .int) = true
  | [] => by simp [D.dats]
  | n :: ns => by simp [D.dats, D.dat, dats_ints k ns]
theorem ne_nil (ns : List Int) : neD (.lst (ns.map .int)) (.lst []) = some (!ns.isEmpty) := by
  have h1 : D.dat 8 (.lst (ns.map .int)) = true := by simp [D.dat, dats_ints]
  have h2 : D.dat 8 (.lst []) = true := by simp [D.dat, D.dats]
  unfold neD
  rw [h1, h2]
  cases ns <;> simp [D.eqv, D.eqvs]
theorem ix_ints (ns : List Int) (i : Nat) (h : i < ns.length) : ∃ z, ixD (.lst (ns.map .int)) (.int i) = some (.int z) := by
  refine ⟨ns[i], ?_⟩
  have h1 : idx (ns.map D.int).length (i : Int) = some i := by
    unfold idx
    rw [if_pos (by omega), if_pos (by rw [List.length_map]; omega)]
    simp
  show (match idx (ns.map D.int).length (i : Int) with | some j => (ns.map D.int)[j]? | none => none) = _
  rw [h1]
  simp [h]
theorem rest_loop (c i u v : Option Sl) (S : D) (m : Mem) : ∀ (ds : List D) (r : Int) (t : Option Sl), ∃ (r' : Int) (t' : Option Sl), forLoop (.nm 3) (sSet 2 (eOp2 fdivD (pV 2) (pE (eC (.int 1009))))) ds [some (.v S), i, zv r, t, none, u, v] m = .nx [some (.v S), i, zv r', t', none, u, v] m
  | [], r, t => ⟨r, t, rfl⟩
  | d :: ds, r, t => by
    obtain ⟨r', t', h⟩ := rest_loop c i u v S m ds (r / 1009) (some (.v d))
    refine ⟨r', t', ?_⟩
    have e : fdivD (.int r) (.int 1009) = some (.int (r / 1009)) := fdivD_ok (by decide) rfl
    have hb : sSet 2 (eOp2 fdivD (pV 2) (pE (eC (.int 1009)))) [some (.v S), i, zv r, some (.v d), none, u, v] m = .nx [some (.v S), i, zv (r / 1009), some (.v d), none, u, v] m := by simp [e]
    rw [for_step (l1 := [some (.v S), i, zv r, some (.v d), none, u, v]) (by simp) hb]
    exact h
theorem number_end (c : Nat) (S : D) (i n cell turn rest : Int) (t : Option Sl) (m : Mem) (hS : lenD [S] = some (.int n)) (hn : bits64 n = true) (hi : bits64 i = true) : ∃ r : Int, 0 ≤ r ∧ endR ((sSeq (sIf (tOp2 gtD (pV 2) (pE (eC (.int 0)))) (sRet (eOp2 modD (pE (eB intD (pCons (pV 2) pNil))) (pE (eC (.int 1009))))) sPass)
  (sSeq (sSet 4 (eOp2 modD (pE (eOp2 addD (pE (eOp2 mulD (pE (eB intD (pCons (pE (eOp2 addD (pV 5) (pE (eOp2 mulD (pE (eC (.int 977))) (pV 1))))) pNil))) (pE (eC (.int 48271))))) (pE (eOp2 mulD (pE (eC (.int 31))) (pE (eB lenD (pCons (pV 0) pNil))))))) (pE (eC (.int 2147483647)))))
  (sSeq (sSet 4 (eOp2 modD (pE (eOp2 addD (pE (eOp2 mulD (pV 4) (pV 4))) (pE (eOp2 mulD (pE (eC (.int 40503))) (pV 1))))) (pE (eC (.int 2147483629)))))
  (sRet (eB intD (pCons (pE (eOp2 modD (pE (eOp2 addD (pE (eOp2 mulD (pV 4) (pE (eC (.int 69621))))) (pE (eOp2 fdivD (pV 4) (pE (eC (.int 977))))))) (pE (eC (.int 2147483587))))) pNil)))))) [some (.v S), zv i, zv rest, t, none, zv cell, zv turn] m) = .ok (.int r) m := by
  by_cases h : 0 < rest
  · refine ⟨rest % 1009, Int.emod_nonneg _ (by decide), ?_⟩
    have e : modD (.int rest) (.int 1009) = some (.int (rest % 1009)) := modD_ok (by decide) rfl
    have ht : tOp2 gtD (pV 2) (pE (eC (.int 0))) [some (.v S), zv i, zv rest, t, none, zv cell, zv turn] m = .ok true [some (.v S), zv i, zv rest, t, none, zv cell, zv turn] m := by simp [gtD_int, h]
    have hr : sRet (eOp2 modD (pE (eB intD (pCons (pV 2) pNil))) (pE (eC (.int 1009)))) [some (.v S), zv i, zv rest, t, none, zv cell, zv turn] m = .rt (.int (rest % 1009)) [some (.v S), zv i, zv rest, t, none, zv cell, zv turn] m := by simp [intD, e]
    rw [seq_rt ((if_t ht).trans hr)]
    rfl
  · have ht : tOp2 gtD (pV 2) (pE (eC (.int 0))) [some (.v S), zv i, zv rest, t, none, zv cell, zv turn] m = .ok false [some (.v S), zv i, zv rest, t, none, zv cell, zv turn] m := by simp [gtD_int, h]
    rw [seq_nx (if_p ht)]
    have m1 : mulD (.int 977) (.int i) = some (.int (977 * i)) := mulD_r hi rfl
    have m2 : mulD (.int (cell + 977 * i)) (.int 48271) = some (.int ((cell + 977 * i) * 48271)) := mulD_r (by decide) rfl
    have m3 : mulD (.int 31) (.int n) = some (.int (31 * n)) := mulD_l (by decide) rfl
    generalize hb1 : ((cell + 977 * i) * 48271 + 31 * n) % 2147483647 = b1
    have m4 : modD (.int ((cell + 977 * i) * 48271 + 31 * n)) (.int 2147483647) = some (.int b1) := modD_ok (by decide) hb1
    have s1 : sSet 4 (eOp2 modD (pE (eOp2 addD (pE (eOp2 mulD (pE (eB intD (pCons (pE (eOp2 addD (pV 5) (pE (eOp2 mulD (pE (eC (.int 977))) (pV 1))))) pNil))) (pE (eC (.int 48271))))) (pE (eOp2 mulD (pE (eC (.int 31))) (pE (eB lenD (pCons (pV 0) pNil))))))) (pE (eC (.int 2147483647)))) [some (.v S), zv i, zv rest, t, none, zv cell, zv turn] m = .nx [some (.v S), zv i, zv rest, t, zv b1, zv cell, zv turn] m := by
      simp [m1, intD, m2, hS, m3, m4]
    rw [seq_nx s1]
    have k0 : 0 ≤ b1 := by rw [← hb1]; exact Int.emod_nonneg _ (by decide)
    have k1 : b1 < 2147483647 := by rw [← hb1]; exact Int.emod_lt_of_pos _ (by decide)
    have kb : bits64 b1 = true := by
      obtain ⟨N, rfl⟩ := Int.eq_ofNat_of_zero_le k0
      exact bits64_nat (by omega)
    have m5 : mulD (.int b1) (.int b1) = some (.int (b1 * b1)) := mulD_r kb rfl
    have m6 : mulD (.int 40503) (.int i) = some (.int (40503 * i)) := mulD_l (by decide) rfl
    generalize hb2 : (b1 * b1 + 40503 * i) % 2147483629 = b2
    have m7 : modD (.int (b1 * b1 + 40503 * i)) (.int 2147483629) = some (.int b2) := modD_ok (by decide) hb2
    have s2 : sSet 4 (eOp2 modD (pE (eOp2 addD (pE (eOp2 mulD (pV 4) (pV 4))) (pE (eOp2 mulD (pE (eC (.int 40503))) (pV 1))))) (pE (eC (.int 2147483629)))) [some (.v S), zv i, zv rest, t, zv b1, zv cell, zv turn] m = .nx [some (.v S), zv i, zv rest, t, zv b2, zv cell, zv turn] m := by
      simp [m5, m6, m7]
    rw [seq_nx s2]
    have m8 : mulD (.int b2) (.int 69621) = some (.int (b2 * 69621)) := mulD_r (by decide) rfl
    have m9 : fdivD (.int b2) (.int 977) = some (.int (b2 / 977)) := fdivD_ok (by decide) rfl
    have m10 : modD (.int (b2 * 69621 + b2 / 977)) (.int 2147483587) = some (.int ((b2 * 69621 + b2 / 977) % 2147483587)) := modD_ok (by decide) rfl
    have s3 : sRet (eB intD (pCons (pE (eOp2 modD (pE (eOp2 addD (pE (eOp2 mulD (pV 4) (pE (eC (.int 69621))))) (pE (eOp2 fdivD (pV 4) (pE (eC (.int 977))))))) (pE (eC (.int 2147483587))))) pNil)) [some (.v S), zv i, zv rest, t, zv b2, zv cell, zv turn] m = .rt (.int ((b2 * 69621 + b2 / 977) % 2147483587)) [some (.v S), zv i, zv rest, t, zv b2, zv cell, zv turn] m := by
      simp [m8, m9, m10, intD]
    rw [s3]
    exact ⟨_, Int.emod_nonneg _ (by decide), rfl⟩
theorem number_spec (c : Nat) (ns : List Int) (i : Nat) (m : Mem) (hl : ns.length ≤ 63) (hi : i < 18446744073709551616) : ∃ r : Int, 0 ≤ r ∧ callN (c + 1) 15 [.lst (ns.map .int), .int i] m = .ok (.int r) m := by
  have key : ∀ cell turn : Int, ∃ r : Int, 0 ≤ r ∧ endR ((sSeq (sSet 2 (eIf (tOp2 ltD (pV 6) (pE (eC (.int 60)))) (eOp2 subD (pV 5) (pE (eOp2 powD (pE (eC (.int 10))) (pE (eC (.int 18)))))) (eC (.int 0))))
  (sSeq (sFor (.nm 3) (iA (aCons (eOp2 modD (pE (eB intD (pCons (pV 6) pNil))) (pE (eC (.int 60)))) aNil) rangeD1) (sSet 2 (eOp2 fdivD (pV 2) (pE (eC (.int 1009))))))
  (sSeq (sIf (tOp2 gtD (pV 2) (pE (eC (.int 0)))) (sRet (eOp2 modD (pE (eB intD (pCons (pV 2) pNil))) (pE (eC (.int 1009))))) sPass)
  (sSeq (sSet 4 (eOp2 modD (pE (eOp2 addD (pE (eOp2 mulD (pE (eB intD (pCons (pE (eOp2 addD (pV 5) (pE (eOp2 mulD (pE (eC (.int 977))) (pV 1))))) pNil))) (pE (eC (.int 48271))))) (pE (eOp2 mulD (pE (eC (.int 31))) (pE (eB lenD (pCons (pV 0) pNil))))))) (pE (eC (.int 2147483647)))))
  (sSeq (sSet 4 (eOp2 modD (pE (eOp2 addD (pE (eOp2 mulD (pV 4) (pV 4))) (pE (eOp2 mulD (pE (eC (.int 40503))) (pV 1))))) (pE (eC (.int 2147483629)))))
  (sRet (eB intD (pCons (pE (eOp2 modD (pE (eOp2 addD (pE (eOp2 mulD (pV 4) (pE (eC (.int 69621))))) (pE (eOp2 fdivD (pV 4) (pE (eC (.int 977))))))) (pE (eC (.int 2147483587))))) pNil)))))))) [some (.v (.lst (ns.map .int))), iv i, none, none, none, zv cell, zv turn] m) = .ok (.int r) m := by
    intro cell turn
    have hp : powD (.int 10) (.int 18) = some (.int 1000000000000000000) := by rfl
    have s1 : sSet 2 (eIf (tOp2 ltD (pV 6) (pE (eC (.int 60)))) (eOp2 subD (pV 5) (pE (eOp2 powD (pE (eC (.int 10))) (pE (eC (.int 18)))))) (eC (.int 0))) [some (.v (.lst (ns.map .int))), iv i, none, none, none, zv cell, zv turn] m = .nx [some (.v (.lst (ns.map .int))), iv i, zv (if turn < 60 then cell - 1000000000000000000 else 0), none, none, zv cell, zv turn] m := by
      by_cases h : turn < 60
      · simp [ltD_int, h, hp]
      · simp [ltD_int, h]
    rw [seq_nx s1]
    generalize (if turn < 60 then cell - 1000000000000000000 else 0) = rest
    have k0 : 0 ≤ turn % 60 := Int.emod_nonneg _ (by decide)
    have k1 : turn % 60 < 60 := Int.emod_lt_of_pos _ (by decide)
    generalize ht : turn % 60 = T at k0 k1
    have e1 : modD (.int turn) (.int 60) = some (.int T) := modD_ok (by decide) ht
    have hs : small T = true := by
      obtain ⟨N, rfl⟩ := Int.eq_ofNat_of_zero_le k0
      exact small_nat (by omega)
    have e2 : (eOp2 modD (pE (eB intD (pCons (pV 6) pNil))) (pE (eC (.int 60)))) [some (.v (.lst (ns.map .int))), iv i, zv rest, none, none, zv cell, zv turn] m = .ok (.int T) [some (.v (.lst (ns.map .int))), iv i, zv rest, none, none, zv cell, zv turn] m := by simp [intD, e1]
    obtain ⟨r', t', hf⟩ := rest_loop none (iv i) (zv cell) (zv turn) (.lst (ns.map .int)) m (rangeL 0 T) rest none
    rw [seq_nx ((for_ok (iA1 e2 (rangeD1_ok hs))).trans hf)]
    exact number_end c (.lst (ns.map .int)) i ns.length cell turn r' t' m (by simp [lenD]) (bits64_nat (by omega)) (bits64_nat hi)
  show ∃ r : Int, 0 ≤ r ∧ f15 (callN c) [.lst (ns.map .int), .int i] m = .ok (.int r) m
  unfold f15
  rw [defD_eq (a := 2) (k := 5) (ds := [.lst (ns.map .int), .int i]) rfl [some (.v (.lst (ns.map .int))), iv i, none, none, none, none, none] rfl]
  unfold b15
  have hne := ne_nil ns
  by_cases hn : ns = []
  · have e0 : neD (.lst (ns.map .int)) (.lst []) = some false := by rw [hne, hn]; rfl
    have s0 : sAsg (.tp [(.nm 5), (.nm 6)]) (eIf (tOp2 neD (pV 0) (pE (eLst aNil))) (eTup (aCons (eIx (pV 0) (pE (eOp2 modD (pV 1) (pE (eB lenD (pCons (pV 0) pNil)))))) (aCons (eOp2 fdivD (pV 1) (pE (eB lenD (pCons (pV 0) pNil)))) aNil))) (eTup (aCons (eC (.int 12345)) (aCons (eC (.int 0)) aNil)))) [some (.v (.lst (ns.map .int))), iv i, none, none, none, none, none] m = .nx [some (.v (.lst (ns.map .int))), iv i, none, none, none, zv 12345, zv 0] m := by
      simp [e0, sz, sizeMax]
    rw [seq_nx s0]
    exact key _ _
  · have hlen : 0 < ns.length := List.length_pos_iff.mpr hn
    have e0 : neD (.lst (ns.map .int)) (.lst []) = some true := by rw [hne]; cases ns with
      | nil => exact absurd rfl hn
      | cons a b => rfl
    have e1 : lenD [.lst (ns.map .int)] = some (.int ns.length) := by simp [lenD]
    have e2 : modD (.int i) (.int ns.length) = some (.int (i % ns.length : Nat)) := modD_ok (by omega) (by simp)
    obtain ⟨z, e3⟩ := ix_ints ns (i % ns.length) (Nat.mod_lt _ hlen)
    have e4 : fdivD (.int i) (.int ns.length) = some (.int (i / ns.length : Nat)) := fdivD_ok (divOk_of (by omega) (by
      rw [Int.natAbs_natCast]
      exact (Nat.log2_lt (by omega)).mpr (Nat.lt_of_le_of_lt hl (Nat.lt_trans (by decide : 63 < 2 ^ 6) (Nat.pow_lt_pow_right (by decide) (by decide)))))) (by simp)
    generalize (i % ns.length : Nat) = I at e2 e3
    generalize (i / ns.length : Nat) = J at e4
    have s0 : sAsg (.tp [(.nm 5), (.nm 6)]) (eIf (tOp2 neD (pV 0) (pE (eLst aNil))) (eTup (aCons (eIx (pV 0) (pE (eOp2 modD (pV 1) (pE (eB lenD (pCons (pV 0) pNil)))))) (aCons (eOp2 fdivD (pV 1) (pE (eB lenD (pCons (pV 0) pNil)))) aNil))) (eTup (aCons (eC (.int 12345)) (aCons (eC (.int 0)) aNil)))) [some (.v (.lst (ns.map .int))), iv i, none, none, none, none, none] m = .nx [some (.v (.lst (ns.map .int))), iv i, none, none, none, zv z, iv J] m := by
      simp [e0, e1, e2, e3, e4, sz, sizeMax]
    rw [seq_nx s0]
    exact key _ _
end G12
end

section
set_option autoImplicit false
set_option linter.all false
set_option maxRecDepth 100000
namespace G12
open DS
def Mt (ns : List Int) (t : Nat) : Mem := [.lst [.lst (ns.map .int), .int t]]
theorem take_spec (c : Nat) (ns : List Int) (t k : Nat) (hl : ns.length ≤ 63) (ht : t < 1000000) (hk : 0 < k) : ∃ r : Nat, r < k ∧ callN (c + 2) 16 [.cell 0, .int k] (Mt ns t) = .ok (.int r) (Mt ns (t + 1)) := by
  obtain ⟨r, h0, hn⟩ := number_spec c ns (t + 1) (Mt ns (t + 1)) hl (by omega)
  obtain ⟨R, rfl⟩ := Int.eq_ofNat_of_zero_le h0
  refine ⟨R % k, Nat.mod_lt _ hk, ?_⟩
  show f16 (callN (c + 1)) [.cell 0, .int k] (Mt ns t) = _
  unfold f16
  rw [defD_eq (a := 2) (k := 0) (ds := [.cell 0, .int k]) rfl [some (.v (.cell 0)), iv k] rfl]
  unfold b16
  have s1 : sAugP addI 0 (eC (.int 1)) (eC (.int 1)) [some (.v (.cell 0)), iv k] (Mt ns t) = .nx [some (.v (.cell 0)), iv k] (Mt ns (t + 1)) := rfl
  rw [seq_nx s1]
  have e1 : modD (.int R) (.int k) = some (.int (R % k : Nat)) := modD_ok (by omega) (by simp)
  have g1 : eIx (pV 0) (pE (eC (.int 0))) [some (.v (.cell 0)), iv k] (Mt ns (t + 1)) = .ok (.lst (ns.map .int)) [some (.v (.cell 0)), iv k] (Mt ns (t + 1)) := rfl
  have g2 : eB intD (pCons (pE (eIx (pV 0) (pE (eC (.int 1))))) pNil) [some (.v (.cell 0)), iv k] (Mt ns (t + 1)) = .ok (.int (t + 1 : Nat)) [some (.v (.cell 0)), iv k] (Mt ns (t + 1)) := rfl
  have g3 : eCall (callN (c + 1)) 15 (aCons (eIx (pV 0) (pE (eC (.int 0)))) (aCons (eB intD (pCons (pE (eIx (pV 0) (pE (eC (.int 1))))) pNil)) aNil)) [some (.v (.cell 0)), iv k] (Mt ns (t + 1)) = .ok (.int R) [some (.v (.cell 0)), iv k] (Mt ns (t + 1)) :=
    call_ok (aC g1 (aC1 g2)) hn
  have g4 : eOp2 modD (pE (eB intD (pCons (pE (eCall (callN (c + 1)) 15 (aCons (eIx (pV 0) (pE (eC (.int 0)))) (aCons (eB intD (pCons (pE (eIx (pV 0) (pE (eC (.int 1))))) pNil)) aNil)))) pNil))) (pV 1) [some (.v (.cell 0)), iv k] (Mt ns (t + 1)) = .ok (.int (R % k : Nat)) [some (.v (.cell 0)), iv k] (Mt ns (t + 1)) := by
    generalize eCall (callN (c + 1)) 15 (aCons (eIx (pV 0) (pE (eC (.int 0)))) (aCons (eB intD (pCons (pE (eIx (pV 0) (pE (eC (.int 1))))) pNil)) aNil)) = E at g3
    simp [g3, intD, e1]
  rw [ret_ok g4]
  rfl
/-! ### the law's own clash -/
def clL (n k i : Nat) : Loc := [iv n, iv k, tn i, iv (fall n i), iv (n ^ i)]
theorem law_clash_spec (c n k : Nat) (m : Mem) (hn : n ≤ 1000000000) (hk : k ≤ 1000) : callN (c + 1) 19 [.int n, .int k] m = .ok (.tup [.int (n ^ k - fall n k : Nat), .int (n ^ k : Nat)]) m := by
  have hf := odds_for n k hn m
  have hs : small (k : Int) = true := small_nat (by omega)
  have hle := fall_le n k
  show f19 (callN c) [.int n, .int k] m = _
  unfold f19
  rw [defD_eq (a := 2) (k := 3) (ds := [.int n, .int k]) rfl [iv n, iv k, none, none, none] rfl]
  unfold b19
  rw [seq_nx (asg_ok (one_one _ m) (odds_put n k))]
  rw [seq_nx ((for_ok (l' := oddsL n k 0) (m' := m) (ds := rangeL 0 k) (iA1 (e := eV 1) (l := oddsL n k 0) rfl (rangeD1_ok hs))).trans hf)]
  have e : ((n ^ k : Nat) : Int) - ((fall n k : Nat) : Int) = ((n ^ k - fall n k : Nat) : Int) := by omega
  have g : eTup (aCons (eOp2 subD (pV 4) (pV 3)) (aCons (eV 4) aNil)) (oddsL n k k) m = .ok (.tup [.int (((n ^ k : Nat) : Int) - ((fall n k : Nat) : Int)), .int (n ^ k : Nat)]) (oddsL n k k) m := rfl
  rw [e] at g
  rw [ret_ok g]
  rfl
/-! ### how the condition goes -/
theorem Cl_pred {n k p q : Nat} (hn : 0 < n) (h : Cl n (k + 1) p q = true) : Cl n k p q = true := by
  unfold Cl at *
  rw [decide_eq_true_eq] at *
  have h1 : fall n (k + 1) ≤ fall n k * n := Nat.mul_le_mul_left _ (Nat.sub_le _ _)
  rw [Nat.pow_succ] at h
  have h2 : (n ^ k - fall n k) * n ≤ n ^ k * n - fall n (k + 1) := by rw [Nat.sub_mul]; omega
  refine Nat.le_of_mul_le_mul_right (c := n) ?_ hn
  calc (n ^ k - fall n k) * q * n = (n ^ k - fall n k) * n * q := by rw [Nat.mul_right_comm]
    _ ≤ (n ^ k * n - fall n (k + 1)) * q := Nat.mul_le_mul_right _ h2
    _ ≤ p * (n ^ k * n) := h
    _ = p * n ^ k * n := by rw [Nat.mul_assoc]
theorem Cl_le {n i p q : Nat} (hn : 0 < n) : ∀ {j : Nat}, i ≤ j → Cl n j p q = true → Cl n i p q = true
  | 0, h, e => by
    have : i = 0 := by omega
    subst this; exact e
  | j + 1, h, e => by
    by_cases hi : i = j + 1
    · subst hi; exact e
    · exact Cl_le hn (by omega) (Cl_pred hn e)
theorem Cl_zero (n p q : Nat) : Cl n 0 p q = true := by simp [Cl, fall]
/-- the first place up to N at which it fails, N without -/
theorem Cl_first (n p q : Nat) : ∀ N, ∃ J, J ≤ N ∧ (∀ i < J, Cl n i p q = true) ∧ (J < N → Cl n J p q = false)
  | 0 => ⟨0, Nat.le_refl _, fun i h => absurd h (Nat.not_lt_zero _), fun h => absurd h (Nat.not_lt_zero _)⟩
  | N + 1 => by
    obtain ⟨J, h1, h2, h3⟩ := Cl_first n p q N
    by_cases hJ : J < N
    · exact ⟨J, by omega, h2, fun _ => h3 hJ⟩
    · have : J = N := by omega
      subst this
      cases hc : Cl n J p q with
      | true =>
        refine ⟨J + 1, Nat.le_refl _, fun i hi => ?_, fun h => by omega⟩
        by_cases hi2 : i = J
        · subst hi2; exact hc
        · exact h2 i (by omega)
      | false => exact ⟨J, by omega, h2, fun _ => hc⟩
end G12
end

section
set_option autoImplicit false
set_option linter.all false
set_option maxRecDepth 100000
namespace G12
open DS
def goodB (c : Nat) : Es := sSeq (sAsg (.tp [(.nm 18), (.nm 19)]) (eCall (callN (c + 1)) 19 (aCons (eV 6) (aCons (eV 8) aNil))))
  (sIf (tOp2 leD (pE (eOp2 mulD (pV 18) (pE (eIx (pV 5) (pE (eC (.int 1))))))) (pE (eOp2 mulD (pE (eIx (pV 5) (pE (eC (.int 0))))) (pV 19)))) (sApp 7 (eV 8)) sPass)
section
variable (s0 s1 s2 s3 s4 s9 s10 s11 s12 s13 s14 s15 s16 s17 s20 s21 : Option Sl)
abbrev frm (f5 f6 f7 f8 f18 f19 : Option Sl) : Loc := [s0, s1, s2, s3, s4, f5, f6, f7, f8, s9, s10, s11, s12, s13, s14, s15, s16, s17, f18, f19, s20, s21]
theorem cl_test0 {P Q A B X Y : Int} {r : Bool} {f6 f7 f8 : Option Sl} (m : Mem) (h1 : mulD (.int A) (.int Q) = some (.int X)) (h2 : mulD (.int P) (.int B) = some (.int Y)) (h3 : leD (.int X) (.int Y) = some r) :
    (tOp2 leD (pE (eOp2 mulD (pV 18) (pE (eIx (pV 5) (pE (eC (.int 1))))))) (pE (eOp2 mulD (pE (eIx (pV 5) (pE (eC (.int 0))))) (pV 19)))) (frm s0 s1 s2 s3 s4 s9 s10 s11 s12 s13 s14 s15 s16 s17 s20 s21 (some (.v (.tup [.int P, .int Q]))) f6 f7 f8 (zv A) (zv B)) m = .ok r (frm s0 s1 s2 s3 s4 s9 s10 s11 s12 s13 s14 s15 s16 s17 s20 s21 (some (.v (.tup [.int P, .int Q]))) f6 f7 f8 (zv A) (zv B)) m := by
  simp [frm, ixD, idx, h1, h2, h3]
theorem le_nat (a b : Nat) : leD (.int a) (.int b) = some (decide (a ≤ b)) := by
  rw [leD_int]
  exact congrArg some (decide_eq_decide.mpr Int.ofNat_le)
theorem mul_nat_r {a b : Nat} (h : b ≤ 1000000000) : mulD (.int a) (.int b) = some (.int (a * b : Nat)) := mulD_r (bits64_nat (by omega)) (Int.natCast_mul _ _).symm
theorem mul_nat_l {a b : Nat} (h : a ≤ 1000000000) : mulD (.int a) (.int b) = some (.int (a * b : Nat)) := mulD_l (bits64_nat (by omega)) (Int.natCast_mul _ _).symm
theorem cl_test {p q : Nat} {A B : Nat} {f6 f7 f8 : Option Sl} (m : Mem) (hp : p ≤ 100) (hq : q ≤ 100) :
    (tOp2 leD (pE (eOp2 mulD (pV 18) (pE (eIx (pV 5) (pE (eC (.int 1))))))) (pE (eOp2 mulD (pE (eIx (pV 5) (pE (eC (.int 0))))) (pV 19)))) (frm s0 s1 s2 s3 s4 s9 s10 s11 s12 s13 s14 s15 s16 s17 s20 s21 (fv p q) f6 f7 f8 (iv A) (iv B)) m = .ok (decide (A * q ≤ p * B)) (frm s0 s1 s2 s3 s4 s9 s10 s11 s12 s13 s14 s15 s16 s17 s20 s21 (fv p q) f6 f7 f8 (iv A) (iv B)) m :=
  cl_test0 s0 s1 s2 s3 s4 s9 s10 s11 s12 s13 s14 s15 s16 s17 s20 s21 m (mul_nat_r (by omega)) (mul_nat_l (by omega)) (le_nat _ _)
def gd (J i : Nat) : List D := (List.range (min i J)).map fun k : Nat => .int k
theorem gd_succ {J i : Nat} (h : i < J) : gd J (i + 1) = gd J i ++ [.int i] := by
  unfold gd
  rw [Nat.min_eq_left (by omega : i + 1 ≤ J), Nat.min_eq_left (by omega : i ≤ J), List.range_succ, List.map_append]
  rfl
theorem gd_stay {J i : Nat} (h : J ≤ i) : gd J (i + 1) = gd J i := by
  unfold gd
  rw [Nat.min_eq_right (by omega : J ≤ i + 1), Nat.min_eq_right h]
def cu (N i : Nat) : Option Sl := if i = 0 then none else iv (N ^ (i - 1) - fall N (i - 1))
def cw (N i : Nat) : Option Sl := if i = 0 then none else iv (N ^ (i - 1))
def goodL (N p q J i : Nat) : Loc := frm s0 s1 s2 s3 s4 s9 s10 s11 s12 s13 s14 s15 s16 s17 s20 s21 (fv p q) (iv N) (some (.o (.lst (gd J i)))) (tn i) (cu N i) (cw N i)
theorem good_loop (c N p q J : Nat) (m : Mem) (h1 : 1 ≤ N) (hN : N ≤ 1000000000) (hp : p ≤ 100) (hq : q ≤ 100) (hJ : J ≤ 201) (hj1 : ∀ i < J, Cl N i p q = true) (hj2 : J < 201 → Cl N J p q = false) :
    forLoop (.nm 8) (goodB c) (rangeL 0 201) (goodL s0 s1 s2 s3 s4 s9 s10 s11 s12 s13 s14 s15 s16 s17 s20 s21 N p q J 0) m = .nx (goodL s0 s1 s2 s3 s4 s9 s10 s11 s12 s13 s14 s15 s16 s17 s20 s21 N p q J 201) m := by
  have h := for_count (tg := .nm 8) (b := goodB c) (f := fun i : Nat => .int (0 + (i : Nat))) (L := goodL s0 s1 s2 s3 s4 s9 s10 s11 s12 s13 s14 s15 s16 s17 s20 s21 N p q J) (M := fun _ => m) 201 0 (fun i _ hi => ?_)
  · rw [rangeL_eq]
    exact h
  · refine ⟨frm s0 s1 s2 s3 s4 s9 s10 s11 s12 s13 s14 s15 s16 s17 s20 s21 (fv p q) (iv N) (some (.o (.lst (gd J i)))) (iv i) (cu N i) (cw N i), by simp [goodL, frm], ?_⟩
    have hc := law_clash_spec c N i m hN (by omega)
    have ha : eCall (callN (c + 1)) 19 (aCons (eV 6) (aCons (eV 8) aNil)) (frm s0 s1 s2 s3 s4 s9 s10 s11 s12 s13 s14 s15 s16 s17 s20 s21 (fv p q) (iv N) (some (.o (.lst (gd J i)))) (iv i) (cu N i) (cw N i)) m = .ok (.tup [.int (N ^ i - fall N i : Nat), .int (N ^ i : Nat)]) (frm s0 s1 s2 s3 s4 s9 s10 s11 s12 s13 s14 s15 s16 s17 s20 s21 (fv p q) (iv N) (some (.o (.lst (gd J i)))) (iv i) (cu N i) (cw N i)) m := call_ok rfl hc
    have hcl : decide ((N ^ i - fall N i) * q ≤ p * N ^ i) = Cl N i p q := rfl
    have ct := cl_test s0 s1 s2 s3 s4 s9 s10 s11 s12 s13 s14 s15 s16 s17 s20 s21 (p := p) (q := q) (A := N ^ i - fall N i) (B := N ^ i) (f6 := iv N) (f7 := some (.o (.lst (gd J i)))) (f8 := iv i) m hp hq
    rw [hcl] at ct
    have eu : cu N (i + 1) = iv (N ^ i - fall N i) := by simp [cu]
    have ew : cw N (i + 1) = iv (N ^ i) := by simp [cw]
    have et : tn (i + 1) = iv i := by simp [tn]
    have hgl : goodL s0 s1 s2 s3 s4 s9 s10 s11 s12 s13 s14 s15 s16 s17 s20 s21 N p q J (i + 1) = frm s0 s1 s2 s3 s4 s9 s10 s11 s12 s13 s14 s15 s16 s17 s20 s21 (fv p q) (iv N) (some (.o (.lst (gd J (i + 1))))) (iv i) (iv (N ^ i - fall N i)) (iv (N ^ i)) := by
      unfold goodL
      rw [eu, ew, et]
    rw [hgl]
    unfold goodB
    rw [seq_nx (asg_ok (l2 := frm s0 s1 s2 s3 s4 s9 s10 s11 s12 s13 s14 s15 s16 s17 s20 s21 (fv p q) (iv N) (some (.o (.lst (gd J i)))) (iv i) (iv (N ^ i - fall N i)) (iv (N ^ i))) ha (by simp [frm]))]
    by_cases hi2 : i < J
    · rw [hj1 i hi2] at ct
      rw [if_t ct, gd_succ hi2]
      have hlen : (gd J i).length < sizeMax := by
        unfold gd sizeMax
        rw [List.length_map, List.length_range]
        omega
      have hap : appD (.lst (gd J i)) (.int i) = some (.lst (gd J i ++ [.int i])) := by
        show (if (gd J i).length < sizeMax then some (D.lst (gd J i ++ [.int i])) else none) = _
        rw [if_pos hlen]
      show (eV 8 (frm s0 s1 s2 s3 s4 s9 s10 s11 s12 s13 s14 s15 s16 s17 s20 s21 (fv p q) (iv N) (some (.o (.lst (gd J i)))) (iv i) (iv (N ^ i - fall N i)) (iv (N ^ i))) m).then (fun d l m => match cgGet l m 7 with
        | some o => cgSet l m 7 (appD o d)
        | none => .bad) = _
      show cgSet (frm s0 s1 s2 s3 s4 s9 s10 s11 s12 s13 s14 s15 s16 s17 s20 s21 (fv p q) (iv N) (some (.o (.lst (gd J i)))) (iv i) (iv (N ^ i - fall N i)) (iv (N ^ i))) m 7 (appD (.lst (gd J i)) (.int i)) = _
      rw [hap]
      rfl
    · have hf : Cl N i p q = false := by
        cases hc2 : Cl N i p q with
        | false => rfl
        | true =>
          have := Cl_le (n := N) (by omega) (show J ≤ i by omega) hc2
          rw [hj2 (by omega)] at this
          cases this
      rw [hf] at ct
      rw [if_p ct, gd_stay (by omega)]
end
end G12
end

section
set_option autoImplicit false
set_option linter.all false
set_option maxRecDepth 100000
namespace G12
open DS
theorem intsD_map {α : Type} (f : α → Int) : ∀ xs : List α, intsD (xs.map fun k => D.int (f k)) = some (xs.map f)
  | [] => rfl
  | x :: xs => by
    show (intsD (xs.map fun k => D.int (f k))).map (f x :: ·) = _
    rw [intsD_map f xs]
    rfl
theorem foldl_max : ∀ J : Nat, ((List.range J).map fun k : Nat => ((k + 1 : Nat) : Int)).foldl max 0 = (J : Int)
  | 0 => rfl
  | J + 1 => by
    rw [List.range_succ, List.map_append, List.foldl_append, foldl_max J]
    show max (J : Int) ((J + 1 : Nat) : Int) = _
    omega
theorem max_gd (J : Nat) (h : 1 ≤ J) (h2 : J ≤ 201) : maxI [.lst (gd J 201)] = some (.int ((J : Int) - 1)) := by
  obtain ⟨K, rfl⟩ : ∃ K, J = K + 1 := ⟨J - 1, by omega⟩
  unfold gd
  rw [Nat.min_eq_right h2]
  show (match intsD ((List.range (K + 1)).map fun k : Nat => D.int k) with | some (n :: ns) => some (D.int (ns.foldl max n)) | _ => none) = _
  rw [intsD_map (fun k : Nat => (k : Int)), List.range_succ_eq_map, List.map_cons, List.map_map]
  show some (D.int (((List.range K).map fun k : Nat => ((k + 1 : Nat) : Int)).foldl max 0)) = _
  rw [foldl_max]
  have : ((K + 1 : Nat) : Int) - 1 = (K : Int) := by omega
  rw [this]
theorem len_gd (J : Nat) (h2 : J ≤ 201) : lenD [.lst (gd J 201)] = some (.int J) := by
  show some (D.int (gd J 201).length) = _
  unfold gd
  rw [Nat.min_eq_right h2, List.length_map, List.length_range]
theorem rg_gd (J : Nat) (h2 : J ≤ 201) : rg1 (.int J) = some (.lst (gd J 201)) := by
  have hs : small (J : Int) = true := small_nat (by omega)
  have e : rangeL 0 (J : Int) = gd J 201 := by
    unfold gd rangeL
    rw [Nat.min_eq_right h2]
    have : ((J : Int) - 0).toNat = J := by omega
    rw [this]
    exact List.map_congr_left fun k _ => by rw [Int.zero_add]
  show (if small (J : Int) = true ∧ (J : Int).toNat ≤ 16777216 then some (D.lst (rangeL 0 (J : Int))) else none) = _
  rw [if_pos ⟨hs, by omega⟩, e]
theorem eqvs_int : ∀ xs : List Nat, D.eqvs (xs.map fun k : Nat => D.int k) (xs.map fun k : Nat => D.int k) = true
  | [] => rfl
  | x :: xs => by simp [D.eqvs, D.eqv, eqvs_int xs]
theorem dats_nat (k : Nat) : ∀ xs : List Nat, D.dats k (xs.map fun k : Nat => D.int k) = true
  | [] => by simp [D.dats]
  | x :: xs => by simp [D.dats, D.dat, dats_nat k xs]
theorem ne_gd (J : Nat) : neD (.lst (gd J 201)) (.lst (gd J 201)) = some false := by
  have h1 : D.dat 8 (.lst (gd J 201)) = true := by
    show D.dats 7 (gd J 201) = true
    exact dats_nat 7 _
  have h2 : D.eqv (.lst (gd J 201)) (.lst (gd J 201)) = true := by
    show D.eqvs (gd J 201) (gd J 201) = true
    exact eqvs_int _
  unfold neD
  rw [h1, h2]
  rfl
section
variable (s0 s1 s2 s3 s4 s9 s10 s11 s12 s13 s14 s15 s16 s17 s20 s21 : Option Sl)
theorem check_test0 {call : CallT} {f5 f6 f8 f18 f19 : Option Sl} {p N g X J : D} {b : Bool} (m : Mem) (h1 : call 11 [N, p] m = .ok X m) (h2 : lenD [g] = some J) (h3 : ltD J (.int 201) = some b) (h4 : b = true → maxI [g] = some X) (h5 : b = false → X = .non) (h6 : neD X X = some false) (h7 : rg1 J = some g) (h8 : neD g g = some false) :
    (tOr (tOp2 neD (pE (eCall call 11 (aCons (eV 6) (aCons (eV 5) aNil)))) (pE (eIf (tOp2 ltD (pE (eB lenD (pCons (pV 7) pNil))) (pE (eC (.int 201)))) (eB maxI (pCons (pV 7) pNil)) (eC .non)))) (tOp2 neD (pV 7) (pE (eRg1 (eB lenD (pCons (pV 7) pNil)))))) (frm s0 s1 s2 s3 s4 s9 s10 s11 s12 s13 s14 s15 s16 s17 s20 s21 (some (.v p)) (some (.v N)) (some (.o g)) f8 f18 f19) m = .ok false (frm s0 s1 s2 s3 s4 s9 s10 s11 s12 s13 s14 s15 s16 s17 s20 s21 (some (.v p)) (some (.v N)) (some (.o g)) f8 f18 f19) m := by
  cases b with
  | true => simp [frm, h1, h2, h3, h4 rfl, h6, h7, h8]
  | false =>
    have h5 := h5 rfl
    subst h5
    simp [frm, h1, h2, h3, h6, h7, h8]
end
/-! ### least_names -/
abbrev lnT (c : Nat) (i : Nat) : Et := tOp1 truthD (pE (eCall (callN (c + 5)) 10 (aCons (eV 1) (aCons (eCall (callN (c + 5)) 8 (aCons (eV i) (aCons (eV 0) aNil))) aNil))))
abbrev lnL (k p q lo hi : Nat) (md : Option Sl) : Loc := [iv k, fv p q, iv lo, iv hi, md]
abbrev lnB1 : Es := sSeq (sAug mulD 3 (eC (.int 2))) (sIf (tOp2 gtD (pV 3) (pE (eC (.int 500000000)))) (sRaise 1 1 (aCons (eV 3) aNil)) sPass)
theorem ln_gt {a b c e : Option Sl} {X : D} {r : Bool} (m : Mem) (h : gtD X (.int 500000000) = some r) : tOp2 gtD (pV 3) (pE (eC (.int 500000000))) [a, b, c, some (.v X), e] m = .ok r [a, b, c, some (.v X), e] m := by simp [h]
theorem ln_dbl {a b c e : Option Sl} {X Y : D} (m : Mem) (h : mulD X (.int 2) = some Y) : sAug mulD 3 (eC (.int 2)) [a, b, c, some (.v X), e] m = .nx [a, b, c, some (.v Y), e] m := by simp [h]
theorem gt_big {x : Nat} (h : x ≤ 2000) : gtD (.int x) (.int 500000000) = some false := by
  rw [gtD_int]
  have : ¬ ((500000000 : Int) < (x : Int)) := by omega
  rw [decide_eq_false this]
theorem lnB1_ok (k p q hi : Nat) (m : Mem) (h : hi ≤ 1000) : lnB1 (lnL k p q 1 hi none) m = .nx (lnL k p q 1 (hi * 2) none) m :=
  (seq_nx (ln_dbl m (mul_nat_r (a := hi) (b := 2) (by decide)))).trans (if_p (ln_gt m (gt_big (by omega))))
theorem ln_loop1 (c k p q : Nat) (m : Mem) (hk : k ≤ 200) (hp : p ≤ 100) (hq : q ≤ 100) (hend : Cl 512 k p q = true) : ∀ (d j f : Nat), j + d = 9 → d < f → ∃ hi : Nat, 1 ≤ hi ∧ hi ≤ 512 ∧ Cl hi k p q = true ∧ whileLoop (lnT c 3) lnB1 f (lnL k p q 1 (2 ^ j) none) m = .nx (lnL k p q 1 hi none) m
  | _, _, 0, _, h => absurd h (Nat.not_lt_zero _)
  | d, j, f + 1, hj, hd => by
    have h1 : 1 ≤ 2 ^ j := Nat.pow_pos (by decide)
    have h2 : 2 ^ j ≤ 2 ^ 9 := Nat.pow_le_pow_right (by decide) (by omega)
    have t : lnT c 3 (lnL k p q 1 (2 ^ j) none) m = _ := test_spec c (2 ^ j) k p q m h1 (by omega) hk hp hq (e1 := eV 1) (e2 := eV 3) (e3 := eV 0) (l := lnL k p q 1 (2 ^ j) none) rfl rfl rfl
    cases hc : Cl (2 ^ j) k p q with
    | true =>
      rw [hc] at t
      exact ⟨2 ^ j, h1, h2, hc, while_end t⟩
    | false =>
      rw [hc] at t
      have hd0 : d ≠ 0 := by
        intro z
        subst z
        have : j = 9 := by omega
        subst this
        have e : (2 ^ 9 : Nat) = 512 := rfl
        rw [e, hend] at hc
        cases hc
      obtain ⟨e, rfl⟩ : ∃ e, d = e + 1 := ⟨d - 1, by omega⟩
      obtain ⟨hi, a1, a2, a3, a4⟩ := ln_loop1 c k p q m hk hp hq hend e (j + 1) f (by omega) (by omega)
      have hb := lnB1_ok k p q (2 ^ j) m (by omega)
      rw [← Nat.pow_succ] at hb
      exact ⟨hi, a1, a2, a3, (while_step t hb).trans a4⟩
abbrev lnB2 (c : Nat) : Es := sSeq (sSet 4 (eOp2 fdivD (pE (eOp2 addD (pV 2) (pV 3))) (pE (eC (.int 2)))))
  (sIf (tOp1 truthD (pE (eCall (callN (c + 5)) 10 (aCons (eV 1) (aCons (eCall (callN (c + 5)) 8 (aCons (eV 4) (aCons (eV 0) aNil))) aNil))))) (sSet 2 (eOp2 addD (pV 4) (pE (eC (.int 1))))) (sSet 3 (eV 4)))
theorem ln_mid (k p q lo hi : Nat) (md : Option Sl) (m : Mem) : sSet 4 (eOp2 fdivD (pE (eOp2 addD (pV 2) (pV 3))) (pE (eC (.int 2)))) (lnL k p q lo hi md) m = .nx (lnL k p q lo hi (iv ((lo + hi) / 2))) m := by
  have e : fdivD (.int ((lo : Int) + (hi : Int))) (.int 2) = some (.int ((lo + hi) / 2 : Nat)) := fdivD_ok (by decide) (by omega)
  generalize ((lo + hi) / 2 : Nat) = x at *
  simp [lnL, e]
theorem ln_loop2 (c k p q : Nat) (m : Mem) (hk : k ≤ 200) (hp : p ≤ 100) (hq : q ≤ 100) : ∀ (f lo hi : Nat) (md : Option Sl), hi - lo < f → 1 ≤ lo → lo ≤ hi → hi ≤ 512 → Cl hi k p q = true → (lo = 1 ∨ Cl (lo - 1) k p q = false) →
    ∃ (r : Nat) (md' : Option Sl), 1 ≤ r ∧ r ≤ 512 ∧ Cl r k p q = true ∧ (r = 1 ∨ Cl (r - 1) k p q = false) ∧ whileLoop (tOp2 ltD (pV 2) (pV 3)) (lnB2 c) f (lnL k p q lo hi md) m = .nx (lnL k p q r r md') m
  | 0, _, _, _, h, _, _, _, _, _ => absurd h (Nat.not_lt_zero _)
  | f + 1, lo, hi, md, hf, h1, h2, h3, h4, h5 => by
    by_cases hlt : lo < hi
    · have t : tOp2 ltD (pV 2) (pV 3) (lnL k p q lo hi md) m = .ok true (lnL k p q lo hi md) m := by simp [lnL, ltD_int, hlt]
      have hx1 : lo ≤ (lo + hi) / 2 := by omega
      have hx2 : (lo + hi) / 2 < hi := by omega
      have hmid := ln_mid k p q lo hi md m
      generalize (lo + hi) / 2 = x at *
      have t2 := test_spec c x k p q m (by omega) (by omega) hk hp hq (e1 := eV 1) (e2 := eV 4) (e3 := eV 0) (l := lnL k p q lo hi (iv x)) rfl rfl rfl
      cases hc : Cl x k p q with
      | true =>
        rw [hc] at t2
        obtain ⟨r, md', a1, a2, a3, a4, a5⟩ := ln_loop2 c k p q m hk hp hq f lo x (iv x) (by omega) h1 hx1 (by omega) hc h5
        have hb : lnB2 c (lnL k p q lo hi md) m = .nx (lnL k p q lo x (iv x)) m := (seq_nx hmid).trans ((if_f t2).trans rfl)
        exact ⟨r, md', a1, a2, a3, a4, (while_step t hb).trans a5⟩
      | false =>
        rw [hc] at t2
        obtain ⟨r, md', a1, a2, a3, a4, a5⟩ := ln_loop2 c k p q m hk hp hq f (x + 1) hi (iv x) (by omega) (by omega) (by omega) h3 h4 (.inr (by rw [Nat.add_sub_cancel]; exact hc))
        have hb : lnB2 c (lnL k p q lo hi md) m = .nx (lnL k p q (x + 1) hi (iv x)) m := (seq_nx hmid).trans ((if_t t2).trans rfl)
        exact ⟨r, md', a1, a2, a3, a4, (while_step t hb).trans a5⟩
    · have t : tOp2 ltD (pV 2) (pV 3) (lnL k p q lo hi md) m = .ok false (lnL k p q lo hi md) m := by simp [lnL, ltD_int, hlt]
      have e : lo = hi := by omega
      subst e
      exact ⟨lo, md, h1, h3, h4, h5, while_end t⟩
end G12
end

section
set_option autoImplicit false
set_option linter.all false
set_option maxRecDepth 100000
namespace G12
open DS
theorem fuel_big : 1000000 < fuel := Nat.lt_of_lt_of_le (by decide : 1000000 < 2 ^ 20) (Nat.pow_le_pow_right (by decide) (by decide))
theorem ln_asg (k p q : Nat) : Tg.put (.tp [(.nm 2), (.nm 3)]) (.tup [.int 1, .int 1]) [iv k, fv p q, none, none, none] = some (lnL k p q 1 (2 ^ 0) none) := rfl
theorem and_test {k p q : Nat} {a b : Bool} {s2 s3 s4 : Option Sl} (m : Mem) (h1 : gtD (.int k) (.int 1) = some a) (h2 : eqD (.int p) (.int 0) = some b) :
    tAnd (tOp2 gtD (pV 0) (pE (eC (.int 1)))) (tOp2 eqD (pE (eIx (pV 1) (pE (eC (.int 0))))) (pE (eC (.int 0)))) [iv k, fv p q, s2, s3, s4] m = .ok (a && b) [iv k, fv p q, s2, s3, s4] m := by
  cases a <;> simp [h1, h2, ixD, idx]
theorem gt_one (k : Nat) : gtD (.int k) (.int 1) = some (decide (1 < k)) := by
  rw [gtD_int]
  exact congrArg some (decide_eq_decide.mpr (by omega))
theorem eq_zero (p : Nat) : eqD (.int p) (.int 0) = some (decide (p = 0)) := by
  rw [eqD_int]
  congr 1
  by_cases h : p = 0
  · subst h; rfl
  · have : ((p : Int) == 0) = false := by simp [h]
    rw [this, decide_eq_false h]
theorem least_names_spec (c k p q : Nat) (m : Mem) (hk : k ≤ 200) (hpq : p ≤ q) (hq1 : 1 ≤ q) (hq : q ≤ 100) (hend : Cl 512 k p q = true) (hr : (decide (1 < k) && decide (p = 0)) = false) :
    ∃ r : Nat, 1 ≤ r ∧ r ≤ 512 ∧ Cl r k p q = true ∧ (r = 1 ∨ Cl (r - 1) k p q = false) ∧ callN (c + 6) 12 [.int k, fr p q] m = .ok (.int r) m := by
  have e1 : callN (c + 5) 5 [.int 1, .int k] m = .ok .non m := by rw [c5]; exact check_odds_spec (c + 2) 1 k m (by omega) (by omega) (by omega) (by omega)
  have e2 : callN (c + 5) 9 [fr p q] m = .ok .non m := by rw [c9]; exact check_fraction_spec (c + 2) p q m (by omega) (by omega) (by omega) (by omega)
  have fb := fuel_big
  obtain ⟨hi, a1, a2, a3, a4⟩ := ln_loop1 c k p q m hk (by omega) hq hend 9 0 fuel rfl (by omega)
  obtain ⟨r, md, b1, b2, b3, b4, b5⟩ := ln_loop2 c k p q m hk (by omega) hq fuel 1 hi none (by omega) (Nat.le_refl _) a1 a2 a3 (.inl rfl)
  refine ⟨r, b1, b2, b3, b4, ?_⟩
  rw [c12]
  unfold f12
  rw [defD_eq (a := 2) (k := 3) (ds := [.int k, fr p q]) rfl [iv k, fv p q, none, none, none] rfl]
  unfold b12
  rw [seq_nx (drop_ok (call_ok (ds := [.int 1, .int k]) (l' := [iv k, fv p q, none, none, none]) (m' := m) (by rfl) e1))]
  rw [seq_nx (drop_ok (call_ok (ds := [fr p q]) (l' := [iv k, fv p q, none, none, none]) (m' := m) (by rfl) e2))]
  have t := and_test (q := q) (s2 := none) (s3 := none) (s4 := none) m (gt_one k) (eq_zero p)
  rw [hr] at t
  rw [seq_nx (if_p t)]
  rw [seq_nx (asg_ok (one_one _ m) (ln_asg k p q))]
  rw [seq_nx (while_ok a4)]
  rw [seq_nx (while_ok b5)]
  rfl
theorem least_names_ex (c k p q : Nat) (m : Mem) (hk : k ≤ 200) (hpq : p ≤ q) (hq1 : 1 ≤ q) (hq : q ≤ 100) (hr : (decide (1 < k) && decide (p = 0)) = true) : callN (c + 6) 12 [.int k, fr p q] m = .ex 1 [.int k] m := by
  have e1 : callN (c + 5) 5 [.int 1, .int k] m = .ok .non m := by rw [c5]; exact check_odds_spec (c + 2) 1 k m (by omega) (by omega) (by omega) (by omega)
  have e2 : callN (c + 5) 9 [fr p q] m = .ok .non m := by rw [c9]; exact check_fraction_spec (c + 2) p q m (by omega) (by omega) (by omega) (by omega)
  rw [c12]
  unfold f12
  rw [defD_eq (a := 2) (k := 3) (ds := [.int k, fr p q]) rfl [iv k, fv p q, none, none, none] rfl]
  unfold b12
  rw [seq_nx (drop_ok (call_ok (ds := [.int 1, .int k]) (l' := [iv k, fv p q, none, none, none]) (m' := m) (by rfl) e1))]
  rw [seq_nx (drop_ok (call_ok (ds := [fr p q]) (l' := [iv k, fv p q, none, none, none]) (m' := m) (by rfl) e2))]
  have t := and_test (q := q) (s2 := none) (s3 := none) (s4 := none) m (gt_one k) (eq_zero p)
  rw [hr] at t
  rw [seq_ex ((if_t (a := sRaise 1 1 (aCons (eV 0) aNil)) (b := sPass) t).trans (show _ = RS.ex 1 [.int k] [iv k, fv p q, none, none, none] m from rfl))]
  rfl
/-- 512 names are enough -/
theorem Cl_512 : ∀ k < 12, ∀ q < 10, ∀ p < 10, 1 ≤ q → (decide (1 < k) && decide (p = 0)) = false → Cl 512 k p q = true := by decide +kernel
end G12
end

section
set_option autoImplicit false
set_option linter.all false
set_option maxRecDepth 100000
namespace G12
open DS
abbrev A0 (call : CallT) : Ex := (eLst (aCons (eV 0) (aCons (eC (.int 0)) aNil)))
abbrev A1 (call : CallT) : Es := (sAsg (.tp [(.nm 12), (.nm 13)]) (eTup (aCons (eOp2 addD (pE (eC (.int 1))) (pE (eCall call 16 (aCons (eV 1) (aCons (eC (.int 5)) aNil))))) (aCons (eCall call 16 (aCons (eV 1) (aCons (eC (.int 5)) aNil))) aNil))))
abbrev A2 (call : CallT) : Es := (sSet 2 (eCall call 17 (aCons (eV 12) (aCons (eV 13) aNil))))
abbrev A3 (call : CallT) : Es := (sSet 3 (eB lenD (pCons (pE (eLC [17] (.nm 17) (iP seqD (pV 2)) (tOp2 eqD (pE (eB lenSetD (pCons (pV 17) pNil))) (pV 13)) (eV 17))) pNil)))
abbrev A4 (call : CallT) : Es := (sIf (tOr (tOp2 neD (pE (eCall call 7 (aCons (eV 12) (aCons (eV 13) aNil)))) (pE (eCall call 18 (aCons (eV 3) (aCons (eB lenD (pCons (pV 2) pNil)) aNil))))) (tOp2 neD (pE (eCall call 8 (aCons (eV 12) (aCons (eV 13) aNil)))) (pE (eCall call 18 (aCons (eOp2 subD (pE (eB lenD (pCons (pV 2) pNil))) (pV 3)) (aCons (eB lenD (pCons (pV 2) pNil)) aNil)))))) (sRet (eC (.bl false))) sPass)
abbrev A5 (call : CallT) : Es := (sIf (tOp2 neD (pE (eCall call 13 (aCons (eV 12) (aCons (eV 13) aNil)))) (pE (eCall call 18 (aCons (eB sumD (pCons (pE (eLC [17] (.nm 17) (iP seqD (pV 2)) tYes (eB lenSetD (pCons (pV 17) pNil)))) pNil)) (aCons (eB lenD (pCons (pV 2) pNil)) aNil))))) (sRet (eC (.bl false))) sPass)
abbrev A6 (call : CallT) : Es := (sAsg (.tp [(.nm 14), (.nm 15)]) (eTup (aCons (eCall call 16 (aCons (eV 1) (aCons (eOp2 addD (pV 12) (pE (eC (.int 1)))) aNil))) (aCons (eCall call 16 (aCons (eV 1) (aCons (eOp2 addD (pE (eB min2D (pCons (pV 12) (pCons (pE (eC (.int 4))) pNil)))) (pE (eC (.int 1)))) aNil))) aNil))))
abbrev A7 (call : CallT) : Es := (sSetO 4 (eLC [17] (.nm 17) (iP seqD (pE (eCall call 17 (aCons (eV 12) (aCons (eV 15) aNil))))) (tOp2 eqD (pE (eB lenSetD (pCons (pV 17) pNil))) (pV 15)) (eV 17)))
abbrev A8 (call : CallT) : Es := (sIf (tOp2 neD (pE (eCall call 14 (aCons (eV 12) (aCons (eV 14) (aCons (eV 15) aNil))))) (pE (eCall call 18 (aCons (eB lenD (pCons (pE (eLC [17] (.nm 17) (iP seqD (pV 4)) (tOp1 truthD (pE (eB anyD (pCons (pE (eLC [18] (.nm 18) (iP seqD (pV 17)) tYes (eT (tOp2 ltD (pV 18) (pV 14))))) pNil)))) (eV 17))) pNil)) (aCons (eB lenD (pCons (pV 4) pNil)) aNil))))) (sRet (eC (.bl false))) sPass)
abbrev A9 (call : CallT) : Es := (sSet 5 (eTup (aCons (eCall call 16 (aCons (eV 1) (aCons (eC (.int 5)) aNil))) (aCons (eOp2 addD (pE (eC (.int 1))) (pE (eCall call 16 (aCons (eV 1) (aCons (eC (.int 9)) aNil))))) aNil))))
abbrev A10 (call : CallT) : Es := (sSet 5 (eTup (aCons (eB minI (pCons (pV 5) pNil)) (aCons (eB maxI (pCons (pV 5) pNil)) aNil))))
abbrev A11 (call : CallT) : Es := (sSet 6 (eOp2 addD (pE (eC (.int 1))) (pE (eCall call 16 (aCons (eV 1) (aCons (eC (.int 400)) aNil))))))
abbrev A12 (call : CallT) : Es := (sSetO 7 (eLst aNil))
abbrev A13 (call : CallT) : Es := (sFor (.nm 8) (iA (aCons (eC (.int 201)) aNil) rangeD1) (sSeq (sAsg (.tp [(.nm 18), (.nm 19)]) (eCall call 19 (aCons (eV 6) (aCons (eV 8) aNil)))) (sIf (tOp2 leD (pE (eOp2 mulD (pV 18) (pE (eIx (pV 5) (pE (eC (.int 1))))))) (pE (eOp2 mulD (pE (eIx (pV 5) (pE (eC (.int 0))))) (pV 19)))) (sApp 7 (eV 8)) sPass)))
abbrev A14 (call : CallT) : Es := (sIf (tOr (tOp2 neD (pE (eCall call 11 (aCons (eV 6) (aCons (eV 5) aNil)))) (pE (eIf (tOp2 ltD (pE (eB lenD (pCons (pV 7) pNil))) (pE (eC (.int 201)))) (eB maxI (pCons (pV 7) pNil)) (eC .non)))) (tOp2 neD (pV 7) (pE (eRg1 (eB lenD (pCons (pV 7) pNil)))))) (sRet (eC (.bl false))) sPass)
abbrev A15 (call : CallT) : Es := (sSet 9 (eCall call 16 (aCons (eV 1) (aCons (eC (.int 12)) aNil))))
abbrev A16 (call : CallT) : Es := (sIf (tAnd (tOp2 gtD (pV 9) (pE (eC (.int 1)))) (tOp2 eqD (pE (eIx (pV 5) (pE (eC (.int 0))))) (pE (eC (.int 0))))) (sIf (tOp2 neD (pE (eRef 2 (eCall call 12 (aCons (eV 9) (aCons (eV 5) aNil))) [([(1, false), (2, true)], .one 1 (.fld 0)), ([(1, true), (2, false)], .one 1 (.fld 0))] (.str []))) (pV 9)) (sRet (eC (.bl false))) sPass) (sSeq (sSet 16 (eCall call 12 (aCons (eV 9) (aCons (eV 5) aNil)))) (sSeq (sAsg (.tp [(.nm 18), (.nm 19)]) (eCall call 19 (aCons (eV 16) (aCons (eV 9) aNil)))) (sSeq (sIf (tOp2 gtD (pE (eOp2 mulD (pV 18) (pE (eIx (pV 5) (pE (eC (.int 1))))))) (pE (eOp2 mulD (pE (eIx (pV 5) (pE (eC (.int 0))))) (pV 19)))) (sRet (eC (.bl false))) sPass) (sIf (tOp2 gtD (pV 16) (pE (eC (.int 1)))) (sSeq (sAsg (.tp [(.nm 18), (.nm 19)]) (eCall call 19 (aCons (eOp2 subD (pV 16) (pE (eC (.int 1)))) (aCons (eV 9) aNil)))) (sIf (tOp2 leD (pE (eOp2 mulD (pV 18) (pE (eIx (pV 5) (pE (eC (.int 1))))))) (pE (eOp2 mulD (pE (eIx (pV 5) (pE (eC (.int 0))))) (pV 19)))) (sRet (eC (.bl false))) sPass)) sPass)))))
abbrev A17 (call : CallT) : Es := (sSet 10 (eTup (aCons (eCall call 16 (aCons (eV 1) (aCons (eC (.int 6)) aNil))) (aCons (eOp2 addD (pE (eC (.int 1))) (pE (eCall call 16 (aCons (eV 1) (aCons (eC (.int 6)) aNil))))) aNil))))
abbrev A18 (call : CallT) : Es := (sIf (tOr (tOp2 neD (pE (eCall call 10 (aCons (eV 5) (aCons (eV 10) aNil)))) (pE (eT (tOp2 ltD (pE (eOp2 mulD (pE (eIx (pV 5) (pE (eC (.int 0))))) (pE (eIx (pV 10) (pE (eC (.int 1))))))) (pE (eOp2 mulD (pE (eIx (pV 10) (pE (eC (.int 0))))) (pE (eIx (pV 5) (pE (eC (.int 1))))))))))) (tOp2 neD (pE (eCall call 6 (aCons (eOp2 mulD (pE (eC (.int 6))) (pE (eIx (pV 10) (pE (eC (.int 0)))))) (aCons (eOp2 mulD (pE (eC (.int 6))) (pE (eIx (pV 10) (pE (eC (.int 1)))))) aNil)))) (pE (eCall call 6 (aCons (eIx (pV 10) (pE (eC (.int 0)))) (aCons (eIx (pV 10) (pE (eC (.int 1)))) aNil)))))) (sRet (eC (.bl false))) sPass)
abbrev A19 (call : CallT) : Es := (sSet 11 (eLst (aCons (eTup (aCons (eC (.lam 9)) (aCons (eC (.str [110, 97, 109, 101, 115])) aNil))) (aCons (eTup (aCons (eC (.lam 8)) (aCons (eC (.str [100, 114, 97, 119, 110])) aNil))) (aCons (eTup (aCons (eC (.lam 7)) (aCons (eC (.str [110, 97, 109, 101, 115])) aNil))) (aCons (eTup (aCons (eC (.lam 6)) (aCons (eC (.str [102, 114, 97, 99, 116, 105, 111, 110])) aNil))) (aCons (eTup (aCons (eC (.lam 5)) (aCons (eC (.str [102, 114, 97, 99, 116, 105, 111, 110])) aNil))) (aCons (eTup (aCons (eC (.lam 4)) (aCons (eC (.str [102, 114, 97, 99, 116, 105, 111, 110])) aNil))) (aCons (eTup (aCons (eC (.lam 3)) (aCons (eC (.str [100, 114, 97, 119, 110])) aNil))) (aCons (eTup (aCons (eC (.lam 2)) (aCons (eC (.str [103, 105, 118, 101, 110])) aNil))) (aCons (eTup (aCons (eC (.lam 1)) (aCons (eC (.str [116, 114, 105, 101, 100])) aNil))) (aCons (eTup (aCons (eC (.lam 0)) (aCons (eC (.str [100, 114, 97, 119, 110])) aNil))) aNil))))))))))))
abbrev A20 (call : CallT) : Es := (sRet (eB allD (pCons (pE (eLC [20, 21] (.tp [(.nm 20), (.nm 21)]) (iP seqD (pV 11)) tYes (eT (tOp2 eqD (pE (eCall call 20 (aCons (eV 20) aNil))) (pV 21))))) pNil)))
theorem b21_eq (call : CallT) : b21 call = sCell 1 (A0 call) (sSeq (A1 call) (sSeq (A2 call) (sSeq (A3 call) (sSeq (A4 call) (sSeq (A5 call) (sSeq (A6 call) (sSeq (A7 call) (sSeq (A8 call) (sSeq (A9 call) (sSeq (A10 call) (sSeq (A11 call) (sSeq (A12 call) (sSeq (A13 call) (sSeq (A14 call) (sSeq (A15 call) (sSeq (A16 call) (sSeq (A17 call) (sSeq (A18 call) (sSeq (A19 call) (A20 call)))))))))))))))))))) := rfl
def A3f (call : CallT) : Es := (sSet 3 (eB lenD (pCons (pE (eLCf [17] (.nm 17) (iP seqD (pV 2)) (tOp2 eqD (pE (eB lenSetD (pCons (pV 17) pNil))) (pV 13)) (eV 17))) pNil)))
theorem A3_eq (call : CallT) : A3 call = A3f call := by unfold A3 A3f; simp only [eLC_eq]
def A5f (call : CallT) : Es := (sIf (tOp2 neD (pE (eCall call 13 (aCons (eV 12) (aCons (eV 13) aNil)))) (pE (eCall call 18 (aCons (eB sumD (pCons (pE (eLCf [17] (.nm 17) (iP seqD (pV 2)) tYes (eB lenSetD (pCons (pV 17) pNil)))) pNil)) (aCons (eB lenD (pCons (pV 2) pNil)) aNil))))) (sRet (eC (.bl false))) sPass)
theorem A5_eq (call : CallT) : A5 call = A5f call := by unfold A5 A5f; simp only [eLC_eq]
def A7f (call : CallT) : Es := (sSetO 4 (eLCf [17] (.nm 17) (iP seqD (pE (eCall call 17 (aCons (eV 12) (aCons (eV 15) aNil))))) (tOp2 eqD (pE (eB lenSetD (pCons (pV 17) pNil))) (pV 15)) (eV 17)))
theorem A7_eq (call : CallT) : A7 call = A7f call := by unfold A7 A7f; simp only [eLC_eq]
def A8f (call : CallT) : Es := (sIf (tOp2 neD (pE (eCall call 14 (aCons (eV 12) (aCons (eV 14) (aCons (eV 15) aNil))))) (pE (eCall call 18 (aCons (eB lenD (pCons (pE (eLCf [17] (.nm 17) (iP seqD (pV 4)) (tOp1 truthD (pE (eB anyD (pCons (pE (eLCf [18] (.nm 18) (iP seqD (pV 17)) tYes (eT (tOp2 ltD (pV 18) (pV 14))))) pNil)))) (eV 17))) pNil)) (aCons (eB lenD (pCons (pV 4) pNil)) aNil))))) (sRet (eC (.bl false))) sPass)
theorem A8_eq (call : CallT) : A8 call = A8f call := by unfold A8 A8f; simp only [eLC_eq]
end G12
end

section
set_option autoImplicit false
set_option linter.all false
set_option maxRecDepth 100000
set_option maxHeartbeats 0
namespace G12
open DS
abbrev F (S : D) (s2 s3 s4 s5 s6 s7 s8 s9 s10 s11 s12 s13 s14 s15 s16 s17 s18 s19 s20 s21 : Option Sl) : Loc := [some (.v S), some (.v (.cell 0)), s2, s3, s4, s5, s6, s7, s8, s9, s10, s11, s12, s13, s14, s15, s16, s17, s18, s19, s20, s21]
def blkA (call : CallT) : Es := sSeq (A2 call) (sSeq (A3 call) (sSeq (A4 call) (A5 call)))
abbrev FA (S : D) (nm dr : Nat) (s2 s3 : Option Sl) : Loc := F S s2 s3 none none none none none none none none (iv nm) (iv dr) none none none none none none none none
def getS (r : RS) (i : Nat) : Option Sl := match r with
  | .nx l _ => (l[i]?).getD none
  | _ => none
end G12
end

section
set_option autoImplicit false
set_option linter.all false
set_option maxRecDepth 100000
namespace G12
open DS
theorem c18 (n : Nat) : callN (n + 1) 18 = f18 (callN n) := rfl
theorem rangeD3_ok {i c : Int} (h1 : small i = true) (hc : c = -1) : rangeD3 [.int i, .int 0, .int c] = some ((List.range (i - 0).toNat).map fun k => .int (i - (k : Nat))) := by
  show (if c = -1 ∧ small i = true ∧ small 0 = true then some ((List.range (i - 0).toNat).map fun k => D.int (i - (k : Nat))) else none) = _
  rw [if_pos ⟨hc, h1, by decide⟩]
abbrev lowB : Es := sIf (tAnd (tOp2 eqD (pE (eOp2 modD (pV 0) (pV 2))) (pE (eC (.int 0)))) (tOp2 eqD (pE (eOp2 modD (pV 1) (pV 2))) (pE (eC (.int 0))))) (sRet (eTup (aCons (eOp2 fdivD (pV 0) (pV 2)) (aCons (eOp2 fdivD (pV 1) (pV 2)) aNil)))) sPass
theorem low_no {A B J X Y : D} {x y : Bool} (m : Mem) (h1 : modD A J = some X) (h2 : modD B J = some Y) (h3 : eqD X (.int 0) = some x) (h4 : eqD Y (.int 0) = some y) (h : (x && y) = false) :
    lowB [some (.v A), some (.v B), some (.v J)] m = .nx [some (.v A), some (.v B), some (.v J)] m := by
  have : tAnd (tOp2 eqD (pE (eOp2 modD (pV 0) (pV 2))) (pE (eC (.int 0)))) (tOp2 eqD (pE (eOp2 modD (pV 1) (pV 2))) (pE (eC (.int 0)))) [some (.v A), some (.v B), some (.v J)] m = .ok (x && y) [some (.v A), some (.v B), some (.v J)] m := by
    cases x <;> simp [h1, h2, h3, h4]
  rw [h] at this
  exact if_p this
theorem low_yes {A B J X Y U V : D} (m : Mem) (h1 : modD A J = some X) (h2 : modD B J = some Y) (h3 : eqD X (.int 0) = some true) (h4 : eqD Y (.int 0) = some true) (h5 : fdivD A J = some U) (h6 : fdivD B J = some V) :
    lowB [some (.v A), some (.v B), some (.v J)] m = .rt (.tup [U, V]) [some (.v A), some (.v B), some (.v J)] m := by
  have : tAnd (tOp2 eqD (pE (eOp2 modD (pV 0) (pV 2))) (pE (eC (.int 0)))) (tOp2 eqD (pE (eOp2 modD (pV 1) (pV 2))) (pE (eC (.int 0)))) [some (.v A), some (.v B), some (.v J)] m = .ok true [some (.v A), some (.v B), some (.v J)] m := by
    simp [h1, h2, h3, h4]
  refine if_rt this ?_
  simp [h5, h6, sz, sizeMax]
theorem mod_nat (a : Nat) {j : Nat} (h : 0 < j) : modD (.int a) (.int j) = some (.int (a % j : Nat)) := modD_ok (by omega) (Int.natCast_emod a j).symm
theorem fdiv_nat (a : Nat) {j : Nat} (h : 0 < j) (h2 : j < 1000000) : fdivD (.int a) (.int j) = some (.int (a / j : Nat)) := fdivD_ok (divOk_of (by omega) (by
    rw [Int.natAbs_natCast]
    exact (Nat.log2_lt (by omega)).mpr (Nat.lt_trans h2 (Nat.lt_of_lt_of_le (by decide : 1000000 < 2 ^ 20) (Nat.pow_le_pow_right (by decide) (by decide)))))) (Int.natCast_ediv a j).symm
def lowSt (a b : Nat) : Nat := if 0 < a then min a b else b
def lowL (a b i : Nat) : Loc := [iv a, iv b, if i = 0 then none else iv (lowSt a b - (i - 1))]
theorem low_loop (a b : Nat) (m : Mem) (hb : 0 < b) (hb2 : b < 1000000) : forLoop (.nm 2) lowB ((List.range' 0 (lowSt a b)).map fun k : Nat => .int (lowSt a b - k : Nat)) (lowL a b 0) m = .rt (.tup [.int (a / Nat.gcd a b : Nat), .int (b / Nat.gcd a b : Nat)]) [iv a, iv b, iv (Nat.gcd a b)] m := by
  have hg : 0 < Nat.gcd a b := Nat.gcd_pos_of_pos_right a hb
  have hg2 : Nat.gcd a b ≤ b := Nat.gcd_le_right a hb
  have hs1 : Nat.gcd a b ≤ lowSt a b := by
    unfold lowSt
    by_cases ha : 0 < a
    · rw [if_pos ha]
      exact Nat.le_min.mpr ⟨Nat.gcd_le_left b ha, hg2⟩
    · rw [if_neg ha]; exact hg2
  have hs2 : lowSt a b ≤ b := by
    unfold lowSt
    by_cases ha : 0 < a
    · rw [if_pos ha]; exact Nat.min_le_right a b
    · rw [if_neg ha]; exact Nat.le_refl b
  have key := for_find (tg := .nm 2) (b := lowB) (f := fun k : Nat => D.int (lowSt a b - k : Nat)) (L := lowL a b) (M := fun _ => m) (d := .tup [.int (a / Nat.gcd a b : Nat), .int (b / Nat.gcd a b : Nat)]) (l' := [iv a, iv b, iv (Nat.gcd a b)]) (m' := m)
    (lowSt a b - Nat.gcd a b) (lowSt a b) 0 (by omega) ?_ ?_
  · exact key
  · intro i _ hi
    refine ⟨[iv a, iv b, iv (lowSt a b - i)], rfl, ?_⟩
    have hj : 0 < lowSt a b - i := by omega
    have e : lowL a b (i + 1) = [iv a, iv b, iv (lowSt a b - i)] := rfl
    rw [e]
    refine low_no m (mod_nat a hj) (mod_nat b hj) (eq_zero _) (eq_zero _) ?_
    cases hx : decide (a % (lowSt a b - i) = 0) with
    | false => rfl
    | true =>
      cases hy : decide (b % (lowSt a b - i) = 0) with
      | false => rfl
      | true =>
        have d1 : (lowSt a b - i) ∣ a := Nat.dvd_of_mod_eq_zero (of_decide_eq_true hx)
        have d2 : (lowSt a b - i) ∣ b := Nat.dvd_of_mod_eq_zero (of_decide_eq_true hy)
        have := Nat.le_of_dvd hg (Nat.dvd_gcd d1 d2)
        omega
  · refine ⟨[iv a, iv b, iv (Nat.gcd a b)], ?_, ?_⟩
    · have e : lowSt a b - (0 + (lowSt a b - Nat.gcd a b)) = Nat.gcd a b := by omega
      show Tg.put (.nm 2) (.int (lowSt a b - (0 + (lowSt a b - Nat.gcd a b)) : Nat)) _ = _
      rw [e]
      rfl
    · have z1 : a % Nat.gcd a b = 0 := Nat.mod_eq_zero_of_dvd (Nat.gcd_dvd_left a b)
      have z2 : b % Nat.gcd a b = 0 := Nat.mod_eq_zero_of_dvd (Nat.gcd_dvd_right a b)
      refine low_yes m (mod_nat a hg) (mod_nat b hg) ?_ ?_ (fdiv_nat a hg (by omega)) (fdiv_nat b hg (by omega))
      · rw [eq_zero, z1]; rfl
      · rw [eq_zero, z2]; rfl
theorem low_start {A B Z : D} {x : Bool} (m : Mem) (h1 : gtD A (.int 0) = some x) (h2 : x = true → min2D [A, B] = some Z) (h3 : x = false → B = Z) (o : Option Sl) :
    eIf (tOp2 gtD (pV 0) (pE (eC (.int 0)))) (eB min2D (pCons (pV 0) (pCons (pV 1) pNil))) (eV 1) [some (.v A), some (.v B), o] m = .ok Z [some (.v A), some (.v B), o] m := by
  cases x with
  | true => simp [h1, h2 rfl]
  | false => simp [h1, ← h3 rfl]
theorem iA3 {e1 e2 e3 : Ex} {f : List D → Option (List D)} {l : Loc} {m : Mem} {d1 d2 d3 : D} {ds : List D} (h1 : e1 l m = .ok d1 l m) (h2 : e2 l m = .ok d2 l m) (h3 : e3 l m = .ok d3 l m) (g : f [d1, d2, d3] = some ds) : iA (aCons e1 (aCons e2 (aCons e3 aNil))) f l m = .ok ds l m := by
  unfold iA
  rw [aC h1 (aC h2 (aC1 h3))]
  show lift (f [d1, d2, d3]) l m = _
  rw [g]
  rfl
theorem gt_zero (k : Nat) : gtD (.int k) (.int 0) = some (decide (0 < k)) := by
  rw [gtD_int]
  exact congrArg some (decide_eq_decide.mpr (by omega))
theorem min_nat (a b : Nat) : min2D [.int a, .int b] = some (.int (min a b : Nat)) := by
  simp [min2D]
  omega
theorem low_spec (c a b : Nat) (m : Mem) (hb : 0 < b) (hb2 : b < 1000000) : callN (c + 1) 18 [.int a, .int b] m = .ok (.tup [.int (a / Nat.gcd a b : Nat), .int (b / Nat.gcd a b : Nat)]) m := by
  have hs2 : lowSt a b ≤ b := by
    unfold lowSt
    by_cases ha : 0 < a
    · rw [if_pos ha]; exact Nat.min_le_right a b
    · rw [if_neg ha]; exact Nat.le_refl b
  rw [c18]
  unfold f18
  rw [defD_eq (a := 2) (k := 1) (ds := [.int a, .int b]) rfl [iv a, iv b, none] rfl]
  unfold b18
  have h1 := low_start (A := .int a) (B := .int b) (Z := .int (lowSt a b)) m (gt_zero a) (fun h => by
      rw [min_nat]
      unfold lowSt
      rw [if_pos (of_decide_eq_true h)]) (fun h => by
      unfold lowSt
      rw [if_neg (of_decide_eq_false h)]) none
  have hr : rangeD3 [.int (lowSt a b), .int 0, .int (-1)] = some ((List.range' 0 (lowSt a b)).map fun k : Nat => .int (lowSt a b - k : Nat)) := by
    rw [rangeD3_ok (small_nat (by omega)) rfl, List.range_eq_range', Int.sub_zero, Int.toNat_natCast]
    congr 1
    refine List.map_congr_left fun k hk => ?_
    have := List.mem_range'_1.mp hk
    exact congrArg D.int (by omega)
  rw [seq_rt ((for_ok (l' := [iv a, iv b, none]) (m' := m) (iA3 h1 (by rfl) (by rfl) hr)).trans (low_loop a b m hb hb2))]
  rfl
end G12
end

section
set_option autoImplicit false
set_option linter.all false
set_option maxRecDepth 100000
namespace G12
open DS
/-- the calls, with the fraction in lowest terms reckoned at once -/
def callF : CallT := fun i ds m => if i = 18 then match ds with
    | [.int (.ofNat a), .int (.ofNat b)] => if 0 < b ∧ b < 1000000 then .ok (.tup [.int (.ofNat (a / Nat.gcd a b)), .int (.ofNat (b / Nat.gcd a b))]) m else callN 40 i ds m
    | _ => callN 40 i ds m
  else callN 40 i ds m
theorem callF_eq : callN 40 = callF := by
  funext i ds m
  unfold callF
  split
  · rename_i h
    subst h
    split
    · split
      · rename_i a b h
        exact low_spec 39 a b m h.1 h.2
      · rfl
    · rfl
  · rfl
def ways (n : Nat) : Nat → List (List Nat)
  | 0 => [[]]
  | k + 1 => (ways n k).flatMap fun r => (List.range n).map fun i => r ++ [i]
def unlike : List Nat → Bool
  | [] => true
  | x :: xs => !(xs.contains x) && unlike xs
def rowsN (n k : Nat) : List (List Nat) := (ways n k).filter unlike
def tupsD (xs : List (List Nat)) : D := .lst (xs.map fun r => .tup (r.map fun i => .int (i : Nat)))
end G12
end

section
set_option autoImplicit false
set_option linter.all false
set_option maxRecDepth 100000
namespace G12
open DS
theorem a2_1_0 (S : D) (m : Mem) : A2 (callN 40) (FA S 1 0 none none) m = .nx (FA S 1 0 (some (.v (tupsD (ways 1 0)))) none) m := by kernel_rfl
theorem a2_1_1 (S : D) (m : Mem) : A2 (callN 40) (FA S 1 1 none none) m = .nx (FA S 1 1 (some (.v (tupsD (ways 1 1)))) none) m := by kernel_rfl
theorem a2_1_2 (S : D) (m : Mem) : A2 (callN 40) (FA S 1 2 none none) m = .nx (FA S 1 2 (some (.v (tupsD (ways 1 2)))) none) m := by kernel_rfl
theorem a2_1_3 (S : D) (m : Mem) : A2 (callN 40) (FA S 1 3 none none) m = .nx (FA S 1 3 (some (.v (tupsD (ways 1 3)))) none) m := by kernel_rfl
theorem a2_1_4 (S : D) (m : Mem) : A2 (callN 40) (FA S 1 4 none none) m = .nx (FA S 1 4 (some (.v (tupsD (ways 1 4)))) none) m := by kernel_rfl
theorem a2_2_0 (S : D) (m : Mem) : A2 (callN 40) (FA S 2 0 none none) m = .nx (FA S 2 0 (some (.v (tupsD (ways 2 0)))) none) m := by kernel_rfl
theorem a2_2_1 (S : D) (m : Mem) : A2 (callN 40) (FA S 2 1 none none) m = .nx (FA S 2 1 (some (.v (tupsD (ways 2 1)))) none) m := by kernel_rfl
theorem a2_2_2 (S : D) (m : Mem) : A2 (callN 40) (FA S 2 2 none none) m = .nx (FA S 2 2 (some (.v (tupsD (ways 2 2)))) none) m := by kernel_rfl
theorem a2_2_3 (S : D) (m : Mem) : A2 (callN 40) (FA S 2 3 none none) m = .nx (FA S 2 3 (some (.v (tupsD (ways 2 3)))) none) m := by kernel_rfl
theorem a2_2_4 (S : D) (m : Mem) : A2 (callN 40) (FA S 2 4 none none) m = .nx (FA S 2 4 (some (.v (tupsD (ways 2 4)))) none) m := by kernel_rfl
theorem a2_3_0 (S : D) (m : Mem) : A2 (callN 40) (FA S 3 0 none none) m = .nx (FA S 3 0 (some (.v (tupsD (ways 3 0)))) none) m := by kernel_rfl
theorem a2_3_1 (S : D) (m : Mem) : A2 (callN 40) (FA S 3 1 none none) m = .nx (FA S 3 1 (some (.v (tupsD (ways 3 1)))) none) m := by kernel_rfl
theorem a2_3_2 (S : D) (m : Mem) : A2 (callN 40) (FA S 3 2 none none) m = .nx (FA S 3 2 (some (.v (tupsD (ways 3 2)))) none) m := by kernel_rfl
theorem a2_3_3 (S : D) (m : Mem) : A2 (callN 40) (FA S 3 3 none none) m = .nx (FA S 3 3 (some (.v (tupsD (ways 3 3)))) none) m := by kernel_rfl
theorem a2_3_4 (S : D) (m : Mem) : A2 (callN 40) (FA S 3 4 none none) m = .nx (FA S 3 4 (some (.v (tupsD (ways 3 4)))) none) m := by kernel_rfl
theorem a2_4_0 (S : D) (m : Mem) : A2 (callN 40) (FA S 4 0 none none) m = .nx (FA S 4 0 (some (.v (tupsD (ways 4 0)))) none) m := by kernel_rfl
theorem a2_4_1 (S : D) (m : Mem) : A2 (callN 40) (FA S 4 1 none none) m = .nx (FA S 4 1 (some (.v (tupsD (ways 4 1)))) none) m := by kernel_rfl
theorem a2_4_2 (S : D) (m : Mem) : A2 (callN 40) (FA S 4 2 none none) m = .nx (FA S 4 2 (some (.v (tupsD (ways 4 2)))) none) m := by kernel_rfl
theorem a2_4_3 (S : D) (m : Mem) : A2 (callN 40) (FA S 4 3 none none) m = .nx (FA S 4 3 (some (.v (tupsD (ways 4 3)))) none) m := by kernel_rfl
theorem a2_4_4 (S : D) (m : Mem) : A2 (callN 40) (FA S 4 4 none none) m = .nx (FA S 4 4 (some (.v (tupsD (ways 4 4)))) none) m := by kernel_rfl
theorem a2_5_0 (S : D) (m : Mem) : A2 (callN 40) (FA S 5 0 none none) m = .nx (FA S 5 0 (some (.v (tupsD (ways 5 0)))) none) m := by kernel_rfl
theorem a2_5_1 (S : D) (m : Mem) : A2 (callN 40) (FA S 5 1 none none) m = .nx (FA S 5 1 (some (.v (tupsD (ways 5 1)))) none) m := by kernel_rfl
theorem a2_5_2 (S : D) (m : Mem) : A2 (callN 40) (FA S 5 2 none none) m = .nx (FA S 5 2 (some (.v (tupsD (ways 5 2)))) none) m := by kernel_rfl
theorem a2_5_3 (S : D) (m : Mem) : A2 (callN 40) (FA S 5 3 none none) m = .nx (FA S 5 3 (some (.v (tupsD (ways 5 3)))) none) m := by kernel_rfl
theorem a2_5_4 (S : D) (m : Mem) : A2 (callN 40) (FA S 5 4 none none) m = .nx (FA S 5 4 (some (.v (tupsD (ways 5 4)))) none) m := by kernel_rfl
theorem a2 (S : D) (m : Mem) (nm dr : Nat) (h1 : 1 ≤ nm) (h2 : nm ≤ 5) (h3 : dr ≤ 4) : A2 (callN 40) (FA S nm dr none none) m = .nx (FA S nm dr (some (.v (tupsD (ways nm dr)))) none) m := by
  have e1 : nm = 1 ∨ nm = 2 ∨ nm = 3 ∨ nm = 4 ∨ nm = 5 := by omega
  have e2 : dr = 0 ∨ dr = 1 ∨ dr = 2 ∨ dr = 3 ∨ dr = 4 := by omega
  rcases e1 with e1 | e1 | e1 | e1 | e1 <;> rcases e2 with e2 | e2 | e2 | e2 | e2 <;> subst e1 <;> subst e2
  · exact a2_1_0 S m
  · exact a2_1_1 S m
  · exact a2_1_2 S m
  · exact a2_1_3 S m
  · exact a2_1_4 S m
  · exact a2_2_0 S m
  · exact a2_2_1 S m
  · exact a2_2_2 S m
  · exact a2_2_3 S m
  · exact a2_2_4 S m
  · exact a2_3_0 S m
  · exact a2_3_1 S m
  · exact a2_3_2 S m
  · exact a2_3_3 S m
  · exact a2_3_4 S m
  · exact a2_4_0 S m
  · exact a2_4_1 S m
  · exact a2_4_2 S m
  · exact a2_4_3 S m
  · exact a2_4_4 S m
  · exact a2_5_0 S m
  · exact a2_5_1 S m
  · exact a2_5_2 S m
  · exact a2_5_3 S m
  · exact a2_5_4 S m
theorem a3_1_0 (S : D) (m : Mem) : A3f (callN 40) (FA S 1 0 (some (.v (tupsD (ways 1 0)))) none) m = .nx (FA S 1 0 (some (.v (tupsD (ways 1 0)))) (iv (rowsN 1 0).length)) m := by kernel_rfl
theorem a3_1_1 (S : D) (m : Mem) : A3f (callN 40) (FA S 1 1 (some (.v (tupsD (ways 1 1)))) none) m = .nx (FA S 1 1 (some (.v (tupsD (ways 1 1)))) (iv (rowsN 1 1).length)) m := by kernel_rfl
theorem a3_1_2 (S : D) (m : Mem) : A3f (callN 40) (FA S 1 2 (some (.v (tupsD (ways 1 2)))) none) m = .nx (FA S 1 2 (some (.v (tupsD (ways 1 2)))) (iv (rowsN 1 2).length)) m := by kernel_rfl
theorem a3_1_3 (S : D) (m : Mem) : A3f (callN 40) (FA S 1 3 (some (.v (tupsD (ways 1 3)))) none) m = .nx (FA S 1 3 (some (.v (tupsD (ways 1 3)))) (iv (rowsN 1 3).length)) m := by kernel_rfl
theorem a3_1_4 (S : D) (m : Mem) : A3f (callN 40) (FA S 1 4 (some (.v (tupsD (ways 1 4)))) none) m = .nx (FA S 1 4 (some (.v (tupsD (ways 1 4)))) (iv (rowsN 1 4).length)) m := by kernel_rfl
theorem a3_2_0 (S : D) (m : Mem) : A3f (callN 40) (FA S 2 0 (some (.v (tupsD (ways 2 0)))) none) m = .nx (FA S 2 0 (some (.v (tupsD (ways 2 0)))) (iv (rowsN 2 0).length)) m := by kernel_rfl
theorem a3_2_1 (S : D) (m : Mem) : A3f (callN 40) (FA S 2 1 (some (.v (tupsD (ways 2 1)))) none) m = .nx (FA S 2 1 (some (.v (tupsD (ways 2 1)))) (iv (rowsN 2 1).length)) m := by kernel_rfl
theorem a3_2_2 (S : D) (m : Mem) : A3f (callN 40) (FA S 2 2 (some (.v (tupsD (ways 2 2)))) none) m = .nx (FA S 2 2 (some (.v (tupsD (ways 2 2)))) (iv (rowsN 2 2).length)) m := by kernel_rfl
theorem a3_2_3 (S : D) (m : Mem) : A3f (callN 40) (FA S 2 3 (some (.v (tupsD (ways 2 3)))) none) m = .nx (FA S 2 3 (some (.v (tupsD (ways 2 3)))) (iv (rowsN 2 3).length)) m := by kernel_rfl
theorem a3_2_4 (S : D) (m : Mem) : A3f (callN 40) (FA S 2 4 (some (.v (tupsD (ways 2 4)))) none) m = .nx (FA S 2 4 (some (.v (tupsD (ways 2 4)))) (iv (rowsN 2 4).length)) m := by kernel_rfl
theorem a3_3_0 (S : D) (m : Mem) : A3f (callN 40) (FA S 3 0 (some (.v (tupsD (ways 3 0)))) none) m = .nx (FA S 3 0 (some (.v (tupsD (ways 3 0)))) (iv (rowsN 3 0).length)) m := by kernel_rfl
theorem a3_3_1 (S : D) (m : Mem) : A3f (callN 40) (FA S 3 1 (some (.v (tupsD (ways 3 1)))) none) m = .nx (FA S 3 1 (some (.v (tupsD (ways 3 1)))) (iv (rowsN 3 1).length)) m := by kernel_rfl
theorem a3_3_2 (S : D) (m : Mem) : A3f (callN 40) (FA S 3 2 (some (.v (tupsD (ways 3 2)))) none) m = .nx (FA S 3 2 (some (.v (tupsD (ways 3 2)))) (iv (rowsN 3 2).length)) m := by kernel_rfl
theorem a3_3_3 (S : D) (m : Mem) : A3f (callN 40) (FA S 3 3 (some (.v (tupsD (ways 3 3)))) none) m = .nx (FA S 3 3 (some (.v (tupsD (ways 3 3)))) (iv (rowsN 3 3).length)) m := by kernel_rfl
theorem a3_3_4 (S : D) (m : Mem) : A3f (callN 40) (FA S 3 4 (some (.v (tupsD (ways 3 4)))) none) m = .nx (FA S 3 4 (some (.v (tupsD (ways 3 4)))) (iv (rowsN 3 4).length)) m := by kernel_rfl
theorem a3_4_0 (S : D) (m : Mem) : A3f (callN 40) (FA S 4 0 (some (.v (tupsD (ways 4 0)))) none) m = .nx (FA S 4 0 (some (.v (tupsD (ways 4 0)))) (iv (rowsN 4 0).length)) m := by kernel_rfl
theorem a3_4_1 (S : D) (m : Mem) : A3f (callN 40) (FA S 4 1 (some (.v (tupsD (ways 4 1)))) none) m = .nx (FA S 4 1 (some (.v (tupsD (ways 4 1)))) (iv (rowsN 4 1).length)) m := by kernel_rfl
theorem a3_4_2 (S : D) (m : Mem) : A3f (callN 40) (FA S 4 2 (some (.v (tupsD (ways 4 2)))) none) m = .nx (FA S 4 2 (some (.v (tupsD (ways 4 2)))) (iv (rowsN 4 2).length)) m := by kernel_rfl
theorem a3_4_3 (S : D) (m : Mem) : A3f (callN 40) (FA S 4 3 (some (.v (tupsD (ways 4 3)))) none) m = .nx (FA S 4 3 (some (.v (tupsD (ways 4 3)))) (iv (rowsN 4 3).length)) m := by kernel_rfl
theorem a3_4_4 (S : D) (m : Mem) : A3f (callN 40) (FA S 4 4 (some (.v (tupsD (ways 4 4)))) none) m = .nx (FA S 4 4 (some (.v (tupsD (ways 4 4)))) (iv (rowsN 4 4).length)) m := by kernel_rfl
theorem a3_5_0 (S : D) (m : Mem) : A3f (callN 40) (FA S 5 0 (some (.v (tupsD (ways 5 0)))) none) m = .nx (FA S 5 0 (some (.v (tupsD (ways 5 0)))) (iv (rowsN 5 0).length)) m := by kernel_rfl
theorem a3_5_1 (S : D) (m : Mem) : A3f (callN 40) (FA S 5 1 (some (.v (tupsD (ways 5 1)))) none) m = .nx (FA S 5 1 (some (.v (tupsD (ways 5 1)))) (iv (rowsN 5 1).length)) m := by kernel_rfl
theorem a3_5_2 (S : D) (m : Mem) : A3f (callN 40) (FA S 5 2 (some (.v (tupsD (ways 5 2)))) none) m = .nx (FA S 5 2 (some (.v (tupsD (ways 5 2)))) (iv (rowsN 5 2).length)) m := by kernel_rfl
theorem a3_5_3 (S : D) (m : Mem) : A3f (callN 40) (FA S 5 3 (some (.v (tupsD (ways 5 3)))) none) m = .nx (FA S 5 3 (some (.v (tupsD (ways 5 3)))) (iv (rowsN 5 3).length)) m := by kernel_rfl
theorem a3_5_4 (S : D) (m : Mem) : A3f (callN 40) (FA S 5 4 (some (.v (tupsD (ways 5 4)))) none) m = .nx (FA S 5 4 (some (.v (tupsD (ways 5 4)))) (iv (rowsN 5 4).length)) m := by kernel_rfl
theorem a3 (S : D) (m : Mem) (nm dr : Nat) (h1 : 1 ≤ nm) (h2 : nm ≤ 5) (h3 : dr ≤ 4) : A3f (callN 40) (FA S nm dr (some (.v (tupsD (ways nm dr)))) none) m = .nx (FA S nm dr (some (.v (tupsD (ways nm dr)))) (iv (rowsN nm dr).length)) m := by
  have e1 : nm = 1 ∨ nm = 2 ∨ nm = 3 ∨ nm = 4 ∨ nm = 5 := by omega
  have e2 : dr = 0 ∨ dr = 1 ∨ dr = 2 ∨ dr = 3 ∨ dr = 4 := by omega
  rcases e1 with e1 | e1 | e1 | e1 | e1 <;> rcases e2 with e2 | e2 | e2 | e2 | e2 <;> subst e1 <;> subst e2
  · exact a3_1_0 S m
  · exact a3_1_1 S m
  · exact a3_1_2 S m
  · exact a3_1_3 S m
  · exact a3_1_4 S m
  · exact a3_2_0 S m
  · exact a3_2_1 S m
  · exact a3_2_2 S m
  · exact a3_2_3 S m
  · exact a3_2_4 S m
  · exact a3_3_0 S m
  · exact a3_3_1 S m
  · exact a3_3_2 S m
  · exact a3_3_3 S m
  · exact a3_3_4 S m
  · exact a3_4_0 S m
  · exact a3_4_1 S m
  · exact a3_4_2 S m
  · exact a3_4_3 S m
  · exact a3_4_4 S m
  · exact a3_5_0 S m
  · exact a3_5_1 S m
  · exact a3_5_2 S m
  · exact a3_5_3 S m
  · exact a3_5_4 S m
theorem a4_1_0 (S : D) (m : Mem) : A4 callF (FA S 1 0 (some (.v (tupsD (ways 1 0)))) (iv (rowsN 1 0).length)) m = .nx (FA S 1 0 (some (.v (tupsD (ways 1 0)))) (iv (rowsN 1 0).length)) m := by kernel_rfl
theorem a4_1_1 (S : D) (m : Mem) : A4 callF (FA S 1 1 (some (.v (tupsD (ways 1 1)))) (iv (rowsN 1 1).length)) m = .nx (FA S 1 1 (some (.v (tupsD (ways 1 1)))) (iv (rowsN 1 1).length)) m := by kernel_rfl
theorem a4_1_2 (S : D) (m : Mem) : A4 callF (FA S 1 2 (some (.v (tupsD (ways 1 2)))) (iv (rowsN 1 2).length)) m = .nx (FA S 1 2 (some (.v (tupsD (ways 1 2)))) (iv (rowsN 1 2).length)) m := by kernel_rfl
theorem a4_1_3 (S : D) (m : Mem) : A4 callF (FA S 1 3 (some (.v (tupsD (ways 1 3)))) (iv (rowsN 1 3).length)) m = .nx (FA S 1 3 (some (.v (tupsD (ways 1 3)))) (iv (rowsN 1 3).length)) m := by kernel_rfl
theorem a4_1_4 (S : D) (m : Mem) : A4 callF (FA S 1 4 (some (.v (tupsD (ways 1 4)))) (iv (rowsN 1 4).length)) m = .nx (FA S 1 4 (some (.v (tupsD (ways 1 4)))) (iv (rowsN 1 4).length)) m := by kernel_rfl
theorem a4_2_0 (S : D) (m : Mem) : A4 callF (FA S 2 0 (some (.v (tupsD (ways 2 0)))) (iv (rowsN 2 0).length)) m = .nx (FA S 2 0 (some (.v (tupsD (ways 2 0)))) (iv (rowsN 2 0).length)) m := by kernel_rfl
theorem a4_2_1 (S : D) (m : Mem) : A4 callF (FA S 2 1 (some (.v (tupsD (ways 2 1)))) (iv (rowsN 2 1).length)) m = .nx (FA S 2 1 (some (.v (tupsD (ways 2 1)))) (iv (rowsN 2 1).length)) m := by kernel_rfl
theorem a4_2_2 (S : D) (m : Mem) : A4 callF (FA S 2 2 (some (.v (tupsD (ways 2 2)))) (iv (rowsN 2 2).length)) m = .nx (FA S 2 2 (some (.v (tupsD (ways 2 2)))) (iv (rowsN 2 2).length)) m := by kernel_rfl
theorem a4_2_3 (S : D) (m : Mem) : A4 callF (FA S 2 3 (some (.v (tupsD (ways 2 3)))) (iv (rowsN 2 3).length)) m = .nx (FA S 2 3 (some (.v (tupsD (ways 2 3)))) (iv (rowsN 2 3).length)) m := by kernel_rfl
theorem a4_2_4 (S : D) (m : Mem) : A4 callF (FA S 2 4 (some (.v (tupsD (ways 2 4)))) (iv (rowsN 2 4).length)) m = .nx (FA S 2 4 (some (.v (tupsD (ways 2 4)))) (iv (rowsN 2 4).length)) m := by kernel_rfl
theorem a4_3_0 (S : D) (m : Mem) : A4 callF (FA S 3 0 (some (.v (tupsD (ways 3 0)))) (iv (rowsN 3 0).length)) m = .nx (FA S 3 0 (some (.v (tupsD (ways 3 0)))) (iv (rowsN 3 0).length)) m := by kernel_rfl
theorem a4_3_1 (S : D) (m : Mem) : A4 callF (FA S 3 1 (some (.v (tupsD (ways 3 1)))) (iv (rowsN 3 1).length)) m = .nx (FA S 3 1 (some (.v (tupsD (ways 3 1)))) (iv (rowsN 3 1).length)) m := by kernel_rfl
theorem a4_3_2 (S : D) (m : Mem) : A4 callF (FA S 3 2 (some (.v (tupsD (ways 3 2)))) (iv (rowsN 3 2).length)) m = .nx (FA S 3 2 (some (.v (tupsD (ways 3 2)))) (iv (rowsN 3 2).length)) m := by kernel_rfl
theorem a4_3_3 (S : D) (m : Mem) : A4 callF (FA S 3 3 (some (.v (tupsD (ways 3 3)))) (iv (rowsN 3 3).length)) m = .nx (FA S 3 3 (some (.v (tupsD (ways 3 3)))) (iv (rowsN 3 3).length)) m := by kernel_rfl
theorem a4_3_4 (S : D) (m : Mem) : A4 callF (FA S 3 4 (some (.v (tupsD (ways 3 4)))) (iv (rowsN 3 4).length)) m = .nx (FA S 3 4 (some (.v (tupsD (ways 3 4)))) (iv (rowsN 3 4).length)) m := by kernel_rfl
theorem a4_4_0 (S : D) (m : Mem) : A4 callF (FA S 4 0 (some (.v (tupsD (ways 4 0)))) (iv (rowsN 4 0).length)) m = .nx (FA S 4 0 (some (.v (tupsD (ways 4 0)))) (iv (rowsN 4 0).length)) m := by kernel_rfl
theorem a4_4_1 (S : D) (m : Mem) : A4 callF (FA S 4 1 (some (.v (tupsD (ways 4 1)))) (iv (rowsN 4 1).length)) m = .nx (FA S 4 1 (some (.v (tupsD (ways 4 1)))) (iv (rowsN 4 1).length)) m := by kernel_rfl
theorem a4_4_2 (S : D) (m : Mem) : A4 callF (FA S 4 2 (some (.v (tupsD (ways 4 2)))) (iv (rowsN 4 2).length)) m = .nx (FA S 4 2 (some (.v (tupsD (ways 4 2)))) (iv (rowsN 4 2).length)) m := by kernel_rfl
theorem a4_4_3 (S : D) (m : Mem) : A4 callF (FA S 4 3 (some (.v (tupsD (ways 4 3)))) (iv (rowsN 4 3).length)) m = .nx (FA S 4 3 (some (.v (tupsD (ways 4 3)))) (iv (rowsN 4 3).length)) m := by kernel_rfl
theorem a4_4_4 (S : D) (m : Mem) : A4 callF (FA S 4 4 (some (.v (tupsD (ways 4 4)))) (iv (rowsN 4 4).length)) m = .nx (FA S 4 4 (some (.v (tupsD (ways 4 4)))) (iv (rowsN 4 4).length)) m := by kernel_rfl
theorem a4_5_0 (S : D) (m : Mem) : A4 callF (FA S 5 0 (some (.v (tupsD (ways 5 0)))) (iv (rowsN 5 0).length)) m = .nx (FA S 5 0 (some (.v (tupsD (ways 5 0)))) (iv (rowsN 5 0).length)) m := by kernel_rfl
theorem a4_5_1 (S : D) (m : Mem) : A4 callF (FA S 5 1 (some (.v (tupsD (ways 5 1)))) (iv (rowsN 5 1).length)) m = .nx (FA S 5 1 (some (.v (tupsD (ways 5 1)))) (iv (rowsN 5 1).length)) m := by kernel_rfl
theorem a4_5_2 (S : D) (m : Mem) : A4 callF (FA S 5 2 (some (.v (tupsD (ways 5 2)))) (iv (rowsN 5 2).length)) m = .nx (FA S 5 2 (some (.v (tupsD (ways 5 2)))) (iv (rowsN 5 2).length)) m := by kernel_rfl
theorem a4_5_3 (S : D) (m : Mem) : A4 callF (FA S 5 3 (some (.v (tupsD (ways 5 3)))) (iv (rowsN 5 3).length)) m = .nx (FA S 5 3 (some (.v (tupsD (ways 5 3)))) (iv (rowsN 5 3).length)) m := by kernel_rfl
theorem a4_5_4 (S : D) (m : Mem) : A4 callF (FA S 5 4 (some (.v (tupsD (ways 5 4)))) (iv (rowsN 5 4).length)) m = .nx (FA S 5 4 (some (.v (tupsD (ways 5 4)))) (iv (rowsN 5 4).length)) m := by kernel_rfl
theorem a4 (S : D) (m : Mem) (nm dr : Nat) (h1 : 1 ≤ nm) (h2 : nm ≤ 5) (h3 : dr ≤ 4) : A4 callF (FA S nm dr (some (.v (tupsD (ways nm dr)))) (iv (rowsN nm dr).length)) m = .nx (FA S nm dr (some (.v (tupsD (ways nm dr)))) (iv (rowsN nm dr).length)) m := by
  have e1 : nm = 1 ∨ nm = 2 ∨ nm = 3 ∨ nm = 4 ∨ nm = 5 := by omega
  have e2 : dr = 0 ∨ dr = 1 ∨ dr = 2 ∨ dr = 3 ∨ dr = 4 := by omega
  rcases e1 with e1 | e1 | e1 | e1 | e1 <;> rcases e2 with e2 | e2 | e2 | e2 | e2 <;> subst e1 <;> subst e2
  · exact a4_1_0 S m
  · exact a4_1_1 S m
  · exact a4_1_2 S m
  · exact a4_1_3 S m
  · exact a4_1_4 S m
  · exact a4_2_0 S m
  · exact a4_2_1 S m
  · exact a4_2_2 S m
  · exact a4_2_3 S m
  · exact a4_2_4 S m
  · exact a4_3_0 S m
  · exact a4_3_1 S m
  · exact a4_3_2 S m
  · exact a4_3_3 S m
  · exact a4_3_4 S m
  · exact a4_4_0 S m
  · exact a4_4_1 S m
  · exact a4_4_2 S m
  · exact a4_4_3 S m
  · exact a4_4_4 S m
  · exact a4_5_0 S m
  · exact a4_5_1 S m
  · exact a4_5_2 S m
  · exact a4_5_3 S m
  · exact a4_5_4 S m
theorem a5_1_0 (S : D) (m : Mem) : A5f callF (FA S 1 0 (some (.v (tupsD (ways 1 0)))) (iv (rowsN 1 0).length)) m = .nx (FA S 1 0 (some (.v (tupsD (ways 1 0)))) (iv (rowsN 1 0).length)) m := by kernel_rfl
theorem a5_1_1 (S : D) (m : Mem) : A5f callF (FA S 1 1 (some (.v (tupsD (ways 1 1)))) (iv (rowsN 1 1).length)) m = .nx (FA S 1 1 (some (.v (tupsD (ways 1 1)))) (iv (rowsN 1 1).length)) m := by kernel_rfl
theorem a5_1_2 (S : D) (m : Mem) : A5f callF (FA S 1 2 (some (.v (tupsD (ways 1 2)))) (iv (rowsN 1 2).length)) m = .nx (FA S 1 2 (some (.v (tupsD (ways 1 2)))) (iv (rowsN 1 2).length)) m := by kernel_rfl
theorem a5_1_3 (S : D) (m : Mem) : A5f callF (FA S 1 3 (some (.v (tupsD (ways 1 3)))) (iv (rowsN 1 3).length)) m = .nx (FA S 1 3 (some (.v (tupsD (ways 1 3)))) (iv (rowsN 1 3).length)) m := by kernel_rfl
theorem a5_1_4 (S : D) (m : Mem) : A5f callF (FA S 1 4 (some (.v (tupsD (ways 1 4)))) (iv (rowsN 1 4).length)) m = .nx (FA S 1 4 (some (.v (tupsD (ways 1 4)))) (iv (rowsN 1 4).length)) m := by kernel_rfl
theorem a5_2_0 (S : D) (m : Mem) : A5f callF (FA S 2 0 (some (.v (tupsD (ways 2 0)))) (iv (rowsN 2 0).length)) m = .nx (FA S 2 0 (some (.v (tupsD (ways 2 0)))) (iv (rowsN 2 0).length)) m := by kernel_rfl
theorem a5_2_1 (S : D) (m : Mem) : A5f callF (FA S 2 1 (some (.v (tupsD (ways 2 1)))) (iv (rowsN 2 1).length)) m = .nx (FA S 2 1 (some (.v (tupsD (ways 2 1)))) (iv (rowsN 2 1).length)) m := by kernel_rfl
theorem a5_2_2 (S : D) (m : Mem) : A5f callF (FA S 2 2 (some (.v (tupsD (ways 2 2)))) (iv (rowsN 2 2).length)) m = .nx (FA S 2 2 (some (.v (tupsD (ways 2 2)))) (iv (rowsN 2 2).length)) m := by kernel_rfl
theorem a5_2_3 (S : D) (m : Mem) : A5f callF (FA S 2 3 (some (.v (tupsD (ways 2 3)))) (iv (rowsN 2 3).length)) m = .nx (FA S 2 3 (some (.v (tupsD (ways 2 3)))) (iv (rowsN 2 3).length)) m := by kernel_rfl
theorem a5_2_4 (S : D) (m : Mem) : A5f callF (FA S 2 4 (some (.v (tupsD (ways 2 4)))) (iv (rowsN 2 4).length)) m = .nx (FA S 2 4 (some (.v (tupsD (ways 2 4)))) (iv (rowsN 2 4).length)) m := by kernel_rfl
theorem a5_3_0 (S : D) (m : Mem) : A5f callF (FA S 3 0 (some (.v (tupsD (ways 3 0)))) (iv (rowsN 3 0).length)) m = .nx (FA S 3 0 (some (.v (tupsD (ways 3 0)))) (iv (rowsN 3 0).length)) m := by kernel_rfl
theorem a5_3_1 (S : D) (m : Mem) : A5f callF (FA S 3 1 (some (.v (tupsD (ways 3 1)))) (iv (rowsN 3 1).length)) m = .nx (FA S 3 1 (some (.v (tupsD (ways 3 1)))) (iv (rowsN 3 1).length)) m := by kernel_rfl
theorem a5_3_2 (S : D) (m : Mem) : A5f callF (FA S 3 2 (some (.v (tupsD (ways 3 2)))) (iv (rowsN 3 2).length)) m = .nx (FA S 3 2 (some (.v (tupsD (ways 3 2)))) (iv (rowsN 3 2).length)) m := by kernel_rfl
theorem a5_3_3 (S : D) (m : Mem) : A5f callF (FA S 3 3 (some (.v (tupsD (ways 3 3)))) (iv (rowsN 3 3).length)) m = .nx (FA S 3 3 (some (.v (tupsD (ways 3 3)))) (iv (rowsN 3 3).length)) m := by kernel_rfl
theorem a5_3_4 (S : D) (m : Mem) : A5f callF (FA S 3 4 (some (.v (tupsD (ways 3 4)))) (iv (rowsN 3 4).length)) m = .nx (FA S 3 4 (some (.v (tupsD (ways 3 4)))) (iv (rowsN 3 4).length)) m := by kernel_rfl
theorem a5_4_0 (S : D) (m : Mem) : A5f callF (FA S 4 0 (some (.v (tupsD (ways 4 0)))) (iv (rowsN 4 0).length)) m = .nx (FA S 4 0 (some (.v (tupsD (ways 4 0)))) (iv (rowsN 4 0).length)) m := by kernel_rfl
theorem a5_4_1 (S : D) (m : Mem) : A5f callF (FA S 4 1 (some (.v (tupsD (ways 4 1)))) (iv (rowsN 4 1).length)) m = .nx (FA S 4 1 (some (.v (tupsD (ways 4 1)))) (iv (rowsN 4 1).length)) m := by kernel_rfl
theorem a5_4_2 (S : D) (m : Mem) : A5f callF (FA S 4 2 (some (.v (tupsD (ways 4 2)))) (iv (rowsN 4 2).length)) m = .nx (FA S 4 2 (some (.v (tupsD (ways 4 2)))) (iv (rowsN 4 2).length)) m := by kernel_rfl
theorem a5_4_3 (S : D) (m : Mem) : A5f callF (FA S 4 3 (some (.v (tupsD (ways 4 3)))) (iv (rowsN 4 3).length)) m = .nx (FA S 4 3 (some (.v (tupsD (ways 4 3)))) (iv (rowsN 4 3).length)) m := by kernel_rfl
theorem a5_4_4 (S : D) (m : Mem) : A5f callF (FA S 4 4 (some (.v (tupsD (ways 4 4)))) (iv (rowsN 4 4).length)) m = .nx (FA S 4 4 (some (.v (tupsD (ways 4 4)))) (iv (rowsN 4 4).length)) m := by kernel_rfl
theorem a5_5_0 (S : D) (m : Mem) : A5f callF (FA S 5 0 (some (.v (tupsD (ways 5 0)))) (iv (rowsN 5 0).length)) m = .nx (FA S 5 0 (some (.v (tupsD (ways 5 0)))) (iv (rowsN 5 0).length)) m := by kernel_rfl
theorem a5_5_1 (S : D) (m : Mem) : A5f callF (FA S 5 1 (some (.v (tupsD (ways 5 1)))) (iv (rowsN 5 1).length)) m = .nx (FA S 5 1 (some (.v (tupsD (ways 5 1)))) (iv (rowsN 5 1).length)) m := by kernel_rfl
theorem a5_5_2 (S : D) (m : Mem) : A5f callF (FA S 5 2 (some (.v (tupsD (ways 5 2)))) (iv (rowsN 5 2).length)) m = .nx (FA S 5 2 (some (.v (tupsD (ways 5 2)))) (iv (rowsN 5 2).length)) m := by kernel_rfl
theorem a5_5_3 (S : D) (m : Mem) : A5f callF (FA S 5 3 (some (.v (tupsD (ways 5 3)))) (iv (rowsN 5 3).length)) m = .nx (FA S 5 3 (some (.v (tupsD (ways 5 3)))) (iv (rowsN 5 3).length)) m := by kernel_rfl
theorem a5_5_4 (S : D) (m : Mem) : A5f callF (FA S 5 4 (some (.v (tupsD (ways 5 4)))) (iv (rowsN 5 4).length)) m = .nx (FA S 5 4 (some (.v (tupsD (ways 5 4)))) (iv (rowsN 5 4).length)) m := by kernel_rfl
theorem a5 (S : D) (m : Mem) (nm dr : Nat) (h1 : 1 ≤ nm) (h2 : nm ≤ 5) (h3 : dr ≤ 4) : A5f callF (FA S nm dr (some (.v (tupsD (ways nm dr)))) (iv (rowsN nm dr).length)) m = .nx (FA S nm dr (some (.v (tupsD (ways nm dr)))) (iv (rowsN nm dr).length)) m := by
  have e1 : nm = 1 ∨ nm = 2 ∨ nm = 3 ∨ nm = 4 ∨ nm = 5 := by omega
  have e2 : dr = 0 ∨ dr = 1 ∨ dr = 2 ∨ dr = 3 ∨ dr = 4 := by omega
  rcases e1 with e1 | e1 | e1 | e1 | e1 <;> rcases e2 with e2 | e2 | e2 | e2 | e2 <;> subst e1 <;> subst e2
  · exact a5_1_0 S m
  · exact a5_1_1 S m
  · exact a5_1_2 S m
  · exact a5_1_3 S m
  · exact a5_1_4 S m
  · exact a5_2_0 S m
  · exact a5_2_1 S m
  · exact a5_2_2 S m
  · exact a5_2_3 S m
  · exact a5_2_4 S m
  · exact a5_3_0 S m
  · exact a5_3_1 S m
  · exact a5_3_2 S m
  · exact a5_3_3 S m
  · exact a5_3_4 S m
  · exact a5_4_0 S m
  · exact a5_4_1 S m
  · exact a5_4_2 S m
  · exact a5_4_3 S m
  · exact a5_4_4 S m
  · exact a5_5_0 S m
  · exact a5_5_1 S m
  · exact a5_5_2 S m
  · exact a5_5_3 S m
  · exact a5_5_4 S m
end G12
end

section
set_option autoImplicit false
set_option linter.all false
set_option maxRecDepth 100000
namespace G12
open DS
abbrev FB (S W X Dr Gv : D) (nm tr : Nat) (s4 : Option Sl) : Loc := F S (some (.v W)) (some (.v X)) s4 none none none none none none none (iv nm) (some (.v Dr)) (some (.v Gv)) (iv tr) none none none none none none
theorem a7_1_0 (S W X Dr Gv : D) (m : Mem) : A7f (callN 40) (FB S W X Dr Gv 1 0 none) m = .nx (FB S W X Dr Gv 1 0 (some (.o (tupsD (rowsN 1 0))))) m := by kernel_rfl
theorem a7_1_1 (S W X Dr Gv : D) (m : Mem) : A7f (callN 40) (FB S W X Dr Gv 1 1 none) m = .nx (FB S W X Dr Gv 1 1 (some (.o (tupsD (rowsN 1 1))))) m := by kernel_rfl
theorem a7_2_0 (S W X Dr Gv : D) (m : Mem) : A7f (callN 40) (FB S W X Dr Gv 2 0 none) m = .nx (FB S W X Dr Gv 2 0 (some (.o (tupsD (rowsN 2 0))))) m := by kernel_rfl
theorem a7_2_1 (S W X Dr Gv : D) (m : Mem) : A7f (callN 40) (FB S W X Dr Gv 2 1 none) m = .nx (FB S W X Dr Gv 2 1 (some (.o (tupsD (rowsN 2 1))))) m := by kernel_rfl
theorem a7_2_2 (S W X Dr Gv : D) (m : Mem) : A7f (callN 40) (FB S W X Dr Gv 2 2 none) m = .nx (FB S W X Dr Gv 2 2 (some (.o (tupsD (rowsN 2 2))))) m := by kernel_rfl
theorem a7_3_0 (S W X Dr Gv : D) (m : Mem) : A7f (callN 40) (FB S W X Dr Gv 3 0 none) m = .nx (FB S W X Dr Gv 3 0 (some (.o (tupsD (rowsN 3 0))))) m := by kernel_rfl
theorem a7_3_1 (S W X Dr Gv : D) (m : Mem) : A7f (callN 40) (FB S W X Dr Gv 3 1 none) m = .nx (FB S W X Dr Gv 3 1 (some (.o (tupsD (rowsN 3 1))))) m := by kernel_rfl
theorem a7_3_2 (S W X Dr Gv : D) (m : Mem) : A7f (callN 40) (FB S W X Dr Gv 3 2 none) m = .nx (FB S W X Dr Gv 3 2 (some (.o (tupsD (rowsN 3 2))))) m := by kernel_rfl
theorem a7_3_3 (S W X Dr Gv : D) (m : Mem) : A7f (callN 40) (FB S W X Dr Gv 3 3 none) m = .nx (FB S W X Dr Gv 3 3 (some (.o (tupsD (rowsN 3 3))))) m := by kernel_rfl
theorem a7_4_0 (S W X Dr Gv : D) (m : Mem) : A7f (callN 40) (FB S W X Dr Gv 4 0 none) m = .nx (FB S W X Dr Gv 4 0 (some (.o (tupsD (rowsN 4 0))))) m := by kernel_rfl
theorem a7_4_1 (S W X Dr Gv : D) (m : Mem) : A7f (callN 40) (FB S W X Dr Gv 4 1 none) m = .nx (FB S W X Dr Gv 4 1 (some (.o (tupsD (rowsN 4 1))))) m := by kernel_rfl
theorem a7_4_2 (S W X Dr Gv : D) (m : Mem) : A7f (callN 40) (FB S W X Dr Gv 4 2 none) m = .nx (FB S W X Dr Gv 4 2 (some (.o (tupsD (rowsN 4 2))))) m := by kernel_rfl
theorem a7_4_3 (S W X Dr Gv : D) (m : Mem) : A7f (callN 40) (FB S W X Dr Gv 4 3 none) m = .nx (FB S W X Dr Gv 4 3 (some (.o (tupsD (rowsN 4 3))))) m := by kernel_rfl
theorem a7_4_4 (S W X Dr Gv : D) (m : Mem) : A7f (callN 40) (FB S W X Dr Gv 4 4 none) m = .nx (FB S W X Dr Gv 4 4 (some (.o (tupsD (rowsN 4 4))))) m := by kernel_rfl
theorem a7_5_0 (S W X Dr Gv : D) (m : Mem) : A7f (callN 40) (FB S W X Dr Gv 5 0 none) m = .nx (FB S W X Dr Gv 5 0 (some (.o (tupsD (rowsN 5 0))))) m := by kernel_rfl
theorem a7_5_1 (S W X Dr Gv : D) (m : Mem) : A7f (callN 40) (FB S W X Dr Gv 5 1 none) m = .nx (FB S W X Dr Gv 5 1 (some (.o (tupsD (rowsN 5 1))))) m := by kernel_rfl
theorem a7_5_2 (S W X Dr Gv : D) (m : Mem) : A7f (callN 40) (FB S W X Dr Gv 5 2 none) m = .nx (FB S W X Dr Gv 5 2 (some (.o (tupsD (rowsN 5 2))))) m := by kernel_rfl
theorem a7_5_3 (S W X Dr Gv : D) (m : Mem) : A7f (callN 40) (FB S W X Dr Gv 5 3 none) m = .nx (FB S W X Dr Gv 5 3 (some (.o (tupsD (rowsN 5 3))))) m := by kernel_rfl
theorem a7_5_4 (S W X Dr Gv : D) (m : Mem) : A7f (callN 40) (FB S W X Dr Gv 5 4 none) m = .nx (FB S W X Dr Gv 5 4 (some (.o (tupsD (rowsN 5 4))))) m := by kernel_rfl
theorem a7_1 (S W X Dr Gv : D) (m : Mem) (tr : Nat) (h4 : tr ≤ 1) : A7f (callN 40) (FB S W X Dr Gv 1 tr none) m = .nx (FB S W X Dr Gv 1 tr (some (.o (tupsD (rowsN 1 tr))))) m := by
  have e2 : tr = 0 ∨ tr = 1 := by omega
  rcases e2 with e2 | e2 <;> subst e2
  · exact a7_1_0 S W X Dr Gv m
  · exact a7_1_1 S W X Dr Gv m
theorem a7_2 (S W X Dr Gv : D) (m : Mem) (tr : Nat) (h4 : tr ≤ 2) : A7f (callN 40) (FB S W X Dr Gv 2 tr none) m = .nx (FB S W X Dr Gv 2 tr (some (.o (tupsD (rowsN 2 tr))))) m := by
  have e2 : tr = 0 ∨ tr = 1 ∨ tr = 2 := by omega
  rcases e2 with e2 | e2 | e2 <;> subst e2
  · exact a7_2_0 S W X Dr Gv m
  · exact a7_2_1 S W X Dr Gv m
  · exact a7_2_2 S W X Dr Gv m
theorem a7_3 (S W X Dr Gv : D) (m : Mem) (tr : Nat) (h4 : tr ≤ 3) : A7f (callN 40) (FB S W X Dr Gv 3 tr none) m = .nx (FB S W X Dr Gv 3 tr (some (.o (tupsD (rowsN 3 tr))))) m := by
  have e2 : tr = 0 ∨ tr = 1 ∨ tr = 2 ∨ tr = 3 := by omega
  rcases e2 with e2 | e2 | e2 | e2 <;> subst e2
  · exact a7_3_0 S W X Dr Gv m
  · exact a7_3_1 S W X Dr Gv m
  · exact a7_3_2 S W X Dr Gv m
  · exact a7_3_3 S W X Dr Gv m
theorem a7_4 (S W X Dr Gv : D) (m : Mem) (tr : Nat) (h4 : tr ≤ 4) : A7f (callN 40) (FB S W X Dr Gv 4 tr none) m = .nx (FB S W X Dr Gv 4 tr (some (.o (tupsD (rowsN 4 tr))))) m := by
  have e2 : tr = 0 ∨ tr = 1 ∨ tr = 2 ∨ tr = 3 ∨ tr = 4 := by omega
  rcases e2 with e2 | e2 | e2 | e2 | e2 <;> subst e2
  · exact a7_4_0 S W X Dr Gv m
  · exact a7_4_1 S W X Dr Gv m
  · exact a7_4_2 S W X Dr Gv m
  · exact a7_4_3 S W X Dr Gv m
  · exact a7_4_4 S W X Dr Gv m
theorem a7_5 (S W X Dr Gv : D) (m : Mem) (tr : Nat) (h4 : tr ≤ 4) : A7f (callN 40) (FB S W X Dr Gv 5 tr none) m = .nx (FB S W X Dr Gv 5 tr (some (.o (tupsD (rowsN 5 tr))))) m := by
  have e2 : tr = 0 ∨ tr = 1 ∨ tr = 2 ∨ tr = 3 ∨ tr = 4 := by omega
  rcases e2 with e2 | e2 | e2 | e2 | e2 <;> subst e2
  · exact a7_5_0 S W X Dr Gv m
  · exact a7_5_1 S W X Dr Gv m
  · exact a7_5_2 S W X Dr Gv m
  · exact a7_5_3 S W X Dr Gv m
  · exact a7_5_4 S W X Dr Gv m
theorem a7 (S W X Dr Gv : D) (m : Mem) (nm tr : Nat) (h1 : 1 ≤ nm) (h2 : nm ≤ 5) (h3 : tr ≤ nm) (h4 : tr ≤ 4) : A7f (callN 40) (FB S W X Dr Gv nm tr none) m = .nx (FB S W X Dr Gv nm tr (some (.o (tupsD (rowsN nm tr))))) m := by
  have e1 : nm = 1 ∨ nm = 2 ∨ nm = 3 ∨ nm = 4 ∨ nm = 5 := by omega
  rcases e1 with e1 | e1 | e1 | e1 | e1 <;> subst e1
  · exact a7_1 S W X Dr Gv m tr (by omega)
  · exact a7_2 S W X Dr Gv m tr (by omega)
  · exact a7_3 S W X Dr Gv m tr (by omega)
  · exact a7_4 S W X Dr Gv m tr (by omega)
  · exact a7_5 S W X Dr Gv m tr (by omega)
theorem a8_1_0_0 (S W X Dr : D) (m : Mem) : A8f callF (FB S W X Dr (.int ((0 : Nat) : Int)) 1 0 (some (.o (tupsD (rowsN 1 0))))) m = .nx (FB S W X Dr (.int ((0 : Nat) : Int)) 1 0 (some (.o (tupsD (rowsN 1 0))))) m := by kernel_rfl
theorem a8_1_0_1 (S W X Dr : D) (m : Mem) : A8f callF (FB S W X Dr (.int ((0 : Nat) : Int)) 1 1 (some (.o (tupsD (rowsN 1 1))))) m = .nx (FB S W X Dr (.int ((0 : Nat) : Int)) 1 1 (some (.o (tupsD (rowsN 1 1))))) m := by kernel_rfl
theorem a8_1_1_0 (S W X Dr : D) (m : Mem) : A8f callF (FB S W X Dr (.int ((1 : Nat) : Int)) 1 0 (some (.o (tupsD (rowsN 1 0))))) m = .nx (FB S W X Dr (.int ((1 : Nat) : Int)) 1 0 (some (.o (tupsD (rowsN 1 0))))) m := by kernel_rfl
theorem a8_1_1_1 (S W X Dr : D) (m : Mem) : A8f callF (FB S W X Dr (.int ((1 : Nat) : Int)) 1 1 (some (.o (tupsD (rowsN 1 1))))) m = .nx (FB S W X Dr (.int ((1 : Nat) : Int)) 1 1 (some (.o (tupsD (rowsN 1 1))))) m := by kernel_rfl
theorem a8_2_0_0 (S W X Dr : D) (m : Mem) : A8f callF (FB S W X Dr (.int ((0 : Nat) : Int)) 2 0 (some (.o (tupsD (rowsN 2 0))))) m = .nx (FB S W X Dr (.int ((0 : Nat) : Int)) 2 0 (some (.o (tupsD (rowsN 2 0))))) m := by kernel_rfl
theorem a8_2_0_1 (S W X Dr : D) (m : Mem) : A8f callF (FB S W X Dr (.int ((0 : Nat) : Int)) 2 1 (some (.o (tupsD (rowsN 2 1))))) m = .nx (FB S W X Dr (.int ((0 : Nat) : Int)) 2 1 (some (.o (tupsD (rowsN 2 1))))) m := by kernel_rfl
theorem a8_2_0_2 (S W X Dr : D) (m : Mem) : A8f callF (FB S W X Dr (.int ((0 : Nat) : Int)) 2 2 (some (.o (tupsD (rowsN 2 2))))) m = .nx (FB S W X Dr (.int ((0 : Nat) : Int)) 2 2 (some (.o (tupsD (rowsN 2 2))))) m := by kernel_rfl
theorem a8_2_1_0 (S W X Dr : D) (m : Mem) : A8f callF (FB S W X Dr (.int ((1 : Nat) : Int)) 2 0 (some (.o (tupsD (rowsN 2 0))))) m = .nx (FB S W X Dr (.int ((1 : Nat) : Int)) 2 0 (some (.o (tupsD (rowsN 2 0))))) m := by kernel_rfl
theorem a8_2_1_1 (S W X Dr : D) (m : Mem) : A8f callF (FB S W X Dr (.int ((1 : Nat) : Int)) 2 1 (some (.o (tupsD (rowsN 2 1))))) m = .nx (FB S W X Dr (.int ((1 : Nat) : Int)) 2 1 (some (.o (tupsD (rowsN 2 1))))) m := by kernel_rfl
theorem a8_2_1_2 (S W X Dr : D) (m : Mem) : A8f callF (FB S W X Dr (.int ((1 : Nat) : Int)) 2 2 (some (.o (tupsD (rowsN 2 2))))) m = .nx (FB S W X Dr (.int ((1 : Nat) : Int)) 2 2 (some (.o (tupsD (rowsN 2 2))))) m := by kernel_rfl
theorem a8_2_2_0 (S W X Dr : D) (m : Mem) : A8f callF (FB S W X Dr (.int ((2 : Nat) : Int)) 2 0 (some (.o (tupsD (rowsN 2 0))))) m = .nx (FB S W X Dr (.int ((2 : Nat) : Int)) 2 0 (some (.o (tupsD (rowsN 2 0))))) m := by kernel_rfl
theorem a8_2_2_1 (S W X Dr : D) (m : Mem) : A8f callF (FB S W X Dr (.int ((2 : Nat) : Int)) 2 1 (some (.o (tupsD (rowsN 2 1))))) m = .nx (FB S W X Dr (.int ((2 : Nat) : Int)) 2 1 (some (.o (tupsD (rowsN 2 1))))) m := by kernel_rfl
theorem a8_2_2_2 (S W X Dr : D) (m : Mem) : A8f callF (FB S W X Dr (.int ((2 : Nat) : Int)) 2 2 (some (.o (tupsD (rowsN 2 2))))) m = .nx (FB S W X Dr (.int ((2 : Nat) : Int)) 2 2 (some (.o (tupsD (rowsN 2 2))))) m := by kernel_rfl
theorem a8_3_0_0 (S W X Dr : D) (m : Mem) : A8f callF (FB S W X Dr (.int ((0 : Nat) : Int)) 3 0 (some (.o (tupsD (rowsN 3 0))))) m = .nx (FB S W X Dr (.int ((0 : Nat) : Int)) 3 0 (some (.o (tupsD (rowsN 3 0))))) m := by kernel_rfl
theorem a8_3_0_1 (S W X Dr : D) (m : Mem) : A8f callF (FB S W X Dr (.int ((0 : Nat) : Int)) 3 1 (some (.o (tupsD (rowsN 3 1))))) m = .nx (FB S W X Dr (.int ((0 : Nat) : Int)) 3 1 (some (.o (tupsD (rowsN 3 1))))) m := by kernel_rfl
theorem a8_3_0_2 (S W X Dr : D) (m : Mem) : A8f callF (FB S W X Dr (.int ((0 : Nat) : Int)) 3 2 (some (.o (tupsD (rowsN 3 2))))) m = .nx (FB S W X Dr (.int ((0 : Nat) : Int)) 3 2 (some (.o (tupsD (rowsN 3 2))))) m := by kernel_rfl
theorem a8_3_0_3 (S W X Dr : D) (m : Mem) : A8f callF (FB S W X Dr (.int ((0 : Nat) : Int)) 3 3 (some (.o (tupsD (rowsN 3 3))))) m = .nx (FB S W X Dr (.int ((0 : Nat) : Int)) 3 3 (some (.o (tupsD (rowsN 3 3))))) m := by kernel_rfl
theorem a8_3_1_0 (S W X Dr : D) (m : Mem) : A8f callF (FB S W X Dr (.int ((1 : Nat) : Int)) 3 0 (some (.o (tupsD (rowsN 3 0))))) m = .nx (FB S W X Dr (.int ((1 : Nat) : Int)) 3 0 (some (.o (tupsD (rowsN 3 0))))) m := by kernel_rfl
theorem a8_3_1_1 (S W X Dr : D) (m : Mem) : A8f callF (FB S W X Dr (.int ((1 : Nat) : Int)) 3 1 (some (.o (tupsD (rowsN 3 1))))) m = .nx (FB S W X Dr (.int ((1 : Nat) : Int)) 3 1 (some (.o (tupsD (rowsN 3 1))))) m := by kernel_rfl
theorem a8_3_1_2 (S W X Dr : D) (m : Mem) : A8f callF (FB S W X Dr (.int ((1 : Nat) : Int)) 3 2 (some (.o (tupsD (rowsN 3 2))))) m = .nx (FB S W X Dr (.int ((1 : Nat) : Int)) 3 2 (some (.o (tupsD (rowsN 3 2))))) m := by kernel_rfl
theorem a8_3_1_3 (S W X Dr : D) (m : Mem) : A8f callF (FB S W X Dr (.int ((1 : Nat) : Int)) 3 3 (some (.o (tupsD (rowsN 3 3))))) m = .nx (FB S W X Dr (.int ((1 : Nat) : Int)) 3 3 (some (.o (tupsD (rowsN 3 3))))) m := by kernel_rfl
theorem a8_3_2_0 (S W X Dr : D) (m : Mem) : A8f callF (FB S W X Dr (.int ((2 : Nat) : Int)) 3 0 (some (.o (tupsD (rowsN 3 0))))) m = .nx (FB S W X Dr (.int ((2 : Nat) : Int)) 3 0 (some (.o (tupsD (rowsN 3 0))))) m := by kernel_rfl
theorem a8_3_2_1 (S W X Dr : D) (m : Mem) : A8f callF (FB S W X Dr (.int ((2 : Nat) : Int)) 3 1 (some (.o (tupsD (rowsN 3 1))))) m = .nx (FB S W X Dr (.int ((2 : Nat) : Int)) 3 1 (some (.o (tupsD (rowsN 3 1))))) m := by kernel_rfl
theorem a8_3_2_2 (S W X Dr : D) (m : Mem) : A8f callF (FB S W X Dr (.int ((2 : Nat) : Int)) 3 2 (some (.o (tupsD (rowsN 3 2))))) m = .nx (FB S W X Dr (.int ((2 : Nat) : Int)) 3 2 (some (.o (tupsD (rowsN 3 2))))) m := by kernel_rfl
theorem a8_3_2_3 (S W X Dr : D) (m : Mem) : A8f callF (FB S W X Dr (.int ((2 : Nat) : Int)) 3 3 (some (.o (tupsD (rowsN 3 3))))) m = .nx (FB S W X Dr (.int ((2 : Nat) : Int)) 3 3 (some (.o (tupsD (rowsN 3 3))))) m := by kernel_rfl
theorem a8_3_3_0 (S W X Dr : D) (m : Mem) : A8f callF (FB S W X Dr (.int ((3 : Nat) : Int)) 3 0 (some (.o (tupsD (rowsN 3 0))))) m = .nx (FB S W X Dr (.int ((3 : Nat) : Int)) 3 0 (some (.o (tupsD (rowsN 3 0))))) m := by kernel_rfl
theorem a8_3_3_1 (S W X Dr : D) (m : Mem) : A8f callF (FB S W X Dr (.int ((3 : Nat) : Int)) 3 1 (some (.o (tupsD (rowsN 3 1))))) m = .nx (FB S W X Dr (.int ((3 : Nat) : Int)) 3 1 (some (.o (tupsD (rowsN 3 1))))) m := by kernel_rfl
theorem a8_3_3_2 (S W X Dr : D) (m : Mem) : A8f callF (FB S W X Dr (.int ((3 : Nat) : Int)) 3 2 (some (.o (tupsD (rowsN 3 2))))) m = .nx (FB S W X Dr (.int ((3 : Nat) : Int)) 3 2 (some (.o (tupsD (rowsN 3 2))))) m := by kernel_rfl
theorem a8_3_3_3 (S W X Dr : D) (m : Mem) : A8f callF (FB S W X Dr (.int ((3 : Nat) : Int)) 3 3 (some (.o (tupsD (rowsN 3 3))))) m = .nx (FB S W X Dr (.int ((3 : Nat) : Int)) 3 3 (some (.o (tupsD (rowsN 3 3))))) m := by kernel_rfl
theorem a8_4_0_0 (S W X Dr : D) (m : Mem) : A8f callF (FB S W X Dr (.int ((0 : Nat) : Int)) 4 0 (some (.o (tupsD (rowsN 4 0))))) m = .nx (FB S W X Dr (.int ((0 : Nat) : Int)) 4 0 (some (.o (tupsD (rowsN 4 0))))) m := by kernel_rfl
theorem a8_4_0_1 (S W X Dr : D) (m : Mem) : A8f callF (FB S W X Dr (.int ((0 : Nat) : Int)) 4 1 (some (.o (tupsD (rowsN 4 1))))) m = .nx (FB S W X Dr (.int ((0 : Nat) : Int)) 4 1 (some (.o (tupsD (rowsN 4 1))))) m := by kernel_rfl
theorem a8_4_0_2 (S W X Dr : D) (m : Mem) : A8f callF (FB S W X Dr (.int ((0 : Nat) : Int)) 4 2 (some (.o (tupsD (rowsN 4 2))))) m = .nx (FB S W X Dr (.int ((0 : Nat) : Int)) 4 2 (some (.o (tupsD (rowsN 4 2))))) m := by kernel_rfl
theorem a8_4_0_3 (S W X Dr : D) (m : Mem) : A8f callF (FB S W X Dr (.int ((0 : Nat) : Int)) 4 3 (some (.o (tupsD (rowsN 4 3))))) m = .nx (FB S W X Dr (.int ((0 : Nat) : Int)) 4 3 (some (.o (tupsD (rowsN 4 3))))) m := by kernel_rfl
theorem a8_4_0_4 (S W X Dr : D) (m : Mem) : A8f callF (FB S W X Dr (.int ((0 : Nat) : Int)) 4 4 (some (.o (tupsD (rowsN 4 4))))) m = .nx (FB S W X Dr (.int ((0 : Nat) : Int)) 4 4 (some (.o (tupsD (rowsN 4 4))))) m := by kernel_rfl
theorem a8_4_1_0 (S W X Dr : D) (m : Mem) : A8f callF (FB S W X Dr (.int ((1 : Nat) : Int)) 4 0 (some (.o (tupsD (rowsN 4 0))))) m = .nx (FB S W X Dr (.int ((1 : Nat) : Int)) 4 0 (some (.o (tupsD (rowsN 4 0))))) m := by kernel_rfl
theorem a8_4_1_1 (S W X Dr : D) (m : Mem) : A8f callF (FB S W X Dr (.int ((1 : Nat) : Int)) 4 1 (some (.o (tupsD (rowsN 4 1))))) m = .nx (FB S W X Dr (.int ((1 : Nat) : Int)) 4 1 (some (.o (tupsD (rowsN 4 1))))) m := by kernel_rfl
theorem a8_4_1_2 (S W X Dr : D) (m : Mem) : A8f callF (FB S W X Dr (.int ((1 : Nat) : Int)) 4 2 (some (.o (tupsD (rowsN 4 2))))) m = .nx (FB S W X Dr (.int ((1 : Nat) : Int)) 4 2 (some (.o (tupsD (rowsN 4 2))))) m := by kernel_rfl
theorem a8_4_1_3 (S W X Dr : D) (m : Mem) : A8f callF (FB S W X Dr (.int ((1 : Nat) : Int)) 4 3 (some (.o (tupsD (rowsN 4 3))))) m = .nx (FB S W X Dr (.int ((1 : Nat) : Int)) 4 3 (some (.o (tupsD (rowsN 4 3))))) m := by kernel_rfl
theorem a8_4_1_4 (S W X Dr : D) (m : Mem) : A8f callF (FB S W X Dr (.int ((1 : Nat) : Int)) 4 4 (some (.o (tupsD (rowsN 4 4))))) m = .nx (FB S W X Dr (.int ((1 : Nat) : Int)) 4 4 (some (.o (tupsD (rowsN 4 4))))) m := by kernel_rfl
theorem a8_4_2_0 (S W X Dr : D) (m : Mem) : A8f callF (FB S W X Dr (.int ((2 : Nat) : Int)) 4 0 (some (.o (tupsD (rowsN 4 0))))) m = .nx (FB S W X Dr (.int ((2 : Nat) : Int)) 4 0 (some (.o (tupsD (rowsN 4 0))))) m := by kernel_rfl
theorem a8_4_2_1 (S W X Dr : D) (m : Mem) : A8f callF (FB S W X Dr (.int ((2 : Nat) : Int)) 4 1 (some (.o (tupsD (rowsN 4 1))))) m = .nx (FB S W X Dr (.int ((2 : Nat) : Int)) 4 1 (some (.o (tupsD (rowsN 4 1))))) m := by kernel_rfl
theorem a8_4_2_2 (S W X Dr : D) (m : Mem) : A8f callF (FB S W X Dr (.int ((2 : Nat) : Int)) 4 2 (some (.o (tupsD (rowsN 4 2))))) m = .nx (FB S W X Dr (.int ((2 : Nat) : Int)) 4 2 (some (.o (tupsD (rowsN 4 2))))) m := by kernel_rfl
theorem a8_4_2_3 (S W X Dr : D) (m : Mem) : A8f callF (FB S W X Dr (.int ((2 : Nat) : Int)) 4 3 (some (.o (tupsD (rowsN 4 3))))) m = .nx (FB S W X Dr (.int ((2 : Nat) : Int)) 4 3 (some (.o (tupsD (rowsN 4 3))))) m := by kernel_rfl
theorem a8_4_2_4 (S W X Dr : D) (m : Mem) : A8f callF (FB S W X Dr (.int ((2 : Nat) : Int)) 4 4 (some (.o (tupsD (rowsN 4 4))))) m = .nx (FB S W X Dr (.int ((2 : Nat) : Int)) 4 4 (some (.o (tupsD (rowsN 4 4))))) m := by kernel_rfl
theorem a8_4_3_0 (S W X Dr : D) (m : Mem) : A8f callF (FB S W X Dr (.int ((3 : Nat) : Int)) 4 0 (some (.o (tupsD (rowsN 4 0))))) m = .nx (FB S W X Dr (.int ((3 : Nat) : Int)) 4 0 (some (.o (tupsD (rowsN 4 0))))) m := by kernel_rfl
theorem a8_4_3_1 (S W X Dr : D) (m : Mem) : A8f callF (FB S W X Dr (.int ((3 : Nat) : Int)) 4 1 (some (.o (tupsD (rowsN 4 1))))) m = .nx (FB S W X Dr (.int ((3 : Nat) : Int)) 4 1 (some (.o (tupsD (rowsN 4 1))))) m := by kernel_rfl
theorem a8_4_3_2 (S W X Dr : D) (m : Mem) : A8f callF (FB S W X Dr (.int ((3 : Nat) : Int)) 4 2 (some (.o (tupsD (rowsN 4 2))))) m = .nx (FB S W X Dr (.int ((3 : Nat) : Int)) 4 2 (some (.o (tupsD (rowsN 4 2))))) m := by kernel_rfl
theorem a8_4_3_3 (S W X Dr : D) (m : Mem) : A8f callF (FB S W X Dr (.int ((3 : Nat) : Int)) 4 3 (some (.o (tupsD (rowsN 4 3))))) m = .nx (FB S W X Dr (.int ((3 : Nat) : Int)) 4 3 (some (.o (tupsD (rowsN 4 3))))) m := by kernel_rfl
theorem a8_4_3_4 (S W X Dr : D) (m : Mem) : A8f callF (FB S W X Dr (.int ((3 : Nat) : Int)) 4 4 (some (.o (tupsD (rowsN 4 4))))) m = .nx (FB S W X Dr (.int ((3 : Nat) : Int)) 4 4 (some (.o (tupsD (rowsN 4 4))))) m := by kernel_rfl
theorem a8_4_4_0 (S W X Dr : D) (m : Mem) : A8f callF (FB S W X Dr (.int ((4 : Nat) : Int)) 4 0 (some (.o (tupsD (rowsN 4 0))))) m = .nx (FB S W X Dr (.int ((4 : Nat) : Int)) 4 0 (some (.o (tupsD (rowsN 4 0))))) m := by kernel_rfl
theorem a8_4_4_1 (S W X Dr : D) (m : Mem) : A8f callF (FB S W X Dr (.int ((4 : Nat) : Int)) 4 1 (some (.o (tupsD (rowsN 4 1))))) m = .nx (FB S W X Dr (.int ((4 : Nat) : Int)) 4 1 (some (.o (tupsD (rowsN 4 1))))) m := by kernel_rfl
theorem a8_4_4_2 (S W X Dr : D) (m : Mem) : A8f callF (FB S W X Dr (.int ((4 : Nat) : Int)) 4 2 (some (.o (tupsD (rowsN 4 2))))) m = .nx (FB S W X Dr (.int ((4 : Nat) : Int)) 4 2 (some (.o (tupsD (rowsN 4 2))))) m := by kernel_rfl
theorem a8_4_4_3 (S W X Dr : D) (m : Mem) : A8f callF (FB S W X Dr (.int ((4 : Nat) : Int)) 4 3 (some (.o (tupsD (rowsN 4 3))))) m = .nx (FB S W X Dr (.int ((4 : Nat) : Int)) 4 3 (some (.o (tupsD (rowsN 4 3))))) m := by kernel_rfl
theorem a8_4_4_4 (S W X Dr : D) (m : Mem) : A8f callF (FB S W X Dr (.int ((4 : Nat) : Int)) 4 4 (some (.o (tupsD (rowsN 4 4))))) m = .nx (FB S W X Dr (.int ((4 : Nat) : Int)) 4 4 (some (.o (tupsD (rowsN 4 4))))) m := by kernel_rfl
theorem a8_5_0_0 (S W X Dr : D) (m : Mem) : A8f callF (FB S W X Dr (.int ((0 : Nat) : Int)) 5 0 (some (.o (tupsD (rowsN 5 0))))) m = .nx (FB S W X Dr (.int ((0 : Nat) : Int)) 5 0 (some (.o (tupsD (rowsN 5 0))))) m := by kernel_rfl
theorem a8_5_0_1 (S W X Dr : D) (m : Mem) : A8f callF (FB S W X Dr (.int ((0 : Nat) : Int)) 5 1 (some (.o (tupsD (rowsN 5 1))))) m = .nx (FB S W X Dr (.int ((0 : Nat) : Int)) 5 1 (some (.o (tupsD (rowsN 5 1))))) m := by kernel_rfl
theorem a8_5_0_2 (S W X Dr : D) (m : Mem) : A8f callF (FB S W X Dr (.int ((0 : Nat) : Int)) 5 2 (some (.o (tupsD (rowsN 5 2))))) m = .nx (FB S W X Dr (.int ((0 : Nat) : Int)) 5 2 (some (.o (tupsD (rowsN 5 2))))) m := by kernel_rfl
theorem a8_5_0_3 (S W X Dr : D) (m : Mem) : A8f callF (FB S W X Dr (.int ((0 : Nat) : Int)) 5 3 (some (.o (tupsD (rowsN 5 3))))) m = .nx (FB S W X Dr (.int ((0 : Nat) : Int)) 5 3 (some (.o (tupsD (rowsN 5 3))))) m := by kernel_rfl
theorem a8_5_0_4 (S W X Dr : D) (m : Mem) : A8f callF (FB S W X Dr (.int ((0 : Nat) : Int)) 5 4 (some (.o (tupsD (rowsN 5 4))))) m = .nx (FB S W X Dr (.int ((0 : Nat) : Int)) 5 4 (some (.o (tupsD (rowsN 5 4))))) m := by kernel_rfl
theorem a8_5_1_0 (S W X Dr : D) (m : Mem) : A8f callF (FB S W X Dr (.int ((1 : Nat) : Int)) 5 0 (some (.o (tupsD (rowsN 5 0))))) m = .nx (FB S W X Dr (.int ((1 : Nat) : Int)) 5 0 (some (.o (tupsD (rowsN 5 0))))) m := by kernel_rfl
theorem a8_5_1_1 (S W X Dr : D) (m : Mem) : A8f callF (FB S W X Dr (.int ((1 : Nat) : Int)) 5 1 (some (.o (tupsD (rowsN 5 1))))) m = .nx (FB S W X Dr (.int ((1 : Nat) : Int)) 5 1 (some (.o (tupsD (rowsN 5 1))))) m := by kernel_rfl
theorem a8_5_1_2 (S W X Dr : D) (m : Mem) : A8f callF (FB S W X Dr (.int ((1 : Nat) : Int)) 5 2 (some (.o (tupsD (rowsN 5 2))))) m = .nx (FB S W X Dr (.int ((1 : Nat) : Int)) 5 2 (some (.o (tupsD (rowsN 5 2))))) m := by kernel_rfl
theorem a8_5_1_3 (S W X Dr : D) (m : Mem) : A8f callF (FB S W X Dr (.int ((1 : Nat) : Int)) 5 3 (some (.o (tupsD (rowsN 5 3))))) m = .nx (FB S W X Dr (.int ((1 : Nat) : Int)) 5 3 (some (.o (tupsD (rowsN 5 3))))) m := by kernel_rfl
theorem a8_5_1_4 (S W X Dr : D) (m : Mem) : A8f callF (FB S W X Dr (.int ((1 : Nat) : Int)) 5 4 (some (.o (tupsD (rowsN 5 4))))) m = .nx (FB S W X Dr (.int ((1 : Nat) : Int)) 5 4 (some (.o (tupsD (rowsN 5 4))))) m := by kernel_rfl
theorem a8_5_2_0 (S W X Dr : D) (m : Mem) : A8f callF (FB S W X Dr (.int ((2 : Nat) : Int)) 5 0 (some (.o (tupsD (rowsN 5 0))))) m = .nx (FB S W X Dr (.int ((2 : Nat) : Int)) 5 0 (some (.o (tupsD (rowsN 5 0))))) m := by kernel_rfl
theorem a8_5_2_1 (S W X Dr : D) (m : Mem) : A8f callF (FB S W X Dr (.int ((2 : Nat) : Int)) 5 1 (some (.o (tupsD (rowsN 5 1))))) m = .nx (FB S W X Dr (.int ((2 : Nat) : Int)) 5 1 (some (.o (tupsD (rowsN 5 1))))) m := by kernel_rfl
theorem a8_5_2_2 (S W X Dr : D) (m : Mem) : A8f callF (FB S W X Dr (.int ((2 : Nat) : Int)) 5 2 (some (.o (tupsD (rowsN 5 2))))) m = .nx (FB S W X Dr (.int ((2 : Nat) : Int)) 5 2 (some (.o (tupsD (rowsN 5 2))))) m := by kernel_rfl
theorem a8_5_2_3 (S W X Dr : D) (m : Mem) : A8f callF (FB S W X Dr (.int ((2 : Nat) : Int)) 5 3 (some (.o (tupsD (rowsN 5 3))))) m = .nx (FB S W X Dr (.int ((2 : Nat) : Int)) 5 3 (some (.o (tupsD (rowsN 5 3))))) m := by kernel_rfl
theorem a8_5_2_4 (S W X Dr : D) (m : Mem) : A8f callF (FB S W X Dr (.int ((2 : Nat) : Int)) 5 4 (some (.o (tupsD (rowsN 5 4))))) m = .nx (FB S W X Dr (.int ((2 : Nat) : Int)) 5 4 (some (.o (tupsD (rowsN 5 4))))) m := by kernel_rfl
theorem a8_5_3_0 (S W X Dr : D) (m : Mem) : A8f callF (FB S W X Dr (.int ((3 : Nat) : Int)) 5 0 (some (.o (tupsD (rowsN 5 0))))) m = .nx (FB S W X Dr (.int ((3 : Nat) : Int)) 5 0 (some (.o (tupsD (rowsN 5 0))))) m := by kernel_rfl
theorem a8_5_3_1 (S W X Dr : D) (m : Mem) : A8f callF (FB S W X Dr (.int ((3 : Nat) : Int)) 5 1 (some (.o (tupsD (rowsN 5 1))))) m = .nx (FB S W X Dr (.int ((3 : Nat) : Int)) 5 1 (some (.o (tupsD (rowsN 5 1))))) m := by kernel_rfl
theorem a8_5_3_2 (S W X Dr : D) (m : Mem) : A8f callF (FB S W X Dr (.int ((3 : Nat) : Int)) 5 2 (some (.o (tupsD (rowsN 5 2))))) m = .nx (FB S W X Dr (.int ((3 : Nat) : Int)) 5 2 (some (.o (tupsD (rowsN 5 2))))) m := by kernel_rfl
theorem a8_5_3_3 (S W X Dr : D) (m : Mem) : A8f callF (FB S W X Dr (.int ((3 : Nat) : Int)) 5 3 (some (.o (tupsD (rowsN 5 3))))) m = .nx (FB S W X Dr (.int ((3 : Nat) : Int)) 5 3 (some (.o (tupsD (rowsN 5 3))))) m := by kernel_rfl
theorem a8_5_3_4 (S W X Dr : D) (m : Mem) : A8f callF (FB S W X Dr (.int ((3 : Nat) : Int)) 5 4 (some (.o (tupsD (rowsN 5 4))))) m = .nx (FB S W X Dr (.int ((3 : Nat) : Int)) 5 4 (some (.o (tupsD (rowsN 5 4))))) m := by kernel_rfl
theorem a8_5_4_0 (S W X Dr : D) (m : Mem) : A8f callF (FB S W X Dr (.int ((4 : Nat) : Int)) 5 0 (some (.o (tupsD (rowsN 5 0))))) m = .nx (FB S W X Dr (.int ((4 : Nat) : Int)) 5 0 (some (.o (tupsD (rowsN 5 0))))) m := by kernel_rfl
theorem a8_5_4_1 (S W X Dr : D) (m : Mem) : A8f callF (FB S W X Dr (.int ((4 : Nat) : Int)) 5 1 (some (.o (tupsD (rowsN 5 1))))) m = .nx (FB S W X Dr (.int ((4 : Nat) : Int)) 5 1 (some (.o (tupsD (rowsN 5 1))))) m := by kernel_rfl
theorem a8_5_4_2 (S W X Dr : D) (m : Mem) : A8f callF (FB S W X Dr (.int ((4 : Nat) : Int)) 5 2 (some (.o (tupsD (rowsN 5 2))))) m = .nx (FB S W X Dr (.int ((4 : Nat) : Int)) 5 2 (some (.o (tupsD (rowsN 5 2))))) m := by kernel_rfl
theorem a8_5_4_3 (S W X Dr : D) (m : Mem) : A8f callF (FB S W X Dr (.int ((4 : Nat) : Int)) 5 3 (some (.o (tupsD (rowsN 5 3))))) m = .nx (FB S W X Dr (.int ((4 : Nat) : Int)) 5 3 (some (.o (tupsD (rowsN 5 3))))) m := by kernel_rfl
theorem a8_5_4_4 (S W X Dr : D) (m : Mem) : A8f callF (FB S W X Dr (.int ((4 : Nat) : Int)) 5 4 (some (.o (tupsD (rowsN 5 4))))) m = .nx (FB S W X Dr (.int ((4 : Nat) : Int)) 5 4 (some (.o (tupsD (rowsN 5 4))))) m := by kernel_rfl
theorem a8_5_5_0 (S W X Dr : D) (m : Mem) : A8f callF (FB S W X Dr (.int ((5 : Nat) : Int)) 5 0 (some (.o (tupsD (rowsN 5 0))))) m = .nx (FB S W X Dr (.int ((5 : Nat) : Int)) 5 0 (some (.o (tupsD (rowsN 5 0))))) m := by kernel_rfl
theorem a8_5_5_1 (S W X Dr : D) (m : Mem) : A8f callF (FB S W X Dr (.int ((5 : Nat) : Int)) 5 1 (some (.o (tupsD (rowsN 5 1))))) m = .nx (FB S W X Dr (.int ((5 : Nat) : Int)) 5 1 (some (.o (tupsD (rowsN 5 1))))) m := by kernel_rfl
theorem a8_5_5_2 (S W X Dr : D) (m : Mem) : A8f callF (FB S W X Dr (.int ((5 : Nat) : Int)) 5 2 (some (.o (tupsD (rowsN 5 2))))) m = .nx (FB S W X Dr (.int ((5 : Nat) : Int)) 5 2 (some (.o (tupsD (rowsN 5 2))))) m := by kernel_rfl
theorem a8_5_5_3 (S W X Dr : D) (m : Mem) : A8f callF (FB S W X Dr (.int ((5 : Nat) : Int)) 5 3 (some (.o (tupsD (rowsN 5 3))))) m = .nx (FB S W X Dr (.int ((5 : Nat) : Int)) 5 3 (some (.o (tupsD (rowsN 5 3))))) m := by kernel_rfl
theorem a8_5_5_4 (S W X Dr : D) (m : Mem) : A8f callF (FB S W X Dr (.int ((5 : Nat) : Int)) 5 4 (some (.o (tupsD (rowsN 5 4))))) m = .nx (FB S W X Dr (.int ((5 : Nat) : Int)) 5 4 (some (.o (tupsD (rowsN 5 4))))) m := by kernel_rfl
theorem a8_1 (S W X Dr : D) (m : Mem) (gv tr : Nat) (h3 : gv ≤ 1) (h4 : tr ≤ 1) : A8f callF (FB S W X Dr (.int ((gv : Nat) : Int)) 1 tr (some (.o (tupsD (rowsN 1 tr))))) m = .nx (FB S W X Dr (.int ((gv : Nat) : Int)) 1 tr (some (.o (tupsD (rowsN 1 tr))))) m := by
  have e1 : gv = 0 ∨ gv = 1 := by omega
  have e2 : tr = 0 ∨ tr = 1 := by omega
  rcases e1 with e1 | e1 <;> rcases e2 with e2 | e2 <;> subst e1 <;> subst e2
  · exact a8_1_0_0 S W X Dr m
  · exact a8_1_0_1 S W X Dr m
  · exact a8_1_1_0 S W X Dr m
  · exact a8_1_1_1 S W X Dr m
theorem a8_2 (S W X Dr : D) (m : Mem) (gv tr : Nat) (h3 : gv ≤ 2) (h4 : tr ≤ 2) : A8f callF (FB S W X Dr (.int ((gv : Nat) : Int)) 2 tr (some (.o (tupsD (rowsN 2 tr))))) m = .nx (FB S W X Dr (.int ((gv : Nat) : Int)) 2 tr (some (.o (tupsD (rowsN 2 tr))))) m := by
  have e1 : gv = 0 ∨ gv = 1 ∨ gv = 2 := by omega
  have e2 : tr = 0 ∨ tr = 1 ∨ tr = 2 := by omega
  rcases e1 with e1 | e1 | e1 <;> rcases e2 with e2 | e2 | e2 <;> subst e1 <;> subst e2
  · exact a8_2_0_0 S W X Dr m
  · exact a8_2_0_1 S W X Dr m
  · exact a8_2_0_2 S W X Dr m
  · exact a8_2_1_0 S W X Dr m
  · exact a8_2_1_1 S W X Dr m
  · exact a8_2_1_2 S W X Dr m
  · exact a8_2_2_0 S W X Dr m
  · exact a8_2_2_1 S W X Dr m
  · exact a8_2_2_2 S W X Dr m
theorem a8_3 (S W X Dr : D) (m : Mem) (gv tr : Nat) (h3 : gv ≤ 3) (h4 : tr ≤ 3) : A8f callF (FB S W X Dr (.int ((gv : Nat) : Int)) 3 tr (some (.o (tupsD (rowsN 3 tr))))) m = .nx (FB S W X Dr (.int ((gv : Nat) : Int)) 3 tr (some (.o (tupsD (rowsN 3 tr))))) m := by
  have e1 : gv = 0 ∨ gv = 1 ∨ gv = 2 ∨ gv = 3 := by omega
  have e2 : tr = 0 ∨ tr = 1 ∨ tr = 2 ∨ tr = 3 := by omega
  rcases e1 with e1 | e1 | e1 | e1 <;> rcases e2 with e2 | e2 | e2 | e2 <;> subst e1 <;> subst e2
  · exact a8_3_0_0 S W X Dr m
  · exact a8_3_0_1 S W X Dr m
  · exact a8_3_0_2 S W X Dr m
  · exact a8_3_0_3 S W X Dr m
  · exact a8_3_1_0 S W X Dr m
  · exact a8_3_1_1 S W X Dr m
  · exact a8_3_1_2 S W X Dr m
  · exact a8_3_1_3 S W X Dr m
  · exact a8_3_2_0 S W X Dr m
  · exact a8_3_2_1 S W X Dr m
  · exact a8_3_2_2 S W X Dr m
  · exact a8_3_2_3 S W X Dr m
  · exact a8_3_3_0 S W X Dr m
  · exact a8_3_3_1 S W X Dr m
  · exact a8_3_3_2 S W X Dr m
  · exact a8_3_3_3 S W X Dr m
theorem a8_4 (S W X Dr : D) (m : Mem) (gv tr : Nat) (h3 : gv ≤ 4) (h4 : tr ≤ 4) : A8f callF (FB S W X Dr (.int ((gv : Nat) : Int)) 4 tr (some (.o (tupsD (rowsN 4 tr))))) m = .nx (FB S W X Dr (.int ((gv : Nat) : Int)) 4 tr (some (.o (tupsD (rowsN 4 tr))))) m := by
  have e1 : gv = 0 ∨ gv = 1 ∨ gv = 2 ∨ gv = 3 ∨ gv = 4 := by omega
  have e2 : tr = 0 ∨ tr = 1 ∨ tr = 2 ∨ tr = 3 ∨ tr = 4 := by omega
  rcases e1 with e1 | e1 | e1 | e1 | e1 <;> rcases e2 with e2 | e2 | e2 | e2 | e2 <;> subst e1 <;> subst e2
  · exact a8_4_0_0 S W X Dr m
  · exact a8_4_0_1 S W X Dr m
  · exact a8_4_0_2 S W X Dr m
  · exact a8_4_0_3 S W X Dr m
  · exact a8_4_0_4 S W X Dr m
  · exact a8_4_1_0 S W X Dr m
  · exact a8_4_1_1 S W X Dr m
  · exact a8_4_1_2 S W X Dr m
  · exact a8_4_1_3 S W X Dr m
  · exact a8_4_1_4 S W X Dr m
  · exact a8_4_2_0 S W X Dr m
  · exact a8_4_2_1 S W X Dr m
  · exact a8_4_2_2 S W X Dr m
  · exact a8_4_2_3 S W X Dr m
  · exact a8_4_2_4 S W X Dr m
  · exact a8_4_3_0 S W X Dr m
  · exact a8_4_3_1 S W X Dr m
  · exact a8_4_3_2 S W X Dr m
  · exact a8_4_3_3 S W X Dr m
  · exact a8_4_3_4 S W X Dr m
  · exact a8_4_4_0 S W X Dr m
  · exact a8_4_4_1 S W X Dr m
  · exact a8_4_4_2 S W X Dr m
  · exact a8_4_4_3 S W X Dr m
  · exact a8_4_4_4 S W X Dr m
theorem a8_5 (S W X Dr : D) (m : Mem) (gv tr : Nat) (h3 : gv ≤ 5) (h4 : tr ≤ 4) : A8f callF (FB S W X Dr (.int ((gv : Nat) : Int)) 5 tr (some (.o (tupsD (rowsN 5 tr))))) m = .nx (FB S W X Dr (.int ((gv : Nat) : Int)) 5 tr (some (.o (tupsD (rowsN 5 tr))))) m := by
  have e1 : gv = 0 ∨ gv = 1 ∨ gv = 2 ∨ gv = 3 ∨ gv = 4 ∨ gv = 5 := by omega
  have e2 : tr = 0 ∨ tr = 1 ∨ tr = 2 ∨ tr = 3 ∨ tr = 4 := by omega
  rcases e1 with e1 | e1 | e1 | e1 | e1 | e1 <;> rcases e2 with e2 | e2 | e2 | e2 | e2 <;> subst e1 <;> subst e2
  · exact a8_5_0_0 S W X Dr m
  · exact a8_5_0_1 S W X Dr m
  · exact a8_5_0_2 S W X Dr m
  · exact a8_5_0_3 S W X Dr m
  · exact a8_5_0_4 S W X Dr m
  · exact a8_5_1_0 S W X Dr m
  · exact a8_5_1_1 S W X Dr m
  · exact a8_5_1_2 S W X Dr m
  · exact a8_5_1_3 S W X Dr m
  · exact a8_5_1_4 S W X Dr m
  · exact a8_5_2_0 S W X Dr m
  · exact a8_5_2_1 S W X Dr m
  · exact a8_5_2_2 S W X Dr m
  · exact a8_5_2_3 S W X Dr m
  · exact a8_5_2_4 S W X Dr m
  · exact a8_5_3_0 S W X Dr m
  · exact a8_5_3_1 S W X Dr m
  · exact a8_5_3_2 S W X Dr m
  · exact a8_5_3_3 S W X Dr m
  · exact a8_5_3_4 S W X Dr m
  · exact a8_5_4_0 S W X Dr m
  · exact a8_5_4_1 S W X Dr m
  · exact a8_5_4_2 S W X Dr m
  · exact a8_5_4_3 S W X Dr m
  · exact a8_5_4_4 S W X Dr m
  · exact a8_5_5_0 S W X Dr m
  · exact a8_5_5_1 S W X Dr m
  · exact a8_5_5_2 S W X Dr m
  · exact a8_5_5_3 S W X Dr m
  · exact a8_5_5_4 S W X Dr m
theorem a8 (S W X Dr : D) (m : Mem) (nm gv tr : Nat) (h1 : 1 ≤ nm) (h2 : nm ≤ 5) (h3 : gv ≤ nm) (h4 : tr ≤ nm) (h5 : tr ≤ 4) : A8f callF (FB S W X Dr (.int ((gv : Nat) : Int)) nm tr (some (.o (tupsD (rowsN nm tr))))) m = .nx (FB S W X Dr (.int ((gv : Nat) : Int)) nm tr (some (.o (tupsD (rowsN nm tr))))) m := by
  have e1 : nm = 1 ∨ nm = 2 ∨ nm = 3 ∨ nm = 4 ∨ nm = 5 := by omega
  rcases e1 with e1 | e1 | e1 | e1 | e1 <;> subst e1
  · exact a8_1 S W X Dr m gv tr (by omega) (by omega)
  · exact a8_2 S W X Dr m gv tr (by omega) (by omega)
  · exact a8_3 S W X Dr m gv tr (by omega) (by omega)
  · exact a8_4 S W X Dr m gv tr (by omega) (by omega)
  · exact a8_5 S W X Dr m gv tr (by omega) (by omega)
end G12
end

section
set_option autoImplicit false
set_option linter.all false
set_option maxRecDepth 100000
namespace G12
open DS
theorem seq_assoc (a b c : Es) : sSeq (sSeq a b) c = sSeq a (sSeq b c) := by
  funext l m
  show (match (match a l m with | .nx l m => b l m | r => r) with | .nx l m => c l m | r => r) = (match a l m with | .nx l m => (match b l m with | .nx l m => c l m | r => r) | r => r)
  cases a l m <;> rfl
/-! ### the draws -/
theorem draw (ns : List Int) (t k : Nat) {l : Loc} {e : Ex} (hl : ns.length ≤ 63) (ht : t < 1000) (hk : 0 < k) (h : l[1]? = some (some (.v (.cell 0)))) (he : ∀ m, e l m = .ok (.int k) l m) :
    ∃ r : Nat, r < k ∧ eCall (callN 40) 16 (aCons (eV 1) (aCons e aNil)) l (Mt ns t) = .ok (.int r) l (Mt ns (t + 1)) := by
  obtain ⟨r, h1, h2⟩ := take_spec 38 ns t k hl (by omega) hk
  refine ⟨r, h1, call_ok (l' := l) (m' := Mt ns t) (ds := [.cell 0, .int k]) (aC (l' := l) (m' := Mt ns t) ?_ (aC1 (he _))) h2⟩
  simp [h]
theorem add1 {e : Ex} {l : Loc} {m m' : Mem} {r : Nat} (h : e l m = .ok (.int r) l m') : eOp2 addD (pE (eC (.int 1))) (pE e) l m = .ok (.int (r + 1 : Nat)) l m' := by
  have : ((1 : Int) + (r : Int)) = ((r + 1 : Nat) : Int) := by omega
  simp only [eOp2, pE, eC, h, Res.bind, Op.get, addD, lift]
  rw [this]
theorem add1r {e : Ex} {l : Loc} {m : Mem} {r : Nat} (h : e l m = .ok (.int r) l m) : eOp2 addD (pE e) (pE (eC (.int 1))) l m = .ok (.int (r + 1 : Nat)) l m := by
  simp only [eOp2, pE, eC, h, Res.bind, Op.get, addD, lift]
  rfl
theorem tup2 {e1 e2 : Ex} {l : Loc} {m m1 m2 : Mem} {a b : D} (h1 : e1 l m = .ok a l m1) (h2 : e2 l m1 = .ok b l m2) : eTup (aCons e1 (aCons e2 aNil)) l m = .ok (.tup [a, b]) l m2 := by
  unfold eTup
  rw [aC h1 (aC1 h2)]
  rfl
theorem kC (k : Nat) (l : Loc) : ∀ m, eC (.int (k : Nat)) l m = .ok (.int (k : Nat)) l m := fun _ => rfl
theorem draw_k (ns : List Int) (t k : Nat) {l : Loc} (hl : ns.length ≤ 63) (ht : t < 1000) (hk : 0 < k) (h : l[1]? = some (some (.v (.cell 0)))) :
    ∃ r : Nat, r < k ∧ eCall (callN 40) 16 (aCons (eV 1) (aCons (eC (.int (k : Nat))) aNil)) l (Mt ns t) = .ok (.int r) l (Mt ns (t + 1)) := draw ns t k hl ht hk h (kC k l)
theorem A1_ok (S : D) (ns : List Int) (hl : ns.length ≤ 63) : ∃ nm dr : Nat, 1 ≤ nm ∧ nm ≤ 5 ∧ dr ≤ 4 ∧
    A1 (callN 40) (F S none none none none none none none none none none none none none none none none none none none none) (Mt ns 0) = .nx (FA S nm dr none none) (Mt ns 2) := by
  obtain ⟨a, a1, a2⟩ := draw_k (l := F S none none none none none none none none none none none none none none none none none none none none) ns 0 5 hl (by decide) (by decide) rfl
  obtain ⟨b, b1, b2⟩ := draw_k (l := F S none none none none none none none none none none none none none none none none none none none none) ns 1 5 hl (by decide) (by decide) rfl
  exact ⟨a + 1, b, by omega, by omega, by omega, asg_ok (tup2 (add1 a2) b2) rfl⟩
theorem A6_ok (S W X : D) (nm dr : Nat) (ns : List Int) (hl : ns.length ≤ 63) : ∃ gv tr : Nat, gv ≤ nm ∧ tr ≤ nm ∧ tr ≤ 4 ∧
    A6 (callN 40) (FA S nm dr (some (.v W)) (some (.v X))) (Mt ns 2) = .nx (FB S W X (.int (dr : Nat)) (.int ((gv : Nat) : Int)) nm tr none) (Mt ns 4) := by
  obtain ⟨a, a1, a2⟩ := draw (l := FA S nm dr (some (.v W)) (some (.v X))) ns 2 (nm + 1) hl (by decide) (by omega) rfl (e := eOp2 addD (pV 12) (pE (eC (.int 1)))) (fun m => rfl)
  have h4 : ∀ m, eB min2D (pCons (pV 12) (pCons (pE (eC (.int 4))) pNil)) (FA S nm dr (some (.v W)) (some (.v X))) m = .ok (.int (min nm 4 : Nat)) (FA S nm dr (some (.v W)) (some (.v X))) m := fun m => by
    have := min_nat nm 4
    simp only [eB, pCons, pNil, pV, pE, eC, Res.bind, FA, F, List.getElem?_cons_succ, List.getElem?_cons_zero, opsGet, Op.get]
    show lift (min2D [.int nm, .int (4 : Nat)]) _ m = _
    rw [this]
    rfl
  obtain ⟨b, b1, b2⟩ := draw (l := FA S nm dr (some (.v W)) (some (.v X))) ns 3 (min nm 4 + 1) hl (by decide) (by omega) rfl (fun m => add1r (h4 m))
  exact ⟨a, b, by omega, by omega, by omega, asg_ok (tup2 a2 b2) rfl⟩
theorem minI_pair (a b : Nat) : minI [.tup [.int a, .int b]] = some (.int (min a b : Nat)) := by
  show some (D.int (min (a : Int) (b : Int))) = _
  congr 2
  omega
theorem maxI_pair (a b : Nat) : maxI [.tup [.int a, .int b]] = some (.int (max a b : Nat)) := by
  show some (D.int (max (a : Int) (b : Int))) = _
  congr 2
  omega
abbrev FC (S W X R : D) (nm dr gv tr : Nat) (s5 s6 s7 s8 s9 s10 s11 s16 s18 s19 : Option Sl) : Loc := F S (some (.v W)) (some (.v X)) (some (.o R)) s5 s6 s7 s8 s9 s10 s11 (iv nm) (iv dr) (iv gv) (iv tr) s16 none s18 s19 none none
theorem bI {f : List D → Option D} {l : Loc} {m : Mem} {i : Nat} {d r : D} (h : l[i]? = some (some (.v d))) (g : f [d] = some r) : eB f (pCons (pV i) pNil) l m = .ok r l m := by
  simp [h, g]
theorem A9_ok (S W X R : D) (nm dr gv tr : Nat) (ns : List Int) (hl : ns.length ≤ 63) : ∃ p q : Nat, p ≤ q ∧ 1 ≤ q ∧ q ≤ 9 ∧ ∃ l, A9 (callN 40) (FC S W X R nm dr gv tr none none none none none none none none none none) (Mt ns 4) = .nx l (Mt ns 6) ∧
    A10 (callN 40) l (Mt ns 6) = .nx (FC S W X R nm dr gv tr (fv p q) none none none none none none none none none) (Mt ns 6) := by
  obtain ⟨a, a1, a2⟩ := draw_k (l := FC S W X R nm dr gv tr none none none none none none none none none none) ns 4 5 hl (by decide) (by decide) rfl
  obtain ⟨b, b1, b2⟩ := draw_k (l := FC S W X R nm dr gv tr none none none none none none none none none none) ns 5 9 hl (by decide) (by decide) rfl
  refine ⟨min a (b + 1), max a (b + 1), by omega, by omega, by omega, FC S W X R nm dr gv tr (fv a (b + 1)) none none none none none none none none none, set_ok (tup2 a2 (add1 b2)), ?_⟩
  exact set_ok (tup2 (bI rfl (minI_pair a (b + 1))) (bI rfl (maxI_pair a (b + 1))))
theorem A11_ok (S W X R : D) (nm dr gv tr p q : Nat) (ns : List Int) (hl : ns.length ≤ 63) : ∃ N : Nat, 1 ≤ N ∧ N ≤ 400 ∧
    A11 (callN 40) (FC S W X R nm dr gv tr (fv p q) none none none none none none none none none) (Mt ns 6) = .nx (FC S W X R nm dr gv tr (fv p q) (iv N) none none none none none none none none) (Mt ns 7) := by
  obtain ⟨b, b1, b2⟩ := draw_k (l := FC S W X R nm dr gv tr (fv p q) none none none none none none none none none) ns 6 400 hl (by decide) (by decide) rfl
  exact ⟨b + 1, by omega, by omega, set_ok (add1 b2)⟩
theorem A15_ok (S W X R : D) (nm dr gv tr p q : Nat) (s6 s7 s8 s18 s19 : Option Sl) (ns : List Int) (hl : ns.length ≤ 63) : ∃ k : Nat, k ≤ 11 ∧
    A15 (callN 40) (FC S W X R nm dr gv tr (fv p q) s6 s7 s8 none none none none s18 s19) (Mt ns 7) = .nx (FC S W X R nm dr gv tr (fv p q) s6 s7 s8 (iv k) none none none s18 s19) (Mt ns 8) := by
  obtain ⟨b, b1, b2⟩ := draw_k (l := FC S W X R nm dr gv tr (fv p q) s6 s7 s8 none none none none s18 s19) ns 7 12 hl (by decide) (by decide) rfl
  exact ⟨b, by omega, set_ok b2⟩
theorem A17_ok (S W X R : D) (nm dr gv tr p q : Nat) (s6 s7 s8 s9 s16 s18 s19 : Option Sl) (ns : List Int) (hl : ns.length ≤ 63) : ∃ x y : Nat, x ≤ 5 ∧ 1 ≤ y ∧ y ≤ 6 ∧
    A17 (callN 40) (FC S W X R nm dr gv tr (fv p q) s6 s7 s8 s9 none none s16 s18 s19) (Mt ns 8) = .nx (FC S W X R nm dr gv tr (fv p q) s6 s7 s8 s9 (fv x y) none s16 s18 s19) (Mt ns 10) := by
  obtain ⟨a, a1, a2⟩ := draw_k (l := FC S W X R nm dr gv tr (fv p q) s6 s7 s8 s9 none none s16 s18 s19) ns 8 6 hl (by decide) (by decide) rfl
  obtain ⟨b, b1, b2⟩ := draw_k (l := FC S W X R nm dr gv tr (fv p q) s6 s7 s8 s9 none none s16 s18 s19) ns 9 6 hl (by decide) (by decide) rfl
  exact ⟨a, b + 1, by omega, by omega, by omega, set_ok (tup2 a2 (add1 b2))⟩
end G12
end

section
set_option autoImplicit false
set_option linter.all false
set_option maxRecDepth 100000
namespace G12
open DS
theorem lt_201 (J : Nat) : ltD (.int J) (.int 201) = some (decide (J < 201)) := by
  rw [ltD_int]
  exact congrArg some (decide_eq_decide.mpr (by omega))
theorem ne_int (i : Int) : neD (.int i) (.int i) = some false := by rw [neD_int]; simp
theorem A13_ok (S W X R : D) (nm dr gv tr p q N : Nat) (m : Mem) (hpq : p ≤ q) (hq1 : 1 ≤ q) (hq : q ≤ 9) (h1 : 1 ≤ N) (h2 : N ≤ 400) : ∃ (d7 : D) (s8 s18 s19 : Option Sl),
    (∃ l, A12 (callN 40) (FC S W X R nm dr gv tr (fv p q) (iv N) none none none none none none none none) m = .nx l m ∧
      A13 (callN 40) l m = .nx (FC S W X R nm dr gv tr (fv p q) (iv N) (some (.o d7)) s8 none none none none s18 s19) m) ∧
    A14 (callN 40) (FC S W X R nm dr gv tr (fv p q) (iv N) (some (.o d7)) s8 none none none none s18 s19) m = .nx (FC S W X R nm dr gv tr (fv p q) (iv N) (some (.o d7)) s8 none none none none s18 s19) m := by
  obtain ⟨J, j1, j2, j3⟩ := Cl_first N p q 201
  have hJ1 : 1 ≤ J := by
    rcases Nat.eq_zero_or_pos J with h | h
    · subst h
      have := j3 (by decide)
      rw [Cl_zero] at this
      cases this
    · exact h
  have loop := good_loop (some (.v S)) (some (.v (.cell 0))) (some (.v W)) (some (.v X)) (some (.o R)) none none none (iv nm) (iv dr) (iv gv) (iv tr) none none none none 39 N p q J m h1 (by omega) (by omega) (by omega) j1 j2 j3
  refine ⟨.lst (gd J 201), tn 201, cu N 201, cw N 201, ⟨FC S W X R nm dr gv tr (fv p q) (iv N) (some (.o (.lst []))) none none none none none none none, setO_ok (d := .lst []) (by rfl), ?_⟩, ?_⟩
  · have e0 : gd J 0 = [] := by simp [gd]
    have e : goodL (some (.v S)) (some (.v (.cell 0))) (some (.v W)) (some (.v X)) (some (.o R)) none none none (iv nm) (iv dr) (iv gv) (iv tr) none none none none N p q J 0 = FC S W X R nm dr gv tr (fv p q) (iv N) (some (.o (.lst []))) none none none none none none none := by
      unfold goodL
      rw [e0]
      rfl
    rw [e] at loop
    exact (for_ok (iA1 (e := eC (.int 201)) (d := .int 201) (by rfl) (rangeD1_ok (by decide)))).trans loop
  · have t : ∃ X0, callN 40 11 [.int N, fr p q] m = .ok X0 m ∧ (decide (J < 201) = true → maxI [.lst (gd J 201)] = some X0) ∧ (decide (J < 201) = false → X0 = .non) ∧ neD X0 X0 = some false := by
      by_cases hJ : J < 201
      · refine ⟨.int ((J : Int) - 1), most_drawn_spec 34 N p q J m h1 (by omega) hpq hq1 (by omega) (by omega) j2 (j3 hJ), fun _ => max_gd J hJ1 j1, fun h => absurd hJ (of_decide_eq_false h), ne_int _⟩
      · have : J = 201 := by omega
        subst this
        exact ⟨.non, most_drawn_none 34 N p q m h1 (by omega) hpq hq1 (by omega) j2, fun h => absurd (of_decide_eq_true h) hJ, fun _ => rfl, by rfl⟩
    obtain ⟨X0, t1, t2, t3, t4⟩ := t
    exact if_p (check_test0 (some (.v S)) (some (.v (.cell 0))) (some (.v W)) (some (.v X)) (some (.o R)) none none none (iv nm) (iv dr) (iv gv) (iv tr) none none none none (f5 := none) (f6 := none) m t1 (len_gd J j1) (lt_201 J) t2 t3 t4 (rg_gd J j1) (ne_gd J))
end G12
end

section
set_option autoImplicit false
set_option linter.all false
set_option maxRecDepth 100000
namespace G12
open DS
/-! ### A18: is_less and lowest -/
theorem c6x (a b : Nat) (m : Mem) (h0 : 0 < b) (hb : b < 1000) : callN 40 6 [.int a, .int b] m = .ok (.tup [.int (a / Nat.gcd a b : Nat), .int (b / Nat.gcd a b : Nat)]) m := by
  rw [c6]
  exact lowest_spec 38 a b m h0 (Nat.lt_trans hb (Nat.lt_of_lt_of_le (by decide : 1000 < 2 ^ 10) (Nat.pow_le_pow_right (by decide) (by decide))))
theorem low6 (x y : Nat) : 6 * x / Nat.gcd (6 * x) (6 * y) = x / Nat.gcd x y := by
  rw [Nat.gcd_mul_left, Nat.mul_div_mul_left _ _ (by decide)]
theorem low6' (x y : Nat) : 6 * y / Nat.gcd (6 * x) (6 * y) = y / Nat.gcd x y := by
  rw [Nat.gcd_mul_left, Nat.mul_div_mul_left _ _ (by decide)]
theorem A18_ (call : CallT) {l : Loc} {m : Mem} {P Q X Y Z1 Z2 U V T : D} {b : Bool}
    (h5 : l[5]? = some (some (.v (.tup [P, Q])))) (h10 : l[10]? = some (some (.v (.tup [X, Y])))) (h1 : call 10 [.tup [P, Q], .tup [X, Y]] m = .ok (.bl b) m)
    (h2 : mulD P Y = some Z1) (h3 : mulD X Q = some Z2) (h4 : ltD Z1 Z2 = some b) (h6 : mulD (.int 6) X = some U) (h7 : mulD (.int 6) Y = some V)
    (h8 : call 6 [U, V] m = .ok T m) (h9 : call 6 [X, Y] m = .ok T m) (hT : neD T T = some false) : A18 call l m = .nx l m := by
  refine if_p ?_
  have hb : neD (.bl b) (.bl b) = some false := by cases b <;> rfl
  simp [h5, h10, h1, h2, h3, h4, h6, h7, h8, h9, hT, hb, ixD, idx]
theorem ne_pair (a b : Int) : neD (.tup [.int a, .int b]) (.tup [.int a, .int b]) = some false := by
  simp [neD, D.dat, D.dats, D.eqv, D.eqvs]
theorem A18_ok (S W X R : D) (nm dr gv tr p q x y : Nat) (s6 s7 s8 s9 s16 s18 s19 : Option Sl) (m : Mem) (hp : p ≤ 9) (hq : q ≤ 9) (hx : x ≤ 5) (hy1 : 1 ≤ y) (hy : y ≤ 6) :
    A18 (callN 40) (FC S W X R nm dr gv tr (fv p q) s6 s7 s8 s9 (fv x y) none s16 s18 s19) m = .nx (FC S W X R nm dr gv tr (fv p q) s6 s7 s8 s9 (fv x y) none s16 s18 s19) m := by
  have a1 : callN 40 10 [fr p q, fr x y] m = .ok (.bl (decide ((p : Int) * (y : Int) < (x : Int) * (q : Int)))) m := by
    rw [c10]
    exact is_less_spec 39 p q x y m (bits64_nat (by omega)) (bits64_nat (by omega))
  have a2 := c6x (6 * x) (6 * y) m (by omega) (by omega)
  rw [low6, low6'] at a2
  exact A18_ (callN 40) (P := .int p) (Q := .int q) (X := .int x) (Y := .int y) (b := decide ((p : Int) * (y : Int) < (x : Int) * (q : Int))) rfl rfl a1 (mulD_r (bits64_nat (by omega)) rfl) (mulD_r (bits64_nat (by omega)) rfl) (ltD_int _ _) (mul_nat_r (a := 6) (by omega)) (mul_nat_r (a := 6) (by omega)) a2 (c6x x y m (by omega) (by omega)) (ne_pair _ _)
/-! ### A19, A20 -/
theorem A1920_ok (S W X R : D) (nm dr gv tr p q x y : Nat) (s6 s9 s16 s18 s19 : Option Sl) (d7 : D) (s8 : Option Sl) (m : Mem) :
    sSeq (A19 (callN 40)) (A20 (callN 40)) (FC S W X R nm dr gv tr (fv p q) s6 (some (.o d7)) s8 s9 (fv x y) none s16 s18 s19) m = .rt (.bl true) (match A19 (callN 40) (FC S W X R nm dr gv tr (fv p q) s6 (some (.o d7)) s8 s9 (fv x y) none s16 s18 s19) m with | .nx l _ => l | _ => []) m := by
  kernel_rfl
end G12
end

section
set_option autoImplicit false
set_option linter.all false
set_option maxRecDepth 100000
namespace G12
open DS
section
variable {l : Loc} {m : Mem} {p q : Nat}
theorem cl_gt {P Q A B X Y : Int} {r : Bool} (h5 : l[5]? = some (some (.v (.tup [.int P, .int Q])))) (h18 : l[18]? = some (zv A)) (h19 : l[19]? = some (zv B)) (h1 : mulD (.int A) (.int Q) = some (.int X)) (h2 : mulD (.int P) (.int B) = some (.int Y)) (h3 : gtD (.int X) (.int Y) = some r) :
    (tOp2 gtD (pE (eOp2 mulD (pV 18) (pE (eIx (pV 5) (pE (eC (.int 1))))))) (pE (eOp2 mulD (pE (eIx (pV 5) (pE (eC (.int 0))))) (pV 19)))) l m = .ok r l m := by
  simp [h5, h18, h19, ixD, idx, h1, h2, h3]
theorem cl_le {P Q A B X Y : Int} {r : Bool} (h5 : l[5]? = some (some (.v (.tup [.int P, .int Q])))) (h18 : l[18]? = some (zv A)) (h19 : l[19]? = some (zv B)) (h1 : mulD (.int A) (.int Q) = some (.int X)) (h2 : mulD (.int P) (.int B) = some (.int Y)) (h3 : leD (.int X) (.int Y) = some r) :
    (tOp2 leD (pE (eOp2 mulD (pV 18) (pE (eIx (pV 5) (pE (eC (.int 1))))))) (pE (eOp2 mulD (pE (eIx (pV 5) (pE (eC (.int 0))))) (pV 19)))) l m = .ok r l m := by
  simp [h5, h18, h19, ixD, idx, h1, h2, h3]
theorem gt_nat (a b : Nat) : gtD (.int a) (.int b) = some (decide (b < a)) := by
  rw [gtD_int]
  exact congrArg some (decide_eq_decide.mpr Int.ofNat_lt)
theorem and9 {k p q : Nat} {a b : Bool} (h9 : l[9]? = some (iv k)) (h5 : l[5]? = some (fv p q)) (h1 : gtD (.int k) (.int 1) = some a) (h2 : eqD (.int p) (.int 0) = some b) :
    tAnd (tOp2 gtD (pV 9) (pE (eC (.int 1)))) (tOp2 eqD (pE (eIx (pV 5) (pE (eC (.int 0))))) (pE (eC (.int 0)))) l m = .ok (a && b) l m := by
  cases a <;> simp [h9, h5, h1, h2, ixD, idx]
theorem gt16 {r : Nat} {b : Bool} (h : l[16]? = some (iv r)) (h1 : gtD (.int r) (.int 1) = some b) : tOp2 gtD (pV 16) (pE (eC (.int 1))) l m = .ok b l m := by
  simp [h, h1]
theorem ref_ok {call : CallT} {k : Int} {p : D} (h9 : (roL l)[9]? = some (zv k)) (h5 : (roL l)[5]? = some (some (.v p))) (h : call 12 [.int k, p] m = .ex 1 [.int k] m) :
    eRef 2 (eCall call 12 (aCons (eV 9) (aCons (eV 5) aNil))) [([(1, false), (2, true)], .one 1 (.fld 0)), ([(1, true), (2, false)], .one 1 (.fld 0))] (.str []) l m = .ok (.int k) l m := by
  have : eCall call 12 (aCons (eV 9) (aCons (eV 5) aNil)) (roL l) m = .ex 1 [.int k] (roL l) m := by
    simp [h9, h5, h]
  unfold eRef
  rw [this]
  rfl
theorem ne_ref {e : Ex} {k : Int} (h : e l m = .ok (.int k) l m) (h9 : l[9]? = some (zv k)) : tOp2 neD (pE e) (pV 9) l m = .ok false l m := by
  simp [h, h9, ne_int]
theorem sub1 {r : Nat} (h : l[16]? = some (iv r)) (hr : 1 ≤ r) : eOp2 subD (pV 16) (pE (eC (.int 1))) l m = .ok (.int (r - 1 : Nat)) l m := by
  have : ((r : Int) - 1) = ((r - 1 : Nat) : Int) := by omega
  simp [h, this]
end
theorem A16_ok (S W X R : D) (nm dr gv tr p q k : Nat) (s6 s8 s18 s19 : Option Sl) (d7 : D) (m : Mem) (hpq : p ≤ q) (hq1 : 1 ≤ q) (hq : q ≤ 9) (hk : k ≤ 11) : ∃ t16 t18 t19 : Option Sl,
    A16 (callN 40) (FC S W X R nm dr gv tr (fv p q) s6 (some (.o d7)) s8 (iv k) none none none s18 s19) m = .nx (FC S W X R nm dr gv tr (fv p q) s6 (some (.o d7)) s8 (iv k) none none t16 t18 t19) m := by
  have t := and9 (l := FC S W X R nm dr gv tr (fv p q) s6 (some (.o d7)) s8 (iv k) none none none s18 s19) (m := m) (k := k) (p := p) (q := q) rfl rfl (gt_one k) (eq_zero p)
  cases hr : (decide (1 < k) && decide (p = 0)) with
  | true =>
    rw [hr] at t
    refine ⟨none, s18, s19, (if_t t).trans ?_⟩
    exact if_p (ne_ref (ref_ok (k := k) (p := fr p q) rfl rfl (least_names_ex 34 k p q m (by omega) hpq hq1 (by omega) hr)) rfl)
  | false =>
    rw [hr] at t
    have hend := Cl_512 k (by omega) q (by omega) p (by omega) hq1 hr
    obtain ⟨r, r1, r2, r3, r4, r5⟩ := least_names_spec 34 k p q m (by omega) hpq hq1 (by omega) hend hr
    have e1 := law_clash_spec 39 r k m (by omega) (by omega)
    have b1 := set_ok (i := 16) (call_ok (call := callN 40) (k := 12) (a := aCons (eV 9) (aCons (eV 5) aNil)) (l := FC S W X R nm dr gv tr (fv p q) s6 (some (.o d7)) s8 (iv k) none none none s18 s19) (l' := FC S W X R nm dr gv tr (fv p q) s6 (some (.o d7)) s8 (iv k) none none none s18 s19) (m := m) (m' := m) (ds := [.int k, fr p q]) (by rfl) r5)
    have b2 := asg_ok (tg := .tp [(.nm 18), (.nm 19)]) (l2 := FC S W X R nm dr gv tr (fv p q) s6 (some (.o d7)) s8 (iv k) none none (iv r) (iv (r ^ k - fall r k)) (iv (r ^ k))) (call_ok (call := callN 40) (k := 19) (a := aCons (eV 16) (aCons (eV 9) aNil)) (l := FC S W X R nm dr gv tr (fv p q) s6 (some (.o d7)) s8 (iv k) none none (iv r) s18 s19) (l' := FC S W X R nm dr gv tr (fv p q) s6 (some (.o d7)) s8 (iv k) none none (iv r) s18 s19) (m := m) (m' := m) (ds := [.int r, .int k]) (by rfl) e1) (by rfl)
    have hc : decide (p * r ^ k < (r ^ k - fall r k) * q) = false := by
      have := of_decide_eq_true (show decide ((r ^ k - fall r k) * q ≤ p * r ^ k) = true from r3)
      exact decide_eq_false (by omega)
    have b3 := cl_gt (l := FC S W X R nm dr gv tr (fv p q) s6 (some (.o d7)) s8 (iv k) none none (iv r) (iv (r ^ k - fall r k)) (iv (r ^ k))) (m := m) (P := p) (Q := q) rfl rfl rfl (mul_nat_r (by omega)) (mul_nat_l (by omega)) (gt_nat _ _)
    rw [hc] at b3
    have b4 := gt16 (l := FC S W X R nm dr gv tr (fv p q) s6 (some (.o d7)) s8 (iv k) none none (iv r) (iv (r ^ k - fall r k)) (iv (r ^ k))) (m := m) (r := r) rfl (gt_one r)
    have main : ∀ {rest : Es} {res : RS}, rest (FC S W X R nm dr gv tr (fv p q) s6 (some (.o d7)) s8 (iv k) none none (iv r) (iv (r ^ k - fall r k)) (iv (r ^ k))) m = res →
        sSeq (sSet 16 (eCall (callN 40) 12 (aCons (eV 9) (aCons (eV 5) aNil)))) (sSeq (sAsg (.tp [(.nm 18), (.nm 19)]) (eCall (callN 40) 19 (aCons (eV 16) (aCons (eV 9) aNil)))) (sSeq (sIf (tOp2 gtD (pE (eOp2 mulD (pV 18) (pE (eIx (pV 5) (pE (eC (.int 1))))))) (pE (eOp2 mulD (pE (eIx (pV 5) (pE (eC (.int 0))))) (pV 19)))) (sRet (eC (.bl false))) sPass) rest)) (FC S W X R nm dr gv tr (fv p q) s6 (some (.o d7)) s8 (iv k) none none none s18 s19) m = res :=
      fun h => (seq_nx b1).trans ((seq_nx b2).trans ((seq_nx (if_p b3)).trans h))
    by_cases hr1 : 1 < r
    · have e2 := law_clash_spec 39 (r - 1) k m (by omega) (by omega)
      have hr4 : Cl (r - 1) k p q = false := by
        rcases r4 with h | h
        · omega
        · exact h
      refine ⟨iv r, iv ((r - 1) ^ k - fall (r - 1) k), iv ((r - 1) ^ k), (if_f t).trans (main ?_)⟩
      rw [decide_eq_true hr1] at b4
      refine (if_t b4).trans ?_
      have b5 := asg_ok (tg := .tp [(.nm 18), (.nm 19)]) (l2 := FC S W X R nm dr gv tr (fv p q) s6 (some (.o d7)) s8 (iv k) none none (iv r) (iv ((r - 1) ^ k - fall (r - 1) k)) (iv ((r - 1) ^ k))) (call_ok (call := callN 40) (k := 19) (a := aCons (eOp2 subD (pV 16) (pE (eC (.int 1)))) (aCons (eV 9) aNil)) (l := FC S W X R nm dr gv tr (fv p q) s6 (some (.o d7)) s8 (iv k) none none (iv r) (iv (r ^ k - fall r k)) (iv (r ^ k))) (l' := FC S W X R nm dr gv tr (fv p q) s6 (some (.o d7)) s8 (iv k) none none (iv r) (iv (r ^ k - fall r k)) (iv (r ^ k))) (m := m) (m' := m) (ds := [.int (r - 1 : Nat), .int k]) (aC (sub1 rfl r1) (aC1 (by rfl))) e2) (by rfl)
      have b6 := cl_le (l := FC S W X R nm dr gv tr (fv p q) s6 (some (.o d7)) s8 (iv k) none none (iv r) (iv ((r - 1) ^ k - fall (r - 1) k)) (iv ((r - 1) ^ k))) (m := m) (P := p) (Q := q) rfl rfl rfl (mul_nat_r (by omega)) (mul_nat_l (by omega)) (le_nat _ _)
      rw [show decide (((r - 1) ^ k - fall (r - 1) k) * q ≤ p * (r - 1) ^ k) = false from hr4] at b6
      exact (seq_nx b5).trans (if_p b6)
    · rw [decide_eq_false hr1] at b4
      exact ⟨iv r, iv (r ^ k - fall r k), iv (r ^ k), (if_f t).trans (main (if_p b4))⟩
end G12
end

section
set_option autoImplicit false
set_option linter.all false
set_option maxRecDepth 100000
namespace G12
open DS
def depth : Nat := 40
theorem F0_eq (S : D) : (startL [S] 21).set 1 (some (.v (.cell 0))) = F S none none none none none none none none none none none none none none none none none none none none := rfl
theorem body_ok (ns : List Int) (hl : ns.length ≤ 63) : ∃ l m, sSeq (A1 (callN 40)) (sSeq (A2 (callN 40)) (sSeq (A3 (callN 40)) (sSeq (A4 (callN 40)) (sSeq (A5 (callN 40)) (sSeq (A6 (callN 40)) (sSeq (A7 (callN 40)) (sSeq (A8 (callN 40)) (sSeq (A9 (callN 40)) (sSeq (A10 (callN 40)) (sSeq (A11 (callN 40)) (sSeq (A12 (callN 40)) (sSeq (A13 (callN 40)) (sSeq (A14 (callN 40)) (sSeq (A15 (callN 40)) (sSeq (A16 (callN 40)) (sSeq (A17 (callN 40)) (sSeq (A18 (callN 40)) (sSeq (A19 (callN 40)) (A20 (callN 40))))))))))))))))))))
    (F (.lst (ns.map .int)) none none none none none none none none none none none none none none none none none none none none) (Mt ns 0) = .rt (.bl true) l m := by
  obtain ⟨nm, dr, n1, n2, n3, x1⟩ := A1_ok (.lst (ns.map .int)) ns hl
  have x2 := a2 (.lst (ns.map .int)) (Mt ns 2) nm dr n1 n2 n3
  have x3 := a3 (.lst (ns.map .int)) (Mt ns 2) nm dr n1 n2 n3
  rw [← A3_eq] at x3
  have x4 := a4 (.lst (ns.map .int)) (Mt ns 2) nm dr n1 n2 n3
  rw [← callF_eq] at x4
  have x5 := a5 (.lst (ns.map .int)) (Mt ns 2) nm dr n1 n2 n3
  rw [← A5_eq, ← callF_eq] at x5
  obtain ⟨gv, tr, g1, g2, g3, x6⟩ := A6_ok (.lst (ns.map .int)) (tupsD (ways nm dr)) (.int (rowsN nm dr).length) nm dr ns hl
  have x7 := a7 (.lst (ns.map .int)) (tupsD (ways nm dr)) (.int (rowsN nm dr).length) (.int (dr : Nat)) (.int ((gv : Nat) : Int)) (Mt ns 4) nm tr n1 n2 g2 g3
  rw [← A7_eq] at x7
  have x8 := a8 (.lst (ns.map .int)) (tupsD (ways nm dr)) (.int (rowsN nm dr).length) (.int (dr : Nat)) (Mt ns 4) nm gv tr n1 n2 g1 g2 g3
  rw [← A8_eq, ← callF_eq] at x8
  obtain ⟨p, q, q1, q2, q3, l9, x9, x10⟩ := A9_ok (.lst (ns.map .int)) (tupsD (ways nm dr)) (.int (rowsN nm dr).length) (tupsD (rowsN nm tr)) nm dr gv tr ns hl
  obtain ⟨N, m1, m2, x11⟩ := A11_ok (.lst (ns.map .int)) (tupsD (ways nm dr)) (.int (rowsN nm dr).length) (tupsD (rowsN nm tr)) nm dr gv tr p q ns hl
  obtain ⟨d7, s8, s18, s19, ⟨l12, x12, x13⟩, x14⟩ := A13_ok (.lst (ns.map .int)) (tupsD (ways nm dr)) (.int (rowsN nm dr).length) (tupsD (rowsN nm tr)) nm dr gv tr p q N (Mt ns 7) q1 q2 q3 m1 m2
  obtain ⟨k, k1, x15⟩ := A15_ok (.lst (ns.map .int)) (tupsD (ways nm dr)) (.int (rowsN nm dr).length) (tupsD (rowsN nm tr)) nm dr gv tr p q (iv N) (some (.o d7)) s8 s18 s19 ns hl
  obtain ⟨t16, t18, t19, x16⟩ := A16_ok (.lst (ns.map .int)) (tupsD (ways nm dr)) (.int (rowsN nm dr).length) (tupsD (rowsN nm tr)) nm dr gv tr p q k (iv N) s8 s18 s19 d7 (Mt ns 8) q1 q2 q3 k1
  obtain ⟨x, y, y1, y2, y3, x17⟩ := A17_ok (.lst (ns.map .int)) (tupsD (ways nm dr)) (.int (rowsN nm dr).length) (tupsD (rowsN nm tr)) nm dr gv tr p q (iv N) (some (.o d7)) s8 (iv k) t16 t18 t19 ns hl
  have x18 := A18_ok (.lst (ns.map .int)) (tupsD (ways nm dr)) (.int (rowsN nm dr).length) (tupsD (rowsN nm tr)) nm dr gv tr p q x y (iv N) (some (.o d7)) s8 (iv k) t16 t18 t19 (Mt ns 10) (by omega) q3 y1 y2 y3
  have x19 := A1920_ok (.lst (ns.map .int)) (tupsD (ways nm dr)) (.int (rowsN nm dr).length) (tupsD (rowsN nm tr)) nm dr gv tr p q x y (iv N) (iv k) t16 t18 t19 d7 s8 (Mt ns 10)
  exact ⟨_, _, (seq_nx x1).trans ((seq_nx x2).trans ((seq_nx x3).trans ((seq_nx x4).trans ((seq_nx x5).trans ((seq_nx x6).trans ((seq_nx x7).trans ((seq_nx x8).trans ((seq_nx x9).trans ((seq_nx x10).trans ((seq_nx x11).trans ((seq_nx x12).trans ((seq_nx x13).trans ((seq_nx x14).trans ((seq_nx x15).trans ((seq_nx x16).trans ((seq_nx x17).trans ((seq_nx x18).trans x19)))))))))))))))))⟩
theorem plain : ∀ ns : List Int, ns.length ≤ 63 → (∀ z ∈ ns, PySem.Builtin.Int.intBits z ≤ 1048576) → ∃ m, f21 (callN depth) [.lst (ns.map .int)] [] = .ok (.bl true) m := by
  intro ns hl _
  obtain ⟨l, m, h⟩ := body_ok ns hl
  refine ⟨m.take 0, ?_⟩
  show f21 (callN 40) [.lst (ns.map .int)] [] = _
  unfold f21
  rw [defD_eq (a := 1) (k := 21) (ds := [.lst (ns.map .int)]) rfl (startL [.lst (ns.map .int)] 21) rfl]
  rw [b21_eq]
  have a0 : A0 (callN 40) (startL [.lst (ns.map .int)] 21) [] = .ok (.lst [.lst (ns.map .int), .int 0]) (startL [.lst (ns.map .int)] 21) [] := rfl
  unfold sCell
  rw [a0]
  show endR (endC 0 (sSeq (A1 (callN 40)) _ ((startL [.lst (ns.map .int)] 21).set 1 (some (.v (.cell 0)))) (Mt ns 0))) = _
  rw [F0_eq, h]
  rfl
end G12
end

section
set_option Elab.async false
set_option linter.all false
set_option maxRecDepth 100000
set_option maxHeartbeats 0
namespace G12
open PySem PySem.Spec PyProof.Rows L2 DS
def top (i : Nat) : Stmt := PySem.Challenge.pw_shortnames_k12_whole_odds.main.body.getD i (.Pass ⟨0, 0, 0, 0⟩)
def fn : List He.DefD := [⟨("TooLarge", some "__init__"), "__init__", "TooLarge.__init__", defArgs (inClass (top 2) 0), defBody (inClass (top 2) 0), defScope (inClass (top 2) 0), [], []⟩,
  ⟨("is_integer", none), "is_integer", "is_integer", defArgs (top 4), defBody (top 4), defScope (top 4), [], []⟩,
  ⟨("is_number", none), "is_number", "is_number", defArgs (top 5), defBody (top 5), defScope (top 5), [], []⟩,
  ⟨("common", none), "common", "common", defArgs (top 7), defBody (top 7), defScope (top 7), [], []⟩,
  ⟨("BadOdds", some "__init__"), "__init__", "BadOdds.__init__", defArgs (inClass (top 10) 0), defBody (inClass (top 10) 0), defScope (inClass (top 10) 0), [], []⟩,
  ⟨("check_odds", none), "check_odds", "check_odds", defArgs (top 11), defBody (top 11), defScope (top 11), [], []⟩,
  ⟨("lowest", none), "lowest", "lowest", defArgs (top 12), defBody (top 12), defScope (top 12), [], []⟩,
  ⟨("apart_odds", none), "apart_odds", "apart_odds", defArgs (top 13), defBody (top 13), defScope (top 13), [], []⟩,
  ⟨("clash_odds", none), "clash_odds", "clash_odds", defArgs (top 14), defBody (top 14), defScope (top 14), [], []⟩,
  ⟨("check_fraction", none), "check_fraction", "check_fraction", defArgs (top 15), defBody (top 15), defScope (top 15), [], []⟩,
  ⟨("is_less", none), "is_less", "is_less", defArgs (top 16), defBody (top 16), defScope (top 16), [], []⟩,
  ⟨("most_drawn", none), "most_drawn", "most_drawn", defArgs (top 17), defBody (top 17), defScope (top 17), [], []⟩,
  ⟨("least_names", none), "least_names", "least_names", defArgs (top 18), defBody (top 18), defScope (top 18), [], []⟩,
  ⟨("expected_unlike", none), "expected_unlike", "expected_unlike", defArgs (top 19), defBody (top 19), defScope (top 19), [], []⟩,
  ⟨("seen_odds", none), "seen_odds", "seen_odds", defArgs (top 20), defBody (top 20), defScope (top 20), [], []⟩,
  ⟨("_law_number", none), "_law_number", "_law_number", defArgs (top 22), defBody (top 22), defScope (top 22), [], []⟩,
  ⟨("_law_take", none), "_law_take", "_law_take", defArgs (top 23), defBody (top 23), defScope (top 23), [], []⟩,
  ⟨("_law_ways", none), "_law_ways", "_law_ways", defArgs (top 24), defBody (top 24), defScope (top 24), [], []⟩,
  ⟨("_law_low", none), "_law_low", "_law_low", defArgs (top 25), defBody (top 25), defScope (top 25), [], []⟩,
  ⟨("_law_clash", none), "_law_clash", "_law_clash", defArgs (top 26), defBody (top 26), defScope (top 26), [], []⟩,
  ⟨("_law_refused", none), "_law_refused", "_law_refused", defArgs (top 27), defBody (top 27), defScope (top 27), [], []⟩,
  ⟨("law", none), "law", "law", defArgs (top 28), defBody (top 28), defScope (top 28), [], []⟩]
def fa : List He.Fa := [.glo "TooLarge",
  .glo "BadOdds",
  .glo "is_integer",
  .glo "is_number",
  .glo "common",
  .glo "check_odds",
  .glo "lowest",
  .glo "apart_odds",
  .glo "clash_odds",
  .glo "check_fraction",
  .glo "is_less",
  .glo "most_drawn",
  .glo "least_names",
  .glo "expected_unlike",
  .glo "seen_odds",
  .glo "_law_number",
  .glo "_law_take",
  .glo "_law_ways",
  .glo "_law_low",
  .glo "_law_clash",
  .glo "_law_refused",
  .glo "law",
  .free "isinstance",
  .free "int",
  .free "bool",
  .int "MOST_DRAWN" 200,
  .free "range",
  .free "max",
  .free "tuple",
  .free "len",
  .free "min",
  .exm "BadOdds" "TooLarge" false,
  .exm "TooLarge" "TooLarge" true,
  .noat "TooLarge" "number",
  .exm "BadOdds" "BadOdds" true,
  .exm "TooLarge" "BadOdds" false,
  .noat "BadOdds" "part",
  .free "set",
  .free "sum",
  .free "any",
  .free "list",
  .free "all"]
def exs : List (Str × List Str) := [("TooLarge", ["number"]), ("BadOdds", ["part"])]
def ex (K : PySem.W.Frag) : Bool := exAll K exs
def tf : List He.Defn := [("law", none)]
abbrev Hd := DS.Hd fa fn ex
abbrev HdX := DS.HdX fa fn tf ex
abbrev def_at {w : World} {K : PySem.W.Frag} {mg : Str → Option Value} {base : Heap} (c : Hd w K mg base) (i : Nat) {d : He.DefD} (h : fn[i]? = some d) := c.def_at i h
def lam0 : Expr := gPath (gVal ((defBody (top 28)).getD 19 (.Pass ⟨0, 0, 0, 0⟩))) [9, 0]
def lam1 : Expr := gPath (gVal ((defBody (top 28)).getD 19 (.Pass ⟨0, 0, 0, 0⟩))) [8, 0]
def lam2 : Expr := gPath (gVal ((defBody (top 28)).getD 19 (.Pass ⟨0, 0, 0, 0⟩))) [7, 0]
def lam3 : Expr := gPath (gVal ((defBody (top 28)).getD 19 (.Pass ⟨0, 0, 0, 0⟩))) [6, 0]
def lam4 : Expr := gPath (gVal ((defBody (top 28)).getD 19 (.Pass ⟨0, 0, 0, 0⟩))) [5, 0]
def lam5 : Expr := gPath (gVal ((defBody (top 28)).getD 19 (.Pass ⟨0, 0, 0, 0⟩))) [4, 0]
def lam6 : Expr := gPath (gVal ((defBody (top 28)).getD 19 (.Pass ⟨0, 0, 0, 0⟩))) [3, 0]
def lam7 : Expr := gPath (gVal ((defBody (top 28)).getD 19 (.Pass ⟨0, 0, 0, 0⟩))) [2, 0]
def lam8 : Expr := gPath (gVal ((defBody (top 28)).getD 19 (.Pass ⟨0, 0, 0, 0⟩))) [1, 0]
def lam9 : Expr := gPath (gVal ((defBody (top 28)).getD 19 (.Pass ⟨0, 0, 0, 0⟩))) [0, 0]
def lamNm : Str := (envOfC "law" (defScope (top 28)) 0 0 .none).qual ++ "<lambda>"
def TT (K : PySem.W.Frag) : DS.Tab where
  cls := fun i => match i with
    | 0 => He.ga K "NamesError"
    | 1 => He.ga K "TooLarge"
    | 2 => He.ga K "BadOdds"
    | _ => 0
  fld := fun i => match i with
    | _ => ""
  nf := 0
  xf := fun i => match i with
    | 0 => []
    | 1 => ["number"]
    | 2 => ["part"]
    | _ => []
  lamP := fun k => match k with
    | 0 => lamO lamNm (lPar lam0) (lBody lam0) (lScope lam0)
    | 1 => lamO lamNm (lPar lam1) (lBody lam1) (lScope lam1)
    | 2 => lamO lamNm (lPar lam2) (lBody lam2) (lScope lam2)
    | 3 => lamO lamNm (lPar lam3) (lBody lam3) (lScope lam3)
    | 4 => lamO lamNm (lPar lam4) (lBody lam4) (lScope lam4)
    | 5 => lamO lamNm (lPar lam5) (lBody lam5) (lScope lam5)
    | 6 => lamO lamNm (lPar lam6) (lBody lam6) (lScope lam6)
    | 7 => lamO lamNm (lPar lam7) (lBody lam7) (lScope lam7)
    | 8 => lamO lamNm (lPar lam8) (lBody lam8) (lScope lam8)
    | 9 => lamO lamNm (lPar lam9) (lBody lam9) (lScope lam9)
    | _ => fun _ _ _ => False
  lamQ := lamNm
  tq := fun _ => lamNm
  ts := tf.map fun p => (He.cT K p).2
  γ := []
  ι := []
  B := fun _ => none
end G12
end

section
set_option Elab.async false
set_option linter.all false
set_option maxRecDepth 100000
set_option maxHeartbeats 0
namespace G12
open PySem PySem.Spec PyProof.Rows L2 DS
structure Fam (P : Program) (w : World) (K : PySem.W.Frag) (mg : Str → Option Value) (base : Heap) (n : Nat) : Prop where
  f1 : Cal (TT K) P w K mg base (2 * (n + 1)) (He.fAd K ("is_integer", none)) (callN n 1)
  f2 : Cal (TT K) P w K mg base (2 * (n + 1)) (He.fAd K ("is_number", none)) (callN n 2)
  f3 : Cal (TT K) P w K mg base (2 * (n + 1)) (He.fAd K ("common", none)) (callN n 3)
  f5 : Cal (TT K) P w K mg base (2 * (n + 1)) (He.fAd K ("check_odds", none)) (callN n 5)
  f6 : Cal (TT K) P w K mg base (2 * (n + 1)) (He.fAd K ("lowest", none)) (callN n 6)
  f7 : Cal (TT K) P w K mg base (2 * (n + 1)) (He.fAd K ("apart_odds", none)) (callN n 7)
  f8 : Cal (TT K) P w K mg base (2 * (n + 1)) (He.fAd K ("clash_odds", none)) (callN n 8)
  f9 : Cal (TT K) P w K mg base (2 * (n + 1)) (He.fAd K ("check_fraction", none)) (callN n 9)
  f10 : Cal (TT K) P w K mg base (2 * (n + 1)) (He.fAd K ("is_less", none)) (callN n 10)
  f11 : Cal (TT K) P w K mg base (2 * (n + 1)) (He.fAd K ("most_drawn", none)) (callN n 11)
  f12 : Cal (TT K) P w K mg base (2 * (n + 1)) (He.fAd K ("least_names", none)) (callN n 12)
  f13 : Cal (TT K) P w K mg base (2 * (n + 1)) (He.fAd K ("expected_unlike", none)) (callN n 13)
  f14 : Cal (TT K) P w K mg base (2 * (n + 1)) (He.fAd K ("seen_odds", none)) (callN n 14)
  f15 : Cal (TT K) P w K mg base (2 * (n + 1)) (He.fAd K ("_law_number", none)) (callN n 15)
  f16 : Cal (TT K) P w K mg base (2 * (n + 1)) (He.fAd K ("_law_take", none)) (callN n 16)
  f17 : Cal (TT K) P w K mg base (2 * (n + 1)) (He.fAd K ("_law_ways", none)) (callN n 17)
  f18 : Cal (TT K) P w K mg base (2 * (n + 1)) (He.fAd K ("_law_low", none)) (callN n 18)
  f19 : Cal (TT K) P w K mg base (2 * (n + 1)) (He.fAd K ("_law_clash", none)) (callN n 19)
  f20 : Cal (TT K) P w K mg base (2 * (n + 1)) (He.fAd K ("_law_refused", none)) (callN n 20)
section
variable {P : Program} {w : World} {K : PySem.W.Frag} {mg : Str → Option Value} {base : Heap}
theorem x_TooLarge (c : Hd w K mg base) : OexF K "TooLarge" ["number"] ∧ FnOk P w K mg base (fun _ _ _ _ _ _ => False) 1 (He.ma K (He.ga K "TooLarge") "__init__") (fdOf K ("TooLarge", some "__init__")) ["self", "number"] (spX1 (He.ga K "TooLarge") "number") ∧ Binds K (fdOf K ("TooLarge", some "__init__")) ["self", "number"] [] := by
  have E : OexF K "TooLarge" ["number"] := oex_ok (exAll_at c.more 0 rfl).1
  have U : FunD K "__init__" "TooLarge.__init__" (defArgs (inClass (top 2) 0)) (defBody (inClass (top 2) 0)) (defScope (inClass (top 2) 0)) [] [] _ _ := def_at c 0 rfl
  exact ⟨E, fn_x1D E (List.mem_singleton.mpr rfl) U rfl ⟨rfl, rfl, rfl, by decide +kernel, rfl, by decide +kernel, by decide +kernel⟩ (.inl rfl) (.inl rfl), U.bindsN fun _ _ _ _ _ _ us hl => match us, hl with | [_, _], _ => rfl⟩
theorem x_BadOdds (c : Hd w K mg base) : OexF K "BadOdds" ["part"] ∧ FnOk P w K mg base (fun _ _ _ _ _ _ => False) 1 (He.ma K (He.ga K "BadOdds") "__init__") (fdOf K ("BadOdds", some "__init__")) ["self", "part"] (spX1 (He.ga K "BadOdds") "part") ∧ Binds K (fdOf K ("BadOdds", some "__init__")) ["self", "part"] [] := by
  have E : OexF K "BadOdds" ["part"] := oex_ok (exAll_at c.more 1 rfl).1
  have U : FunD K "__init__" "BadOdds.__init__" (defArgs (inClass (top 10) 0)) (defBody (inClass (top 10) 0)) (defScope (inClass (top 10) 0)) [] [] _ _ := def_at c 4 rfl
  exact ⟨E, fn_x1D E (List.mem_singleton.mpr rfl) U rfl ⟨rfl, rfl, rfl, by decide +kernel, rfl, by decide +kernel, by decide +kernel⟩ (.inl rfl) (.inl rfl), U.bindsN fun _ _ _ _ _ _ us hl => match us, hl with | [_, _], _ => rfl⟩
theorem ask20 {X : Cx} {T : Tab} (c : Hd w K mg base) (U : FunD K "_law_refused" "_law_refused" (defArgs (top 27)) (defBody (top 27)) (defScope (top 27)) [] [] (He.fAd K ("_law_refused", none)) (fdOf K ("_law_refused", none))) (hK : X.K = K) (hm : X.mg = mg) (h1 : T.cls = (TT K).cls) (h2 : T.xf = (TT K).xf) : AskOk T X "_law_refused" "deed" (He.fAd K ("_law_refused", none)) ["deed", "fault"] (defBody (top 27)) (defScope (top 27)) [([(1, false), (2, true)], .one 1 (.fld 0)), ([(1, true), (2, false)], .one 1 (.fld 0))] (.str []) := by
  obtain ⟨cls, fld, nf, xf, lamP, lamQ, tq, ts, γ, ι, B⟩ := T
  dsimp only at h1 h2
  subst h1 h2 hK hm
  exact ask_of U (fun _ _ _ _ _ _ us hl => match us, hl with | [_], _ => rfl) ⟨rfl, rfl, rfl, by decide +kernel, rfl, by decide +kernel, by decide +kernel⟩ rfl (.inl rfl) ⟨_, _, _, _, _, _, _, _, _, rfl, fun _ => pe_str, fun _ => rep_str, fun cdv s H => ⟨_, (.one (C := 2) rfl rfl ⟨rfl, by decide, .inl (glo_ c (i := 1) rfl)⟩ (ht_cons (exm_ c (i := 35) rfl) (fun z => nomatch z) (ht_cons (exm_ c (i := 34) rfl) (fun _ => rfl) ht_nil)) (.fld (C := 2) (i := 1) rfl (exAll_at c.more 1 rfl).2 (noat_ c (i := 36) rfl) rfl (show List.Nodup (["part"] : List Str) by decide) rfl (.inl rfl) (by decide) (by decide)) (.one (C := 1) rfl rfl ⟨rfl, by decide, .inl (glo_ c (i := 0) rfl)⟩ (ht_cons (exm_ c (i := 32) rfl) (fun _ => rfl) (ht_cons (exm_ c (i := 31) rfl) (fun z => nomatch z) ht_nil)) (.fld (C := 1) (i := 1) rfl (exAll_at c.more 0 rfl).2 (noat_ c (i := 33) rfl) rfl (show List.Nodup (["number"] : List Str) by decide) rfl (.inl rfl) (by decide) (by decide)) HsOk.nil))⟩⟩
theorem wl0 (c : Hd w K mg base) {n : Nat} (IH : Fam P w K mg base n) : LamOk (TT K) P w K mg base (2 * (n + 1)) lamNm (lBody lam0) (lScope lam0) (lamE (callN n) 0) := by
  intro A outer s H E T' W f c1 hT hr tk
  obtain ⟨γ, rfl⟩ := hT
  exact (dx_call (i := 13) (call := callN n) (IH.f13.of rfl) hr rfl (glo_ c (i := 13) rfl) tk (da_cons de_int (da_cons de_non da_nil)))
theorem wl1 (c : Hd w K mg base) {n : Nat} (IH : Fam P w K mg base n) : LamOk (TT K) P w K mg base (2 * (n + 1)) lamNm (lBody lam1) (lScope lam1) (lamE (callN n) 1) := by
  intro A outer s H E T' W f c1 hT hr tk
  obtain ⟨γ, rfl⟩ := hT
  exact (dx_call (i := 14) (call := callN n) (IH.f14.of rfl) hr rfl (glo_ c (i := 14) rfl) tk (da_cons de_int (da_cons de_int (da_cons de_int da_nil))))
theorem wl2 (c : Hd w K mg base) {n : Nat} (IH : Fam P w K mg base n) : LamOk (TT K) P w K mg base (2 * (n + 1)) lamNm (lBody lam2) (lScope lam2) (lamE (callN n) 2) := by
  intro A outer s H E T' W f c1 hT hr tk
  obtain ⟨γ, rfl⟩ := hT
  exact (dx_call (i := 14) (call := callN n) (IH.f14.of rfl) hr rfl (glo_ c (i := 14) rfl) tk (da_cons de_int (da_cons de_int (da_cons de_int da_nil))))
theorem wl3 (c : Hd w K mg base) {n : Nat} (IH : Fam P w K mg base n) : LamOk (TT K) P w K mg base (2 * (n + 1)) lamNm (lBody lam3) (lScope lam3) (lamE (callN n) 3) := by
  intro A outer s H E T' W f c1 hT hr tk
  obtain ⟨γ, rfl⟩ := hT
  exact (dx_call (i := 12) (call := callN n) (IH.f12.of rfl) hr rfl (glo_ c (i := 12) rfl) tk (da_cons (de_neg (do_val de_int)) (da_cons (de_tup (da_cons de_int (da_cons de_int da_nil))) da_nil)))
theorem wl4 (c : Hd w K mg base) {n : Nat} (IH : Fam P w K mg base n) : LamOk (TT K) P w K mg base (2 * (n + 1)) lamNm (lBody lam4) (lScope lam4) (lamE (callN n) 4) := by
  intro A outer s H E T' W f c1 hT hr tk
  obtain ⟨γ, rfl⟩ := hT
  exact (dx_call (i := 11) (call := callN n) (IH.f11.of rfl) hr rfl (glo_ c (i := 11) rfl) tk (da_cons de_int (da_cons (de_fz (df_lst (da_cons de_int (da_cons de_int da_nil)))) da_nil)))
theorem wl5 (c : Hd w K mg base) {n : Nat} (IH : Fam P w K mg base n) : LamOk (TT K) P w K mg base (2 * (n + 1)) lamNm (lBody lam5) (lScope lam5) (lamE (callN n) 5) := by
  intro A outer s H E T' W f c1 hT hr tk
  obtain ⟨γ, rfl⟩ := hT
  exact (dx_call (i := 11) (call := callN n) (IH.f11.of rfl) hr rfl (glo_ c (i := 11) rfl) tk (da_cons de_int (da_cons (de_tup (da_cons de_int (da_cons de_int da_nil))) da_nil)))
theorem wl6 (c : Hd w K mg base) {n : Nat} (IH : Fam P w K mg base n) : LamOk (TT K) P w K mg base (2 * (n + 1)) lamNm (lBody lam6) (lScope lam6) (lamE (callN n) 6) := by
  intro A outer s H E T' W f c1 hT hr tk
  obtain ⟨γ, rfl⟩ := hT
  exact (dx_call (i := 11) (call := callN n) (IH.f11.of rfl) hr rfl (glo_ c (i := 11) rfl) tk (da_cons de_int (da_cons (de_tup (da_cons de_int (da_cons de_int da_nil))) da_nil)))
theorem wl7 (c : Hd w K mg base) {n : Nat} (IH : Fam P w K mg base n) : LamOk (TT K) P w K mg base (2 * (n + 1)) lamNm (lBody lam7) (lScope lam7) (lamE (callN n) 7) := by
  intro A outer s H E T' W f c1 hT hr tk
  obtain ⟨γ, rfl⟩ := hT
  exact (dx_call (i := 7) (call := callN n) (IH.f7.of rfl) hr rfl (glo_ c (i := 7) rfl) tk (da_cons de_non (da_cons de_int da_nil)))
theorem wl8 (c : Hd w K mg base) {n : Nat} (IH : Fam P w K mg base n) : LamOk (TT K) P w K mg base (2 * (n + 1)) lamNm (lBody lam8) (lScope lam8) (lamE (callN n) 8) := by
  intro A outer s H E T' W f c1 hT hr tk
  obtain ⟨γ, rfl⟩ := hT
  exact (dx_call (i := 8) (call := callN n) (IH.f8.of rfl) hr rfl (glo_ c (i := 8) rfl) tk (da_cons de_int (da_cons de_int da_nil)))
theorem wl9 (c : Hd w K mg base) {n : Nat} (IH : Fam P w K mg base n) : LamOk (TT K) P w K mg base (2 * (n + 1)) lamNm (lBody lam9) (lScope lam9) (lamE (callN n) 9) := by
  intro A outer s H E T' W f c1 hT hr tk
  obtain ⟨γ, rfl⟩ := hT
  exact (dx_call (i := 8) (call := callN n) (IH.f8.of rfl) hr rfl (glo_ c (i := 8) rfl) tk (da_cons de_int (da_cons de_int da_nil)))
theorem lamsOk (c : Hd w K mg base) {n : Nat} (IH : Fam P w K mg base n) : ∀ j, lamE (callN n) j = (fun _ _ => .bad) ∨ ∃ (params : Arguments) (body : Expr) (scope : Scope), (TT K).lamP j = lamO (TT K).lamQ params body scope ∧ LamC scope ∧ (∀ (q : Str) (cl : List (Str × Addr)) (pm cv ctv : Value), bindArgs (PySem.W.kla_fn "<lambda>" q params body scope cl pm cv ctv) ⟨[], []⟩ = pure []) ∧ LamOk (TT K) P w K mg base (2 * (n + 1)) (TT K).lamQ body scope (lamE (callN n) j)
  | 0 => .inr ⟨_, _, _, rfl, lamC_by (by decide +kernel), fun _ _ _ _ _ => rfl, wl0 c IH⟩
  | 1 => .inr ⟨_, _, _, rfl, lamC_by (by decide +kernel), fun _ _ _ _ _ => rfl, wl1 c IH⟩
  | 2 => .inr ⟨_, _, _, rfl, lamC_by (by decide +kernel), fun _ _ _ _ _ => rfl, wl2 c IH⟩
  | 3 => .inr ⟨_, _, _, rfl, lamC_by (by decide +kernel), fun _ _ _ _ _ => rfl, wl3 c IH⟩
  | 4 => .inr ⟨_, _, _, rfl, lamC_by (by decide +kernel), fun _ _ _ _ _ => rfl, wl4 c IH⟩
  | 5 => .inr ⟨_, _, _, rfl, lamC_by (by decide +kernel), fun _ _ _ _ _ => rfl, wl5 c IH⟩
  | 6 => .inr ⟨_, _, _, rfl, lamC_by (by decide +kernel), fun _ _ _ _ _ => rfl, wl6 c IH⟩
  | 7 => .inr ⟨_, _, _, rfl, lamC_by (by decide +kernel), fun _ _ _ _ _ => rfl, wl7 c IH⟩
  | 8 => .inr ⟨_, _, _, rfl, lamC_by (by decide +kernel), fun _ _ _ _ _ => rfl, wl8 c IH⟩
  | 9 => .inr ⟨_, _, _, rfl, lamC_by (by decide +kernel), fun _ _ _ _ _ => rfl, wl9 c IH⟩
  | _ + 10 => .inl rfl
/-- is_integer -/
theorem w1 (c : Hd w K mg base) {n : Nat} (IH : Fam P w K mg base n) : Cal (TT K) P w K mg base (2 * (n + 2)) (He.fAd K ("is_integer", none)) (f1 (callN n)) := by
  have U : FunD K "is_integer" "is_integer" (defArgs (top 4)) (defBody (top 4)) (defScope (top 4)) [] [] _ _ := def_at c 1 rfl
  have S : FnScope ["thing"] ["thing"] (defScope (top 4)) := ⟨rfl, rfl, rfl, by decide +kernel, rfl, by decide +kernel, by decide +kernel⟩
  refine cal_of (n := n + 1) (z := 0) U S rfl (fun _ _ _ _ _ _ us hl => match us, hl with | [_], _ => rfl) (fun cdv A outer s H E T' W hT hr tk hp => ?_)
  obtain ⟨γ, rfl⟩ := hT
  have hr2 : Room (2 * (n + 1)) _ := hr.mono (by omega)
  have hrx : Room (1 + 1) _ := hr.mono (by omega)
  exact (dss_one (ds_ret (de_and (de_isi rfl (free_ c (i := 22) rfl) (do_var (pv 0)) (pe_bltn (v := .ty "int") rfl (free_ c (i := 23) rfl) (by with_unfolding_all rfl) rfl) (.ty _) isi_int) (de_one (de_not (do_val (de_isi rfl (free_ c (i := 22) rfl) (do_var (pv 0)) (pe_bltn (v := .ty "bool") rfl (free_ c (i := 24) rfl) (by with_unfolding_all rfl) rfl) (.ty _) isi_bool)))))))
/-- is_number -/
theorem w2 (c : Hd w K mg base) {n : Nat} (IH : Fam P w K mg base n) : Cal (TT K) P w K mg base (2 * (n + 2)) (He.fAd K ("is_number", none)) (f2 (callN n)) := by
  have U : FunD K "is_number" "is_number" (defArgs (top 5)) (defBody (top 5)) (defScope (top 5)) [] [] _ _ := def_at c 2 rfl
  have S : FnScope ["thing", "least", "most"] ["thing", "least", "most"] (defScope (top 5)) := ⟨rfl, rfl, rfl, by decide +kernel, rfl, by decide +kernel, by decide +kernel⟩
  refine cal_of (n := n + 1) (z := 0) U S rfl (fun _ _ _ _ _ _ us hl => match us, hl with | [_, _, _], _ => rfl) (fun cdv A outer s H E T' W hT hr tk hp => ?_)
  obtain ⟨γ, rfl⟩ := hT
  have hr2 : Room (2 * (n + 1)) _ := hr.mono (by omega)
  have hrx : Room (1 + 1) _ := hr.mono (by omega)
  exact (dss_one (ds_ret (de_and (dx_call (i := 1) (call := callN n) (IH.f1.of rfl) hr2 rfl (glo_ c (i := 2) rfl) tk (da_cons (de_var (pv 0)) da_nil)) (de_one (de_chain (c_le hr) (c_le hr) (do_var (pv 1)) (do_var (pv 0)) (do_var (pv 2)))))))
/-- common -/
theorem w3 (c : Hd w K mg base) {n : Nat} (IH : Fam P w K mg base n) : Cal (TT K) P w K mg base (2 * (n + 2)) (He.fAd K ("common", none)) (f3 (callN n)) := by
  have U : FunD K "common" "common" (defArgs (top 7)) (defBody (top 7)) (defScope (top 7)) [] [] _ _ := def_at c 3 rfl
  have S : FnScope ["one", "other"] ["one", "other"] (defScope (top 7)) := ⟨rfl, rfl, rfl, by decide +kernel, rfl, by decide +kernel, by decide +kernel⟩
  refine cal_of (n := n + 1) (z := 0) U S rfl (fun _ _ _ _ _ _ us hl => match us, hl with | [_, _], _ => rfl) (fun cdv A outer s H E T' W hT hr tk hp => ?_)
  obtain ⟨γ, rfl⟩ := hT
  have hr2 : Room (2 * (n + 1)) _ := hr.mono (by omega)
  have hrx : Room (1 + 1) _ := hr.mono (by omega)
  exact (dss_cons (ds_while hp (dt_cmp (c_gt hr) (do_var (pv 1)) (do_val de_int) (by with_unfolding_all rfl)) (dss_one (ds_par rfl ⟨S.nd, rfl, .inl rfl, .inr rfl⟩ ⟨S.nd, rfl, .inl rfl, .inr rfl⟩ (da_cons (de_var (pv 1)) (da_cons (de_bin o_mod (do_var (pv 0)) (do_var (pv 1))) da_nil)))))
  (dss_one (ds_ret (de_var (pv 0)))))
/-- check_odds -/
theorem w5 (c : Hd w K mg base) {n : Nat} (IH : Fam P w K mg base n) : Cal (TT K) P w K mg base (2 * (n + 2)) (He.fAd K ("check_odds", none)) (f5 (callN n)) := by
  have U : FunD K "check_odds" "check_odds" (defArgs (top 11)) (defBody (top 11)) (defScope (top 11)) [] [] _ _ := def_at c 5 rfl
  have X0 := x_BadOdds (P := P) c
  have S : FnScope ["names", "drawn"] ["names", "drawn"] (defScope (top 11)) := ⟨rfl, rfl, rfl, by decide +kernel, rfl, by decide +kernel, by decide +kernel⟩
  refine cal_of (n := n + 1) (z := 0) U S rfl (fun _ _ _ _ _ _ us hl => match us, hl with | [_, _], _ => rfl) (fun cdv A outer s H E T' W hT hr tk hp => ?_)
  obtain ⟨γ, rfl⟩ := hT
  have hr2 : Room (2 * (n + 1)) _ := hr.mono (by omega)
  have hrx : Room (1 + 1) _ := hr.mono (by omega)
  exact (dss_cons (ds_if (dt_not (dt_truth (do_val (dx_call (i := 2) (call := callN n) (IH.f2.of rfl) hr2 rfl (glo_ c (i := 3) rfl) tk (da_cons (de_var (pv 0)) (da_cons de_int (da_cons de_int da_nil))))))) (dss_one (ds_raise1 rfl tk ⟨X0.1.cl, X0.1.iC, X0.1.tI, (glo_ c (i := 1) rfl)⟩ rfl X0.2.1 hrx X0.2.2 rfl (da_cons (de_str) da_nil))) dss_nil)
  (dss_one (ds_if (dt_not (dt_truth (do_val (dx_call (i := 2) (call := callN n) (IH.f2.of rfl) hr2 rfl (glo_ c (i := 3) rfl) tk (da_cons (de_var (pv 1)) (da_cons de_int (da_cons (de_globI rfl (int_ c (i := 25) rfl)) da_nil))))))) (dss_one (ds_raise1 rfl tk ⟨X0.1.cl, X0.1.iC, X0.1.tI, (glo_ c (i := 1) rfl)⟩ rfl X0.2.1 hrx X0.2.2 rfl (da_cons (de_str) da_nil))) dss_nil)))
/-- lowest -/
theorem w6 (c : Hd w K mg base) {n : Nat} (IH : Fam P w K mg base n) : Cal (TT K) P w K mg base (2 * (n + 2)) (He.fAd K ("lowest", none)) (f6 (callN n)) := by
  have U : FunD K "lowest" "lowest" (defArgs (top 12)) (defBody (top 12)) (defScope (top 12)) [] [] _ _ := def_at c 6 rfl
  have S : FnScope ["one", "other", "part"] ["one", "other"] (defScope (top 12)) := ⟨rfl, rfl, rfl, by decide +kernel, rfl, by decide +kernel, by decide +kernel⟩
  refine cal_of (n := n + 1) (z := 1) U S rfl (fun _ _ _ _ _ _ us hl => match us, hl with | [_, _], _ => rfl) (fun cdv A outer s H E T' W hT hr tk hp => ?_)
  obtain ⟨γ, rfl⟩ := hT
  have hr2 : Room (2 * (n + 1)) _ := hr.mono (by omega)
  have hrx : Room (1 + 1) _ := hr.mono (by omega)
  exact (dss_cons (ds_set ⟨S.nd, rfl, .inl rfl, .inr rfl⟩ (dx_call (i := 3) (call := callN n) (IH.f3.of rfl) hr2 rfl (glo_ c (i := 4) rfl) tk (da_cons (de_var (pv 0)) (da_cons (de_var (pv 1)) da_nil))))
  (dss_one (ds_ret (de_tup (da_cons (de_bin o_fdiv (do_var (pv 0)) (do_var (pv 2))) (da_cons (de_bin o_fdiv (do_var (pv 1)) (do_var (pv 2))) da_nil))))))
/-- apart_odds -/
theorem w7 (c : Hd w K mg base) {n : Nat} (IH : Fam P w K mg base n) : Cal (TT K) P w K mg base (2 * (n + 2)) (He.fAd K ("apart_odds", none)) (f7 (callN n)) := by
  have U : FunD K "apart_odds" "apart_odds" (defArgs (top 13)) (defBody (top 13)) (defScope (top 13)) [] [] _ _ := def_at c 7 rfl
  have S : FnScope ["names", "drawn", "turn", "one", "other"] ["names", "drawn"] (defScope (top 13)) := ⟨rfl, rfl, rfl, by decide +kernel, rfl, by decide +kernel, by decide +kernel⟩
  refine cal_of (n := n + 1) (z := 3) U S rfl (fun _ _ _ _ _ _ us hl => match us, hl with | [_, _], _ => rfl) (fun cdv A outer s H E T' W hT hr tk hp => ?_)
  obtain ⟨γ, rfl⟩ := hT
  have hr2 : Room (2 * (n + 1)) _ := hr.mono (by omega)
  have hrx : Room (1 + 1) _ := hr.mono (by omega)
  exact (dss_cons (ds_drop (dx_call (i := 5) (call := callN n) (IH.f5.of rfl) hr2 rfl (glo_ c (i := 5) rfl) tk (da_cons (de_var (pv 0)) (da_cons (de_var (pv 1)) da_nil))))
  (dss_cons (ds_asg (de_tup (da_cons de_int (da_cons de_int da_nil))) (dg_tup rfl (dgs_cons (dg_name ⟨S.nd, rfl, .inl rfl, .inr rfl⟩) (dgs_cons (dg_name ⟨S.nd, rfl, .inl rfl, .inr rfl⟩) dgs_nil))))
  (dss_cons (ds_for hp rfl (di_range1 rfl (free_ c (i := 26) rfl) (da_cons (de_var (pv 1)) da_nil)) (dg_name ⟨S.nd, rfl, .inl rfl, .inr rfl⟩) (dss_one (ds_par rfl ⟨S.nd, rfl, .inl rfl, .inr rfl⟩ ⟨S.nd, rfl, .inl rfl, .inr rfl⟩ (da_cons (de_bin o_mul (do_var (pv 3)) (do_val (de_callB (c_max2 rfl) rfl (free_ c (i := 27) rfl) (by with_unfolding_all rfl) (dpa_cons (do_val de_int) (dpa_cons (do_val (de_bin o_sub (do_var (pv 0)) (do_var (pv 2)))) dpa_nil))))) (da_cons (de_bin o_mul (do_var (pv 4)) (do_var (pv 0))) da_nil)))))
  (dss_one (ds_ret (dx_call (i := 6) (call := callN n) (IH.f6.of rfl) hr2 rfl (glo_ c (i := 6) rfl) tk (da_cons (de_var (pv 3)) (da_cons (de_var (pv 4)) da_nil))))))))
/-- clash_odds -/
theorem w8 (c : Hd w K mg base) {n : Nat} (IH : Fam P w K mg base n) : Cal (TT K) P w K mg base (2 * (n + 2)) (He.fAd K ("clash_odds", none)) (f8 (callN n)) := by
  have U : FunD K "clash_odds" "clash_odds" (defArgs (top 14)) (defBody (top 14)) (defScope (top 14)) [] [] _ _ := def_at c 8 rfl
  have S : FnScope ["names", "drawn", "one", "other"] ["names", "drawn"] (defScope (top 14)) := ⟨rfl, rfl, rfl, by decide +kernel, rfl, by decide +kernel, by decide +kernel⟩
  refine cal_of (n := n + 1) (z := 2) U S rfl (fun _ _ _ _ _ _ us hl => match us, hl with | [_, _], _ => rfl) (fun cdv A outer s H E T' W hT hr tk hp => ?_)
  obtain ⟨γ, rfl⟩ := hT
  have hr2 : Room (2 * (n + 1)) _ := hr.mono (by omega)
  have hrx : Room (1 + 1) _ := hr.mono (by omega)
  exact (dss_cons (ds_asg (dx_call (i := 7) (call := callN n) (IH.f7.of rfl) hr2 rfl (glo_ c (i := 7) rfl) tk (da_cons (de_var (pv 0)) (da_cons (de_var (pv 1)) da_nil))) (dg_tup rfl (dgs_cons (dg_name ⟨S.nd, rfl, .inl rfl, .inr rfl⟩) (dgs_cons (dg_name ⟨S.nd, rfl, .inl rfl, .inr rfl⟩) dgs_nil))))
  (dss_one (ds_ret (dx_call (i := 6) (call := callN n) (IH.f6.of rfl) hr2 rfl (glo_ c (i := 6) rfl) tk (da_cons (de_bin o_sub (do_var (pv 3)) (do_var (pv 2))) (da_cons (de_var (pv 3)) da_nil))))))
/-- check_fraction -/
theorem w9 (c : Hd w K mg base) {n : Nat} (IH : Fam P w K mg base n) : Cal (TT K) P w K mg base (2 * (n + 2)) (He.fAd K ("check_fraction", none)) (f9 (callN n)) := by
  have U : FunD K "check_fraction" "check_fraction" (defArgs (top 15)) (defBody (top 15)) (defScope (top 15)) [] [] _ _ := def_at c 9 rfl
  have X0 := x_BadOdds (P := P) c
  have S : FnScope ["fraction"] ["fraction"] (defScope (top 15)) := ⟨rfl, rfl, rfl, by decide +kernel, rfl, by decide +kernel, by decide +kernel⟩
  refine cal_of (n := n + 1) (z := 0) U S rfl (fun _ _ _ _ _ _ us hl => match us, hl with | [_], _ => rfl) (fun cdv A outer s H E T' W hT hr tk hp => ?_)
  obtain ⟨γ, rfl⟩ := hT
  have hr2 : Room (2 * (n + 1)) _ := hr.mono (by omega)
  have hrx : Room (1 + 1) _ := hr.mono (by omega)
  exact (dss_cons (ds_if (dt_w (dw_or (dt_not (dt_truth (do_val (de_isi rfl (free_ c (i := 22) rfl) (do_var (pv 0)) (pe_bltn (v := .ty "tuple") rfl (free_ c (i := 28) rfl) (by with_unfolding_all rfl) rfl) (.ty _) isi_tuple)))) (dw_or (dt_cmp (c_ne hr) (do_val (de_callB c_len rfl (free_ c (i := 29) rfl) (by with_unfolding_all rfl) (dpa_cons (do_var (pv 0)) dpa_nil))) (do_val de_int) (by with_unfolding_all rfl)) (dw_or1 (dt_not (dt_truth (do_val (dx_call (i := 2) (call := callN n) (IH.f2.of rfl) hr2 rfl (glo_ c (i := 3) rfl) tk (da_cons (de_ixS hr (do_var (pv 0)) (do_val de_int)) (da_cons de_int (da_cons de_int da_nil))))))))))) (dss_one (ds_raise1 rfl tk ⟨X0.1.cl, X0.1.iC, X0.1.tI, (glo_ c (i := 1) rfl)⟩ rfl X0.2.1 hrx X0.2.2 rfl (da_cons (de_str) da_nil))) dss_nil)
  (dss_one (ds_if (dt_not (dt_truth (do_val (dx_call (i := 2) (call := callN n) (IH.f2.of rfl) hr2 rfl (glo_ c (i := 3) rfl) tk (da_cons (de_ixS hr (do_var (pv 0)) (do_val de_int)) (da_cons de_int (da_cons (de_ixS hr (do_var (pv 0)) (do_val de_int)) da_nil))))))) (dss_one (ds_raise1 rfl tk ⟨X0.1.cl, X0.1.iC, X0.1.tI, (glo_ c (i := 1) rfl)⟩ rfl X0.2.1 hrx X0.2.2 rfl (da_cons (de_str) da_nil))) dss_nil)))
/-- is_less -/
theorem w10 (c : Hd w K mg base) {n : Nat} (IH : Fam P w K mg base n) : Cal (TT K) P w K mg base (2 * (n + 2)) (He.fAd K ("is_less", none)) (f10 (callN n)) := by
  have U : FunD K "is_less" "is_less" (defArgs (top 16)) (defBody (top 16)) (defScope (top 16)) [] [] _ _ := def_at c 10 rfl
  have S : FnScope ["one", "other"] ["one", "other"] (defScope (top 16)) := ⟨rfl, rfl, rfl, by decide +kernel, rfl, by decide +kernel, by decide +kernel⟩
  refine cal_of (n := n + 1) (z := 0) U S rfl (fun _ _ _ _ _ _ us hl => match us, hl with | [_, _], _ => rfl) (fun cdv A outer s H E T' W hT hr tk hp => ?_)
  obtain ⟨γ, rfl⟩ := hT
  have hr2 : Room (2 * (n + 1)) _ := hr.mono (by omega)
  have hrx : Room (1 + 1) _ := hr.mono (by omega)
  exact (dss_one (ds_ret (de_cmp (c_lt hr) (do_val (de_bin o_mul (do_val (de_ixS hr (do_var (pv 0)) (do_val de_int))) (do_val (de_ixS hr (do_var (pv 1)) (do_val de_int))))) (do_val (de_bin o_mul (do_val (de_ixS hr (do_var (pv 1)) (do_val de_int))) (do_val (de_ixS hr (do_var (pv 0)) (do_val de_int))))) (by with_unfolding_all rfl))))
/-- most_drawn -/
theorem w11 (c : Hd w K mg base) {n : Nat} (IH : Fam P w K mg base n) : Cal (TT K) P w K mg base (2 * (n + 2)) (He.fAd K ("most_drawn", none)) (f11 (callN n)) := by
  have U : FunD K "most_drawn" "most_drawn" (defArgs (top 17)) (defBody (top 17)) (defScope (top 17)) [] [] _ _ := def_at c 11 rfl
  have S : FnScope ["names", "fraction", "drawn"] ["names", "fraction"] (defScope (top 17)) := ⟨rfl, rfl, rfl, by decide +kernel, rfl, by decide +kernel, by decide +kernel⟩
  refine cal_of (n := n + 1) (z := 1) U S rfl (fun _ _ _ _ _ _ us hl => match us, hl with | [_, _], _ => rfl) (fun cdv A outer s H E T' W hT hr tk hp => ?_)
  obtain ⟨γ, rfl⟩ := hT
  have hr2 : Room (2 * (n + 1)) _ := hr.mono (by omega)
  have hrx : Room (1 + 1) _ := hr.mono (by omega)
  exact (dss_cons (ds_drop (dx_call (i := 5) (call := callN n) (IH.f5.of rfl) hr2 rfl (glo_ c (i := 5) rfl) tk (da_cons (de_var (pv 0)) (da_cons de_int da_nil))))
  (dss_cons (ds_drop (dx_call (i := 9) (call := callN n) (IH.f9.of rfl) hr2 rfl (glo_ c (i := 9) rfl) tk (da_cons (de_var (pv 1)) da_nil)))
  (dss_cons (ds_for hp rfl (di_range1 rfl (free_ c (i := 26) rfl) (da_cons (de_bin o_add (do_val (de_globI rfl (int_ c (i := 25) rfl))) (do_val de_int)) da_nil)) (dg_name ⟨S.nd, rfl, .inl rfl, .inr rfl⟩) (dss_one (ds_if (dt_truth (do_val (dx_call (i := 10) (call := callN n) (IH.f10.of rfl) hr2 rfl (glo_ c (i := 10) rfl) tk (da_cons (de_var (pv 1)) (da_cons (dx_call (i := 8) (call := callN n) (IH.f8.of rfl) hr2 rfl (glo_ c (i := 8) rfl) tk (da_cons (de_var (pv 0)) (da_cons (de_var (pv 2)) da_nil))) da_nil))))) (dss_one (ds_ret (de_bin o_sub (do_var (pv 2)) (do_val de_int)))) dss_nil)))
  (dss_one (ds_ret de_non)))))
/-- least_names -/
theorem w12 (c : Hd w K mg base) {n : Nat} (IH : Fam P w K mg base n) : Cal (TT K) P w K mg base (2 * (n + 2)) (He.fAd K ("least_names", none)) (f12 (callN n)) := by
  have U : FunD K "least_names" "least_names" (defArgs (top 18)) (defBody (top 18)) (defScope (top 18)) [] [] _ _ := def_at c 12 rfl
  have X0 := x_TooLarge (P := P) c
  have S : FnScope ["drawn", "fraction", "low", "high", "middle"] ["drawn", "fraction"] (defScope (top 18)) := ⟨rfl, rfl, rfl, by decide +kernel, rfl, by decide +kernel, by decide +kernel⟩
  refine cal_of (n := n + 1) (z := 3) U S rfl (fun _ _ _ _ _ _ us hl => match us, hl with | [_, _], _ => rfl) (fun cdv A outer s H E T' W hT hr tk hp => ?_)
  obtain ⟨γ, rfl⟩ := hT
  have hr2 : Room (2 * (n + 1)) _ := hr.mono (by omega)
  have hrx : Room (1 + 1) _ := hr.mono (by omega)
  exact (dss_cons (ds_drop (dx_call (i := 5) (call := callN n) (IH.f5.of rfl) hr2 rfl (glo_ c (i := 5) rfl) tk (da_cons de_int (da_cons (de_var (pv 0)) da_nil))))
  (dss_cons (ds_drop (dx_call (i := 9) (call := callN n) (IH.f9.of rfl) hr2 rfl (glo_ c (i := 9) rfl) tk (da_cons (de_var (pv 1)) da_nil)))
  (dss_cons (ds_if (dt_w (dw_and (dt_cmp (c_gt hr) (do_var (pv 0)) (do_val de_int) (by with_unfolding_all rfl)) (dw_and1 (dt_cmp (c_eq hr) (do_val (de_ixS hr (do_var (pv 1)) (do_val de_int))) (do_val de_int) (by with_unfolding_all rfl))))) (dss_one (ds_raise1 rfl tk ⟨X0.1.cl, X0.1.iC, X0.1.tI, (glo_ c (i := 0) rfl)⟩ rfl X0.2.1 hrx X0.2.2 rfl (da_cons (de_var (pv 0)) da_nil))) dss_nil)
  (dss_cons (ds_asg (de_tup (da_cons de_int (da_cons de_int da_nil))) (dg_tup rfl (dgs_cons (dg_name ⟨S.nd, rfl, .inl rfl, .inr rfl⟩) (dgs_cons (dg_name ⟨S.nd, rfl, .inl rfl, .inr rfl⟩) dgs_nil))))
  (dss_cons (ds_while hp (dt_truth (do_val (dx_call (i := 10) (call := callN n) (IH.f10.of rfl) hr2 rfl (glo_ c (i := 10) rfl) tk (da_cons (de_var (pv 1)) (da_cons (dx_call (i := 8) (call := callN n) (IH.f8.of rfl) hr2 rfl (glo_ c (i := 8) rfl) tk (da_cons (de_var (pv 3)) (da_cons (de_var (pv 0)) da_nil))) da_nil))))) (dss_cons (ds_aug ⟨S.nd, rfl, .inl rfl, .inr rfl⟩ i_mul de_int)
  (dss_one (ds_if (dt_cmp (c_gt hr) (do_var (pv 3)) (do_val de_int) (by with_unfolding_all rfl)) (dss_one (ds_raise1 rfl tk ⟨X0.1.cl, X0.1.iC, X0.1.tI, (glo_ c (i := 0) rfl)⟩ rfl X0.2.1 hrx X0.2.2 rfl (da_cons (de_var (pv 3)) da_nil))) dss_nil))))
  (dss_cons (ds_while hp (dt_cmp (c_lt hr) (do_var (pv 2)) (do_var (pv 3)) (by with_unfolding_all rfl)) (dss_cons (ds_set ⟨S.nd, rfl, .inl rfl, .inr rfl⟩ (de_bin o_fdiv (do_val (de_bin o_add (do_var (pv 2)) (do_var (pv 3)))) (do_val de_int)))
  (dss_one (ds_if (dt_truth (do_val (dx_call (i := 10) (call := callN n) (IH.f10.of rfl) hr2 rfl (glo_ c (i := 10) rfl) tk (da_cons (de_var (pv 1)) (da_cons (dx_call (i := 8) (call := callN n) (IH.f8.of rfl) hr2 rfl (glo_ c (i := 8) rfl) tk (da_cons (de_var (pv 4)) (da_cons (de_var (pv 0)) da_nil))) da_nil))))) (dss_one (ds_set ⟨S.nd, rfl, .inl rfl, .inr rfl⟩ (de_bin o_add (do_var (pv 4)) (do_val de_int)))) (dss_one (ds_set ⟨S.nd, rfl, .inl rfl, .inr rfl⟩ (de_var (pv 4))))))))
  (dss_one (ds_ret (de_var (pv 2))))))))))
/-- expected_unlike -/
theorem w13 (c : Hd w K mg base) {n : Nat} (IH : Fam P w K mg base n) : Cal (TT K) P w K mg base (2 * (n + 2)) (He.fAd K ("expected_unlike", none)) (f13 (callN n)) := by
  have U : FunD K "expected_unlike" "expected_unlike" (defArgs (top 19)) (defBody (top 19)) (defScope (top 19)) [] [] _ _ := def_at c 13 rfl
  have S : FnScope ["names", "drawn", "turn", "one", "other"] ["names", "drawn"] (defScope (top 19)) := ⟨rfl, rfl, rfl, by decide +kernel, rfl, by decide +kernel, by decide +kernel⟩
  refine cal_of (n := n + 1) (z := 3) U S rfl (fun _ _ _ _ _ _ us hl => match us, hl with | [_, _], _ => rfl) (fun cdv A outer s H E T' W hT hr tk hp => ?_)
  obtain ⟨γ, rfl⟩ := hT
  have hr2 : Room (2 * (n + 1)) _ := hr.mono (by omega)
  have hrx : Room (1 + 1) _ := hr.mono (by omega)
  exact (dss_cons (ds_drop (dx_call (i := 5) (call := callN n) (IH.f5.of rfl) hr2 rfl (glo_ c (i := 5) rfl) tk (da_cons (de_var (pv 0)) (da_cons (de_var (pv 1)) da_nil))))
  (dss_cons (ds_asg (de_tup (da_cons de_int (da_cons de_int da_nil))) (dg_tup rfl (dgs_cons (dg_name ⟨S.nd, rfl, .inl rfl, .inr rfl⟩) (dgs_cons (dg_name ⟨S.nd, rfl, .inl rfl, .inr rfl⟩) dgs_nil))))
  (dss_cons (ds_for hp rfl (di_range1 rfl (free_ c (i := 26) rfl) (da_cons (de_var (pv 1)) da_nil)) (dg_name ⟨S.nd, rfl, .inl rfl, .inr rfl⟩) (dss_one (ds_par rfl ⟨S.nd, rfl, .inl rfl, .inr rfl⟩ ⟨S.nd, rfl, .inl rfl, .inr rfl⟩ (da_cons (de_bin o_mul (do_var (pv 3)) (do_val (de_bin o_sub (do_var (pv 0)) (do_val de_int)))) (da_cons (de_bin o_mul (do_var (pv 4)) (do_var (pv 0))) da_nil)))))
  (dss_one (ds_ret (dx_call (i := 6) (call := callN n) (IH.f6.of rfl) hr2 rfl (glo_ c (i := 6) rfl) tk (da_cons (de_bin o_mul (do_var (pv 0)) (do_val (de_bin o_sub (do_var (pv 4)) (do_var (pv 3))))) (da_cons (de_var (pv 4)) da_nil))))))))
/-- seen_odds -/
theorem w14 (c : Hd w K mg base) {n : Nat} (IH : Fam P w K mg base n) : Cal (TT K) P w K mg base (2 * (n + 2)) (He.fAd K ("seen_odds", none)) (f14 (callN n)) := by
  have U : FunD K "seen_odds" "seen_odds" (defArgs (top 20)) (defBody (top 20)) (defScope (top 20)) [] [] _ _ := def_at c 14 rfl
  have X0 := x_BadOdds (P := P) c
  have S : FnScope ["names", "given", "tried", "turn", "one", "other"] ["names", "given", "tried"] (defScope (top 20)) := ⟨rfl, rfl, rfl, by decide +kernel, rfl, by decide +kernel, by decide +kernel⟩
  refine cal_of (n := n + 1) (z := 3) U S rfl (fun _ _ _ _ _ _ us hl => match us, hl with | [_, _, _], _ => rfl) (fun cdv A outer s H E T' W hT hr tk hp => ?_)
  obtain ⟨γ, rfl⟩ := hT
  have hr2 : Room (2 * (n + 1)) _ := hr.mono (by omega)
  have hrx : Room (1 + 1) _ := hr.mono (by omega)
  exact (dss_cons (ds_drop (dx_call (i := 5) (call := callN n) (IH.f5.of rfl) hr2 rfl (glo_ c (i := 5) rfl) tk (da_cons (de_var (pv 0)) (da_cons de_int da_nil))))
  (dss_cons (ds_if (dt_not (dt_truth (do_val (dx_call (i := 2) (call := callN n) (IH.f2.of rfl) hr2 rfl (glo_ c (i := 3) rfl) tk (da_cons (de_var (pv 1)) (da_cons de_int (da_cons (de_var (pv 0)) da_nil))))))) (dss_one (ds_raise1 rfl tk ⟨X0.1.cl, X0.1.iC, X0.1.tI, (glo_ c (i := 1) rfl)⟩ rfl X0.2.1 hrx X0.2.2 rfl (da_cons (de_str) da_nil))) dss_nil)
  (dss_cons (ds_if (dt_not (dt_truth (do_val (dx_call (i := 2) (call := callN n) (IH.f2.of rfl) hr2 rfl (glo_ c (i := 3) rfl) tk (da_cons (de_var (pv 2)) (da_cons de_int (da_cons (de_callB (c_min2 rfl) rfl (free_ c (i := 30) rfl) (by with_unfolding_all rfl) (dpa_cons (do_var (pv 0)) (dpa_cons (do_val (de_globI rfl (int_ c (i := 25) rfl))) dpa_nil))) da_nil))))))) (dss_one (ds_raise1 rfl tk ⟨X0.1.cl, X0.1.iC, X0.1.tI, (glo_ c (i := 1) rfl)⟩ rfl X0.2.1 hrx X0.2.2 rfl (da_cons (de_str) da_nil))) dss_nil)
  (dss_cons (ds_asg (de_tup (da_cons de_int (da_cons de_int da_nil))) (dg_tup rfl (dgs_cons (dg_name ⟨S.nd, rfl, .inl rfl, .inr rfl⟩) (dgs_cons (dg_name ⟨S.nd, rfl, .inl rfl, .inr rfl⟩) dgs_nil))))
  (dss_cons (ds_for hp rfl (di_range1 rfl (free_ c (i := 26) rfl) (da_cons (de_var (pv 2)) da_nil)) (dg_name ⟨S.nd, rfl, .inl rfl, .inr rfl⟩) (dss_one (ds_par rfl ⟨S.nd, rfl, .inl rfl, .inr rfl⟩ ⟨S.nd, rfl, .inl rfl, .inr rfl⟩ (da_cons (de_bin o_mul (do_var (pv 4)) (do_val (de_callB (c_max2 rfl) rfl (free_ c (i := 27) rfl) (by with_unfolding_all rfl) (dpa_cons (do_val de_int) (dpa_cons (do_val (de_bin o_sub (do_val (de_bin o_sub (do_var (pv 0)) (do_var (pv 1)))) (do_var (pv 3)))) dpa_nil))))) (da_cons (de_bin o_mul (do_var (pv 5)) (do_val (de_bin o_sub (do_var (pv 0)) (do_var (pv 3))))) da_nil)))))
  (dss_one (ds_ret (dx_call (i := 6) (call := callN n) (IH.f6.of rfl) hr2 rfl (glo_ c (i := 6) rfl) tk (da_cons (de_bin o_sub (do_var (pv 5)) (do_var (pv 4))) (da_cons (de_var (pv 5)) da_nil))))))))))
/-- _law_number -/
theorem w15 (c : Hd w K mg base) {n : Nat} (IH : Fam P w K mg base n) : Cal (TT K) P w K mg base (2 * (n + 2)) (He.fAd K ("_law_number", none)) (f15 (callN n)) := by
  have U : FunD K "_law_number" "_law_number" (defArgs (top 22)) (defBody (top 22)) (defScope (top 22)) [] [] _ _ := def_at c 15 rfl
  have S : FnScope ["script", "index", "rest", "step", "blend", "cell", "turn"] ["script", "index"] (defScope (top 22)) := ⟨rfl, rfl, rfl, by decide +kernel, rfl, by decide +kernel, by decide +kernel⟩
  refine cal_of (n := n + 1) (z := 5) U S rfl (fun _ _ _ _ _ _ us hl => match us, hl with | [_, _], _ => rfl) (fun cdv A outer s H E T' W hT hr tk hp => ?_)
  obtain ⟨γ, rfl⟩ := hT
  have hr2 : Room (2 * (n + 1)) _ := hr.mono (by omega)
  have hrx : Room (1 + 1) _ := hr.mono (by omega)
  exact (dss_cons (ds_asg (de_if (dt_cmp (c_ne hr) (do_var (pv 0)) (do_val (de_fz (df_lst da_nil))) (by with_unfolding_all rfl)) (de_tup (da_cons (de_ixS hr (do_var (pv 0)) (do_val (de_bin o_mod (do_var (pv 1)) (do_val (de_callB c_len rfl (free_ c (i := 29) rfl) (by with_unfolding_all rfl) (dpa_cons (do_var (pv 0)) dpa_nil)))))) (da_cons (de_bin o_fdiv (do_var (pv 1)) (do_val (de_callB c_len rfl (free_ c (i := 29) rfl) (by with_unfolding_all rfl) (dpa_cons (do_var (pv 0)) dpa_nil)))) da_nil))) (de_tup (da_cons de_int (da_cons de_int da_nil)))) (dg_tup rfl (dgs_cons (dg_name ⟨S.nd, rfl, .inl rfl, .inr rfl⟩) (dgs_cons (dg_name ⟨S.nd, rfl, .inl rfl, .inr rfl⟩) dgs_nil))))
  (dss_cons (ds_set ⟨S.nd, rfl, .inl rfl, .inr rfl⟩ (de_if (dt_cmp (c_lt hr) (do_var (pv 6)) (do_val de_int) (by with_unfolding_all rfl)) (de_bin o_sub (do_var (pv 5)) (do_val (de_bin o_pow (do_val de_int) (do_val de_int)))) de_int))
  (dss_cons (ds_for hp rfl (di_range1 rfl (free_ c (i := 26) rfl) (da_cons (de_bin o_mod (do_val (de_callTy c_int rfl (free_ c (i := 23) rfl) (by with_unfolding_all rfl) (dpa_cons (do_var (pv 6)) dpa_nil))) (do_val de_int)) da_nil)) (dg_name ⟨S.nd, rfl, .inl rfl, .inr rfl⟩) (dss_one (ds_set ⟨S.nd, rfl, .inl rfl, .inr rfl⟩ (de_bin o_fdiv (do_var (pv 2)) (do_val de_int)))))
  (dss_cons (ds_if (dt_cmp (c_gt hr) (do_var (pv 2)) (do_val de_int) (by with_unfolding_all rfl)) (dss_one (ds_ret (de_bin o_mod (do_val (de_callTy c_int rfl (free_ c (i := 23) rfl) (by with_unfolding_all rfl) (dpa_cons (do_var (pv 2)) dpa_nil))) (do_val de_int)))) dss_nil)
  (dss_cons (ds_set ⟨S.nd, rfl, .inl rfl, .inr rfl⟩ (de_bin o_mod (do_val (de_bin o_add (do_val (de_bin o_mul (do_val (de_callTy c_int rfl (free_ c (i := 23) rfl) (by with_unfolding_all rfl) (dpa_cons (do_val (de_bin o_add (do_var (pv 5)) (do_val (de_bin o_mul (do_val de_int) (do_var (pv 1)))))) dpa_nil))) (do_val de_int))) (do_val (de_bin o_mul (do_val de_int) (do_val (de_callB c_len rfl (free_ c (i := 29) rfl) (by with_unfolding_all rfl) (dpa_cons (do_var (pv 0)) dpa_nil))))))) (do_val de_int)))
  (dss_cons (ds_set ⟨S.nd, rfl, .inl rfl, .inr rfl⟩ (de_bin o_mod (do_val (de_bin o_add (do_val (de_bin o_mul (do_var (pv 4)) (do_var (pv 4)))) (do_val (de_bin o_mul (do_val de_int) (do_var (pv 1)))))) (do_val de_int)))
  (dss_one (ds_ret (de_callTy c_int rfl (free_ c (i := 23) rfl) (by with_unfolding_all rfl) (dpa_cons (do_val (de_bin o_mod (do_val (de_bin o_add (do_val (de_bin o_mul (do_var (pv 4)) (do_val de_int))) (do_val (de_bin o_fdiv (do_var (pv 4)) (do_val de_int))))) (do_val de_int))) dpa_nil))))))))))
/-- _law_take -/
theorem w16 (c : Hd w K mg base) {n : Nat} (IH : Fam P w K mg base n) : Cal (TT K) P w K mg base (2 * (n + 2)) (He.fAd K ("_law_take", none)) (f16 (callN n)) := by
  have U : FunD K "_law_take" "_law_take" (defArgs (top 23)) (defBody (top 23)) (defScope (top 23)) [] [] _ _ := def_at c 16 rfl
  have S : FnScope ["draw", "many"] ["draw", "many"] (defScope (top 23)) := ⟨rfl, rfl, rfl, by decide +kernel, rfl, by decide +kernel, by decide +kernel⟩
  refine cal_of (n := n + 1) (z := 0) U S rfl (fun _ _ _ _ _ _ us hl => match us, hl with | [_, _], _ => rfl) (fun cdv A outer s H E T' W hT hr tk hp => ?_)
  obtain ⟨γ, rfl⟩ := hT
  have hr2 : Room (2 * (n + 1)) _ := hr.mono (by omega)
  have hrx : Room (1 + 1) _ := hr.mono (by omega)
  exact (dss_cons (ds_augP (unit_ hr) (pv 0) de_int i_add de_int (fun _ _ _ => rfl))
  (dss_one (ds_ret (de_bin o_mod (do_val (de_callTy c_int rfl (free_ c (i := 23) rfl) (by with_unfolding_all rfl) (dpa_cons (do_val (dx_call (i := 15) (call := callN n) (IH.f15.of rfl) hr2 rfl (glo_ c (i := 15) rfl) tk (da_cons (de_ixS hr (do_var (pv 0)) (do_val de_int)) (da_cons (de_callTy c_int rfl (free_ c (i := 23) rfl) (by with_unfolding_all rfl) (dpa_cons (do_val (de_ixS hr (do_var (pv 0)) (do_val de_int))) dpa_nil)) da_nil)))) dpa_nil))) (do_var (pv 1))))))
/-- _law_ways -/
theorem w17 (c : Hd w K mg base) {n : Nat} (IH : Fam P w K mg base n) : Cal (TT K) P w K mg base (2 * (n + 2)) (He.fAd K ("_law_ways", none)) (f17 (callN n)) := by
  have U : FunD K "_law_ways" "_law_ways" (defArgs (top 24)) (defBody (top 24)) (defScope (top 24)) [] [] _ _ := def_at c 17 rfl
  have S : FnScope ["names", "drawn", "found", "turn", "late", "row", "one"] ["names", "drawn"] (defScope (top 24)) := ⟨rfl, rfl, rfl, by decide +kernel, rfl, by decide +kernel, by decide +kernel⟩
  refine cal_of (n := n + 1) (z := 5) U S rfl (fun _ _ _ _ _ _ us hl => match us, hl with | [_, _], _ => rfl) (fun cdv A outer s H E T' W hT hr tk hp => ?_)
  obtain ⟨γ, rfl⟩ := hT
  have hr2 : Room (2 * (n + 1)) _ := hr.mono (by omega)
  have hrx : Room (1 + 1) _ := hr.mono (by omega)
  exact (dss_cons (ds_set ⟨S.nd, rfl, .inl rfl, .inr rfl⟩ (de_fz (df_lst (da_cons (de_tup da_nil) da_nil))))
  (dss_cons (ds_for hp rfl (di_range1 rfl (free_ c (i := 26) rfl) (da_cons (de_var (pv 1)) da_nil)) (dg_name ⟨S.nd, rfl, .inl rfl, .inr rfl⟩) (dss_cons (ds_set ⟨S.nd, rfl, .inl rfl, .inr rfl⟩ (de_fz (df_lst da_nil)))
  (dss_cons (ds_for hp rfl (di_seq (de_var (pv 2))) (dg_name ⟨S.nd, rfl, .inr rfl, .inl rfl⟩) (dss_one (ds_set ⟨S.nd, rfl, .inl rfl, .inr rfl⟩ (de_fz (df_bin o_cat (do_var (pv 4)) (do_val (de_fz (df_lc (own := [("one", 6)]) rfl S.nd (dc_of (di_range1 rfl (free_ c (i := 26) rfl) (da_cons (de_var (pv 0)) da_nil))) (blkOk_by (by kernel_rfl)) (by decide) (fun _ _ _ _ _ _ => (dg_name ⟨S.nd, rfl, .inl rfl, .inr rfl⟩)) (fun _ _ _ _ _ _ => dts_nil) (fun _ _ _ _ _ _ => (de_bin o_add (do_var (pv 5)) (do_val (de_tup (da_cons (de_var (pv 6)) da_nil)))))))))))))
  (dss_one (ds_set ⟨S.nd, rfl, .inl rfl, .inr rfl⟩ (de_var (pv 4)))))))
  (dss_one (ds_ret (de_var (pv 2))))))
/-- _law_low -/
theorem w18 (c : Hd w K mg base) {n : Nat} (IH : Fam P w K mg base n) : Cal (TT K) P w K mg base (2 * (n + 2)) (He.fAd K ("_law_low", none)) (f18 (callN n)) := by
  have U : FunD K "_law_low" "_law_low" (defArgs (top 25)) (defBody (top 25)) (defScope (top 25)) [] [] _ _ := def_at c 18 rfl
  have S : FnScope ["one", "other", "part"] ["one", "other"] (defScope (top 25)) := ⟨rfl, rfl, rfl, by decide +kernel, rfl, by decide +kernel, by decide +kernel⟩
  refine cal_of (n := n + 1) (z := 1) U S rfl (fun _ _ _ _ _ _ us hl => match us, hl with | [_, _], _ => rfl) (fun cdv A outer s H E T' W hT hr tk hp => ?_)
  obtain ⟨γ, rfl⟩ := hT
  have hr2 : Room (2 * (n + 1)) _ := hr.mono (by omega)
  have hrx : Room (1 + 1) _ := hr.mono (by omega)
  exact (dss_cons (ds_for hp rfl (di_range3 rfl (free_ c (i := 26) rfl) (da_cons (de_if (dt_cmp (c_gt hr) (do_var (pv 0)) (do_val de_int) (by with_unfolding_all rfl)) (de_callB (c_min2 rfl) rfl (free_ c (i := 30) rfl) (by with_unfolding_all rfl) (dpa_cons (do_var (pv 0)) (dpa_cons (do_var (pv 1)) dpa_nil))) (de_var (pv 1))) (da_cons de_int (da_cons (de_neg (do_val de_int)) da_nil)))) (dg_name ⟨S.nd, rfl, .inl rfl, .inr rfl⟩) (dss_one (ds_if (dt_w (dw_and (dt_cmp (c_eq hr) (do_val (de_bin o_mod (do_var (pv 0)) (do_var (pv 2)))) (do_val de_int) (by with_unfolding_all rfl)) (dw_and1 (dt_cmp (c_eq hr) (do_val (de_bin o_mod (do_var (pv 1)) (do_var (pv 2)))) (do_val de_int) (by with_unfolding_all rfl))))) (dss_one (ds_ret (de_tup (da_cons (de_bin o_fdiv (do_var (pv 0)) (do_var (pv 2))) (da_cons (de_bin o_fdiv (do_var (pv 1)) (do_var (pv 2))) da_nil))))) dss_nil)))
  (dss_one (ds_ret (de_tup (da_cons (de_var (pv 0)) (da_cons (de_var (pv 1)) da_nil))))))
/-- _law_clash -/
theorem w19 (c : Hd w K mg base) {n : Nat} (IH : Fam P w K mg base n) : Cal (TT K) P w K mg base (2 * (n + 2)) (He.fAd K ("_law_clash", none)) (f19 (callN n)) := by
  have U : FunD K "_law_clash" "_law_clash" (defArgs (top 26)) (defBody (top 26)) (defScope (top 26)) [] [] _ _ := def_at c 19 rfl
  have S : FnScope ["names", "drawn", "turn", "one", "other"] ["names", "drawn"] (defScope (top 26)) := ⟨rfl, rfl, rfl, by decide +kernel, rfl, by decide +kernel, by decide +kernel⟩
  refine cal_of (n := n + 1) (z := 3) U S rfl (fun _ _ _ _ _ _ us hl => match us, hl with | [_, _], _ => rfl) (fun cdv A outer s H E T' W hT hr tk hp => ?_)
  obtain ⟨γ, rfl⟩ := hT
  have hr2 : Room (2 * (n + 1)) _ := hr.mono (by omega)
  have hrx : Room (1 + 1) _ := hr.mono (by omega)
  exact (dss_cons (ds_asg (de_tup (da_cons de_int (da_cons de_int da_nil))) (dg_tup rfl (dgs_cons (dg_name ⟨S.nd, rfl, .inl rfl, .inr rfl⟩) (dgs_cons (dg_name ⟨S.nd, rfl, .inl rfl, .inr rfl⟩) dgs_nil))))
  (dss_cons (ds_for hp rfl (di_range1 rfl (free_ c (i := 26) rfl) (da_cons (de_var (pv 1)) da_nil)) (dg_name ⟨S.nd, rfl, .inl rfl, .inr rfl⟩) (dss_one (ds_par rfl ⟨S.nd, rfl, .inl rfl, .inr rfl⟩ ⟨S.nd, rfl, .inl rfl, .inr rfl⟩ (da_cons (de_bin o_mul (do_var (pv 3)) (do_val (de_callB (c_max2 rfl) rfl (free_ c (i := 27) rfl) (by with_unfolding_all rfl) (dpa_cons (do_val de_int) (dpa_cons (do_val (de_bin o_sub (do_var (pv 0)) (do_var (pv 2)))) dpa_nil))))) (da_cons (de_bin o_mul (do_var (pv 4)) (do_var (pv 0))) da_nil)))))
  (dss_one (ds_ret (de_tup (da_cons (de_bin o_sub (do_var (pv 4)) (do_var (pv 3))) (da_cons (de_var (pv 4)) da_nil)))))))
/-- _law_refused -/
theorem w20 (c : Hd w K mg base) {n : Nat} (IH : Fam P w K mg base n) : Cal (TT K) P w K mg base (2 * (n + 2)) (He.fAd K ("_law_refused", none)) (f20 (callN n)) := by
  have U : FunD K "_law_refused" "_law_refused" (defArgs (top 27)) (defBody (top 27)) (defScope (top 27)) [] [] _ _ := def_at c 20 rfl
  have S : FnScope ["deed", "fault"] ["deed"] (defScope (top 27)) := ⟨rfl, rfl, rfl, by decide +kernel, rfl, by decide +kernel, by decide +kernel⟩
  refine cal_of (n := n + 1) (z := 1) U S rfl (fun _ _ _ _ _ _ us hl => match us, hl with | [_], _ => rfl) (fun cdv A outer s H E T' W hT hr tk hp => ?_)
  obtain ⟨γ, rfl⟩ := hT
  have hr2 : Room (2 * (n + 1)) _ := hr.mono (by omega)
  have hrx : Room (1 + 1) _ := hr.mono (by omega)
  exact (dss_cons (ds_try rfl rfl S.nd tk (fun W1 pn xe tk1 _ => dss_one (ds_drop (de_lamcall (i := 0) rfl (.inl rfl) tk1 hr (lamsOk c IH)))) (.one (C := 2) rfl rfl ⟨rfl, by decide, .inl (glo_ c (i := 1) rfl)⟩ (ht_cons (exm_ c (i := 35) rfl) (fun z => nomatch z) (ht_cons (exm_ c (i := 34) rfl) (fun _ => rfl) ht_nil)) (.fld (C := 2) (i := 1) rfl (exAll_at c.more 1 rfl).2 (noat_ c (i := 36) rfl) rfl (show List.Nodup (["part"] : List Str) by decide) rfl (.inl rfl) (by decide) (by decide)) (.one (C := 1) rfl rfl ⟨rfl, by decide, .inl (glo_ c (i := 0) rfl)⟩ (ht_cons (exm_ c (i := 32) rfl) (fun _ => rfl) (ht_cons (exm_ c (i := 31) rfl) (fun z => nomatch z) ht_nil)) (.fld (C := 1) (i := 1) rfl (exAll_at c.more 0 rfl).2 (noat_ c (i := 33) rfl) rfl (show List.Nodup (["number"] : List Str) by decide) rfl (.inl rfl) (by decide) (by decide)) HsOk.nil)))
  (dss_one (ds_ret (de_str))))
/-- law -/
theorem wLaw (cX : HdX w K mg base) {n : Nat} (IH : Fam P w K mg base n) : FnD (TT K) P w K mg base (2 * (n + 2) + 1) (He.fAd K ("law", none)) (fdOf K ("law", none)) ["script"] (f21 (callN n)) := by
  have c : Hd w K mg base := cX.toHd
  have ctb := cX.tb ("law", none) (List.mem_singleton.mpr rfl)
  have U : FunD K "law" "law" (defArgs (top 28)) (defBody (top 28)) (defScope (top 28)) [] [] (He.fAd K ("law", none)) (fdOf K ("law", none)) := def_at c 21 rfl
  have U20 : FunD K "_law_refused" "_law_refused" (defArgs (top 27)) (defBody (top 27)) (defScope (top 27)) [] [] (He.fAd K ("_law_refused", none)) (fdOf K ("_law_refused", none)) := def_at c 20 rfl
  have S : FnScope ["script", "draw", "ways", "apart", "rows", "fraction", "many", "good", "turn", "few", "two", "wrong", "names", "drawn", "given", "tried", "least", "way", "one", "other", "deed", "part"] ["script"] (defScope (top 28)) := ⟨rfl, rfl, rfl, by decide +kernel, rfl, by decide +kernel, by decide +kernel⟩
  refine fnd_of (k := 2 * (n + 2)) (z := 21) U S rfl (fun A outer s H E T' W hT hr tk hp => ?_)
  obtain ⟨γ, rfl⟩ := hT
  have hr2 : Room (2 * (n + 1)) _ := hr.mono (by omega)
  have hrx : Room (1 + 1) _ := hr.mono (by omega)
  exact (dss_cell ⟨S.nd, rfl, .inl rfl, .inr rfl⟩ (df_lst (da_cons (de_var (pv 0)) (da_cons de_int da_nil))) (fun _ =>
  (dss_cons (ds_asg (de_tup (da_cons (de_bin o_add (do_val de_int) (do_val (dx_call (i := 16) (call := callN n) (IH.f16.of rfl) hr2 rfl (glo_ c (i := 16) rfl) tk (da_cons (de_var (pv 1)) (da_cons de_int da_nil))))) (da_cons (dx_call (i := 16) (call := callN n) (IH.f16.of rfl) hr2 rfl (glo_ c (i := 16) rfl) tk (da_cons (de_var (pv 1)) (da_cons de_int da_nil))) da_nil))) (dg_tup rfl (dgs_cons (dg_name ⟨S.nd, rfl, .inl rfl, .inr rfl⟩) (dgs_cons (dg_name ⟨S.nd, rfl, .inr rfl, .inl rfl⟩) dgs_nil))))
  (dss_cons (ds_set ⟨S.nd, rfl, .inl rfl, .inr rfl⟩ (dx_call (i := 17) (call := callN n) (IH.f17.of rfl) hr2 rfl (glo_ c (i := 17) rfl) tk (da_cons (de_var (pv 12)) (da_cons (de_var (pv 13)) da_nil))))
  (dss_cons (ds_set ⟨S.nd, rfl, .inl rfl, .inr rfl⟩ (de_callB c_len rfl (free_ c (i := 29) rfl) (by with_unfolding_all rfl) (dpa_cons (do_val (de_fz (df_lc (own := [("way", 17)]) rfl S.nd (dc_seq (do_var (pv 2))) (blkOk_by (by kernel_rfl)) (by decide) (fun _ _ _ _ _ _ => (dg_name ⟨S.nd, rfl, .inl rfl, .inr rfl⟩)) (fun _ _ _ _ _ _ => (dts_one (dt_cmp (c_eq hr) (do_val (de_lenSet rfl rfl (free_ c (i := 29) rfl) rfl (free_ c (i := 37) rfl) (do_var (pv 17)))) (do_var (pv 13)) (by with_unfolding_all rfl)))) (fun _ _ _ _ _ _ => (de_var (pv 17)))))) dpa_nil)))
  (dss_cons (ds_if (dt_w (dw_or (dt_cmp (c_ne hr) (do_val (dx_call (i := 7) (call := callN n) (IH.f7.of rfl) hr2 rfl (glo_ c (i := 7) rfl) tk (da_cons (de_var (pv 12)) (da_cons (de_var (pv 13)) da_nil)))) (do_val (dx_call (i := 18) (call := callN n) (IH.f18.of rfl) hr2 rfl (glo_ c (i := 18) rfl) tk (da_cons (de_var (pv 3)) (da_cons (de_callB c_len rfl (free_ c (i := 29) rfl) (by with_unfolding_all rfl) (dpa_cons (do_var (pv 2)) dpa_nil)) da_nil)))) (by with_unfolding_all rfl)) (dw_or1 (dt_cmp (c_ne hr) (do_val (dx_call (i := 8) (call := callN n) (IH.f8.of rfl) hr2 rfl (glo_ c (i := 8) rfl) tk (da_cons (de_var (pv 12)) (da_cons (de_var (pv 13)) da_nil)))) (do_val (dx_call (i := 18) (call := callN n) (IH.f18.of rfl) hr2 rfl (glo_ c (i := 18) rfl) tk (da_cons (de_bin o_sub (do_val (de_callB c_len rfl (free_ c (i := 29) rfl) (by with_unfolding_all rfl) (dpa_cons (do_var (pv 2)) dpa_nil))) (do_var (pv 3))) (da_cons (de_callB c_len rfl (free_ c (i := 29) rfl) (by with_unfolding_all rfl) (dpa_cons (do_var (pv 2)) dpa_nil)) da_nil)))) (by with_unfolding_all rfl))))) (dss_one (ds_ret de_bl)) dss_nil)
  (dss_cons (ds_if (dt_cmp (c_ne hr) (do_val (dx_call (i := 13) (call := callN n) (IH.f13.of rfl) hr2 rfl (glo_ c (i := 13) rfl) tk (da_cons (de_var (pv 12)) (da_cons (de_var (pv 13)) da_nil)))) (do_val (dx_call (i := 18) (call := callN n) (IH.f18.of rfl) hr2 rfl (glo_ c (i := 18) rfl) tk (da_cons (de_callB (c_sum rfl) rfl (free_ c (i := 38) rfl) (by with_unfolding_all rfl) (dpa_cons (do_val (de_fz (df_lc (own := [("way", 17)]) rfl S.nd (dc_seq (do_var (pv 2))) (blkOk_by (by kernel_rfl)) (by decide) (fun _ _ _ _ _ _ => (dg_name ⟨S.nd, rfl, .inl rfl, .inr rfl⟩)) (fun _ _ _ _ _ _ => dts_nil) (fun _ _ _ _ _ _ => (de_lenSet rfl rfl (free_ c (i := 29) rfl) rfl (free_ c (i := 37) rfl) (do_var (pv 17))))))) dpa_nil)) (da_cons (de_callB c_len rfl (free_ c (i := 29) rfl) (by with_unfolding_all rfl) (dpa_cons (do_var (pv 2)) dpa_nil)) da_nil)))) (by with_unfolding_all rfl)) (dss_one (ds_ret de_bl)) dss_nil)
  (dss_cons (ds_asg (de_tup (da_cons (dx_call (i := 16) (call := callN n) (IH.f16.of rfl) hr2 rfl (glo_ c (i := 16) rfl) tk (da_cons (de_var (pv 1)) (da_cons (de_bin o_add (do_var (pv 12)) (do_val de_int)) da_nil))) (da_cons (dx_call (i := 16) (call := callN n) (IH.f16.of rfl) hr2 rfl (glo_ c (i := 16) rfl) tk (da_cons (de_var (pv 1)) (da_cons (de_bin o_add (do_val (de_callB (c_min2 rfl) rfl (free_ c (i := 30) rfl) (by with_unfolding_all rfl) (dpa_cons (do_var (pv 12)) (dpa_cons (do_val de_int) dpa_nil)))) (do_val de_int)) da_nil))) da_nil))) (dg_tup rfl (dgs_cons (dg_name ⟨S.nd, rfl, .inr rfl, .inl rfl⟩) (dgs_cons (dg_name ⟨S.nd, rfl, .inr rfl, .inl rfl⟩) dgs_nil))))
  (dss_cons (ds_setLc (own := [("way", 17)]) rfl ⟨S.nd, rfl, .inl rfl, .inr rfl⟩ rfl (by rfl) (dc_seq (do_val (dx_call (i := 17) (call := callN n) (IH.f17.of rfl) hr2 rfl (glo_ c (i := 17) rfl) tk (da_cons (de_var (pv 12)) (da_cons (de_var (pv 15)) da_nil))))) (blkOk_by (by kernel_rfl)) (by decide) (fun _ _ _ _ _ _ => (dg_name ⟨S.nd, rfl, .inl rfl, .inr rfl⟩)) (fun _ _ _ _ _ _ => (dts_one (dt_cmp (c_eq hr) (do_val (de_lenSet rfl rfl (free_ c (i := 29) rfl) rfl (free_ c (i := 37) rfl) (do_var (pv 17)))) (do_var (pv 15)) (by with_unfolding_all rfl)))) (fun _ _ _ _ _ _ => (de_var (pv 17))))
  (dss_cons (ds_if (dt_cmp (c_ne hr) (do_val (dx_call (i := 14) (call := callN n) (IH.f14.of rfl) hr2 rfl (glo_ c (i := 14) rfl) tk (da_cons (de_var (pv 12)) (da_cons (de_var (pv 14)) (da_cons (de_var (pv 15)) da_nil))))) (do_val (dx_call (i := 18) (call := callN n) (IH.f18.of rfl) hr2 rfl (glo_ c (i := 18) rfl) tk (da_cons (de_callB c_len rfl (free_ c (i := 29) rfl) (by with_unfolding_all rfl) (dpa_cons (do_val (de_fz (df_lc (own := [("way", 17)]) rfl S.nd (dc_seq (do_var (pv 4))) (blkOk_by (by kernel_rfl)) (by decide) (fun _ _ _ _ _ _ => (dg_name ⟨S.nd, rfl, .inl rfl, .inr rfl⟩)) (fun _ _ _ _ _ _ => (dts_one (dt_truth (do_val (de_callB (c_any rfl) rfl (free_ c (i := 39) rfl) (by with_unfolding_all rfl) (dpa_cons (do_val (de_fz (df_lc (own := [("one", 18)]) rfl S.nd (dc_seq (do_var (pv 17))) (blkOk_by (by kernel_rfl)) (by decide) (fun _ _ _ _ _ _ => (dg_name ⟨S.nd, rfl, .inl rfl, .inr rfl⟩)) (fun _ _ _ _ _ _ => dts_nil) (fun _ _ _ _ _ _ => (de_cmp (c_lt hr) (do_var (pv 18)) (do_var (pv 14)) (by with_unfolding_all rfl)))))) dpa_nil)))))) (fun _ _ _ _ _ _ => (de_var (pv 17)))))) dpa_nil)) (da_cons (de_callB c_len rfl (free_ c (i := 29) rfl) (by with_unfolding_all rfl) (dpa_cons (do_var (pv 4)) dpa_nil)) da_nil)))) (by with_unfolding_all rfl)) (dss_one (ds_ret de_bl)) dss_nil)
  (dss_cons (ds_set ⟨S.nd, rfl, .inr rfl, .inl rfl⟩ (de_tup (da_cons (dx_call (i := 16) (call := callN n) (IH.f16.of rfl) hr2 rfl (glo_ c (i := 16) rfl) tk (da_cons (de_var (pv 1)) (da_cons de_int da_nil))) (da_cons (de_bin o_add (do_val de_int) (do_val (dx_call (i := 16) (call := callN n) (IH.f16.of rfl) hr2 rfl (glo_ c (i := 16) rfl) tk (da_cons (de_var (pv 1)) (da_cons de_int da_nil))))) da_nil))))
  (dss_cons (ds_set ⟨S.nd, rfl, .inr rfl, .inl rfl⟩ (de_tup (da_cons (de_callB (c_min1 hr rfl) rfl (free_ c (i := 30) rfl) (by with_unfolding_all rfl) (dpa_cons (do_var (pv 5)) dpa_nil)) (da_cons (de_callB (c_max1 hr rfl) rfl (free_ c (i := 27) rfl) (by with_unfolding_all rfl) (dpa_cons (do_var (pv 5)) dpa_nil)) da_nil))))
  (dss_cons (ds_set ⟨S.nd, rfl, .inl rfl, .inr rfl⟩ (de_bin o_add (do_val de_int) (do_val (dx_call (i := 16) (call := callN n) (IH.f16.of rfl) hr2 rfl (glo_ c (i := 16) rfl) tk (da_cons (de_var (pv 1)) (da_cons de_int da_nil))))))
  (dss_cons (ds_setO ⟨S.nd, rfl, .inl rfl, .inr rfl⟩ (df_lst da_nil))
  (dss_cons (ds_for hp rfl (di_range1 rfl (free_ c (i := 26) rfl) (da_cons de_int da_nil)) (dg_name ⟨S.nd, rfl, .inl rfl, .inr rfl⟩) (dss_cons (ds_asg (dx_call (i := 19) (call := callN n) (IH.f19.of rfl) hr2 rfl (glo_ c (i := 19) rfl) tk (da_cons (de_var (pv 6)) (da_cons (de_var (pv 8)) da_nil))) (dg_tup rfl (dgs_cons (dg_name ⟨S.nd, rfl, .inl rfl, .inr rfl⟩) (dgs_cons (dg_name ⟨S.nd, rfl, .inl rfl, .inr rfl⟩) dgs_nil))))
  (dss_one (ds_if (dt_cmp (c_le hr) (do_val (de_bin o_mul (do_var (pv 18)) (do_val (de_ixS hr (do_var (pv 5)) (do_val de_int))))) (do_val (de_bin o_mul (do_val (de_ixS hr (do_var (pv 5)) (do_val de_int))) (do_var (pv 19)))) (by with_unfolding_all rfl)) (dss_one (ds_app (pv 7) (de_var (pv 8)))) dss_nil))))
  (dss_cons (ds_if (dt_w (dw_or (dt_cmp (c_ne hr) (do_val (dx_call (i := 11) (call := callN n) (IH.f11.of rfl) hr2 rfl (glo_ c (i := 11) rfl) tk (da_cons (de_var (pv 6)) (da_cons (de_var (pv 5)) da_nil)))) (do_val (de_if (dt_cmp (c_lt hr) (do_val (de_callB c_len rfl (free_ c (i := 29) rfl) (by with_unfolding_all rfl) (dpa_cons (do_var (pv 7)) dpa_nil))) (do_val de_int) (by with_unfolding_all rfl)) (de_callB (c_max1 hr rfl) rfl (free_ c (i := 27) rfl) (by with_unfolding_all rfl) (dpa_cons (do_var (pv 7)) dpa_nil)) de_non)) (by with_unfolding_all rfl)) (dw_or1 (dt_cmp (c_ne hr) (do_var (pv 7)) (do_val (de_fz (df_rg1 rfl rfl (free_ c (i := 40) rfl) rfl (free_ c (i := 26) rfl) (de_callB c_len rfl (free_ c (i := 29) rfl) (by with_unfolding_all rfl) (dpa_cons (do_var (pv 7)) dpa_nil))))) (by with_unfolding_all rfl))))) (dss_one (ds_ret de_bl)) dss_nil)
  (dss_cons (ds_set ⟨S.nd, rfl, .inr rfl, .inl rfl⟩ (dx_call (i := 16) (call := callN n) (IH.f16.of rfl) hr2 rfl (glo_ c (i := 16) rfl) tk (da_cons (de_var (pv 1)) (da_cons de_int da_nil))))
  (dss_cons (ds_if (dt_w (dw_and (dt_cmp (c_gt hr) (do_var (pv 9)) (do_val de_int) (by with_unfolding_all rfl)) (dw_and1 (dt_cmp (c_eq hr) (do_val (de_ixS hr (do_var (pv 5)) (do_val de_int))) (do_val de_int) (by with_unfolding_all rfl))))) (dss_one (ds_if (dt_cmp (c_ne hr) (do_val (de_ref (Ng := ["deed", "fault"]) rfl (glo_ c (i := 20) rfl) (U20).kp (ask20 c (U20) rfl rfl rfl rfl) ctb rfl (List.mem_singleton.mpr rfl) rfl hr (LamX.lamS_by (by kernel_rfl)) rfl (fun _ _ _ _ _ => rfl) (fun A outer s H E f c1 B hrl tkl => (dx_call (i := 12) (call := callN n) (IH.f12.of rfl) hrl rfl (glo_ c (i := 12) rfl) tkl (da_cons (de_var (pv 9)) (da_cons (de_var (pv 5)) da_nil)))))) (do_var (pv 9)) (by with_unfolding_all rfl)) (dss_one (ds_ret de_bl)) dss_nil)) (dss_cons (ds_set ⟨S.nd, rfl, .inl rfl, .inr rfl⟩ (dx_call (i := 12) (call := callN n) (IH.f12.of rfl) hr2 rfl (glo_ c (i := 12) rfl) tk (da_cons (de_var (pv 9)) (da_cons (de_var (pv 5)) da_nil))))
  (dss_cons (ds_asg (dx_call (i := 19) (call := callN n) (IH.f19.of rfl) hr2 rfl (glo_ c (i := 19) rfl) tk (da_cons (de_var (pv 16)) (da_cons (de_var (pv 9)) da_nil))) (dg_tup rfl (dgs_cons (dg_name ⟨S.nd, rfl, .inl rfl, .inr rfl⟩) (dgs_cons (dg_name ⟨S.nd, rfl, .inl rfl, .inr rfl⟩) dgs_nil))))
  (dss_cons (ds_if (dt_cmp (c_gt hr) (do_val (de_bin o_mul (do_var (pv 18)) (do_val (de_ixS hr (do_var (pv 5)) (do_val de_int))))) (do_val (de_bin o_mul (do_val (de_ixS hr (do_var (pv 5)) (do_val de_int))) (do_var (pv 19)))) (by with_unfolding_all rfl)) (dss_one (ds_ret de_bl)) dss_nil)
  (dss_one (ds_if (dt_cmp (c_gt hr) (do_var (pv 16)) (do_val de_int) (by with_unfolding_all rfl)) (dss_cons (ds_asg (dx_call (i := 19) (call := callN n) (IH.f19.of rfl) hr2 rfl (glo_ c (i := 19) rfl) tk (da_cons (de_bin o_sub (do_var (pv 16)) (do_val de_int)) (da_cons (de_var (pv 9)) da_nil))) (dg_tup rfl (dgs_cons (dg_name ⟨S.nd, rfl, .inl rfl, .inr rfl⟩) (dgs_cons (dg_name ⟨S.nd, rfl, .inl rfl, .inr rfl⟩) dgs_nil))))
  (dss_one (ds_if (dt_cmp (c_le hr) (do_val (de_bin o_mul (do_var (pv 18)) (do_val (de_ixS hr (do_var (pv 5)) (do_val de_int))))) (do_val (de_bin o_mul (do_val (de_ixS hr (do_var (pv 5)) (do_val de_int))) (do_var (pv 19)))) (by with_unfolding_all rfl)) (dss_one (ds_ret de_bl)) dss_nil))) dss_nil))))))
  (dss_cons (ds_set ⟨S.nd, rfl, .inl rfl, .inr rfl⟩ (de_tup (da_cons (dx_call (i := 16) (call := callN n) (IH.f16.of rfl) hr2 rfl (glo_ c (i := 16) rfl) tk (da_cons (de_var (pv 1)) (da_cons de_int da_nil))) (da_cons (de_bin o_add (do_val de_int) (do_val (dx_call (i := 16) (call := callN n) (IH.f16.of rfl) hr2 rfl (glo_ c (i := 16) rfl) tk (da_cons (de_var (pv 1)) (da_cons de_int da_nil))))) da_nil))))
  (dss_cons (ds_if (dt_w (dw_or (dt_cmp (c_ne hr) (do_val (dx_call (i := 10) (call := callN n) (IH.f10.of rfl) hr2 rfl (glo_ c (i := 10) rfl) tk (da_cons (de_var (pv 5)) (da_cons (de_var (pv 10)) da_nil)))) (do_val (de_cmp (c_lt hr) (do_val (de_bin o_mul (do_val (de_ixS hr (do_var (pv 5)) (do_val de_int))) (do_val (de_ixS hr (do_var (pv 10)) (do_val de_int))))) (do_val (de_bin o_mul (do_val (de_ixS hr (do_var (pv 10)) (do_val de_int))) (do_val (de_ixS hr (do_var (pv 5)) (do_val de_int))))) (by with_unfolding_all rfl))) (by with_unfolding_all rfl)) (dw_or1 (dt_cmp (c_ne hr) (do_val (dx_call (i := 6) (call := callN n) (IH.f6.of rfl) hr2 rfl (glo_ c (i := 6) rfl) tk (da_cons (de_bin o_mul (do_val de_int) (do_val (de_ixS hr (do_var (pv 10)) (do_val de_int)))) (da_cons (de_bin o_mul (do_val de_int) (do_val (de_ixS hr (do_var (pv 10)) (do_val de_int)))) da_nil)))) (do_val (dx_call (i := 6) (call := callN n) (IH.f6.of rfl) hr2 rfl (glo_ c (i := 6) rfl) tk (da_cons (de_ixS hr (do_var (pv 10)) (do_val de_int)) (da_cons (de_ixS hr (do_var (pv 10)) (do_val de_int)) da_nil)))) (by with_unfolding_all rfl))))) (dss_one (ds_ret de_bl)) dss_nil)
  (dss_cons (ds_set ⟨S.nd, rfl, .inl rfl, .inr rfl⟩ (de_fz (df_lst (da_cons (de_tup (da_cons (de_lam ctb rfl rfl rfl (List.mem_singleton.mpr rfl) rfl rfl (fun _ => rfl) (by decide +kernel)) (da_cons (de_str) da_nil))) (da_cons (de_tup (da_cons (de_lam ctb rfl rfl rfl (List.mem_singleton.mpr rfl) rfl rfl (fun _ => rfl) (by decide +kernel)) (da_cons (de_str) da_nil))) (da_cons (de_tup (da_cons (de_lam ctb rfl rfl rfl (List.mem_singleton.mpr rfl) rfl rfl (fun _ => rfl) (by decide +kernel)) (da_cons (de_str) da_nil))) (da_cons (de_tup (da_cons (de_lam ctb rfl rfl rfl (List.mem_singleton.mpr rfl) rfl rfl (fun _ => rfl) (by decide +kernel)) (da_cons (de_str) da_nil))) (da_cons (de_tup (da_cons (de_lam ctb rfl rfl rfl (List.mem_singleton.mpr rfl) rfl rfl (fun _ => rfl) (by decide +kernel)) (da_cons (de_str) da_nil))) (da_cons (de_tup (da_cons (de_lam ctb rfl rfl rfl (List.mem_singleton.mpr rfl) rfl rfl (fun _ => rfl) (by decide +kernel)) (da_cons (de_str) da_nil))) (da_cons (de_tup (da_cons (de_lam ctb rfl rfl rfl (List.mem_singleton.mpr rfl) rfl rfl (fun _ => rfl) (by decide +kernel)) (da_cons (de_str) da_nil))) (da_cons (de_tup (da_cons (de_lam ctb rfl rfl rfl (List.mem_singleton.mpr rfl) rfl rfl (fun _ => rfl) (by decide +kernel)) (da_cons (de_str) da_nil))) (da_cons (de_tup (da_cons (de_lam ctb rfl rfl rfl (List.mem_singleton.mpr rfl) rfl rfl (fun _ => rfl) (by decide +kernel)) (da_cons (de_str) da_nil))) (da_cons (de_tup (da_cons (de_lam ctb rfl rfl rfl (List.mem_singleton.mpr rfl) rfl rfl (fun _ => rfl) (by decide +kernel)) (da_cons (de_str) da_nil))) da_nil)))))))))))))
  (dss_one (ds_ret (de_callB (c_all rfl) rfl (free_ c (i := 41) rfl) (by with_unfolding_all rfl) (dpa_cons (do_val (de_fz (df_lc (own := [("deed", 20), ("part", 21)]) rfl S.nd (dc_seq (do_var (pv 11))) (blkOk_by (by kernel_rfl)) (by decide) (fun _ _ _ _ _ _ => (dg_tup rfl (dgs_cons (dg_name ⟨S.nd, rfl, .inl rfl, .inr rfl⟩) (dgs_cons (dg_name ⟨S.nd, rfl, .inl rfl, .inr rfl⟩) dgs_nil)))) (fun _ _ _ _ _ _ => dts_nil) (fun _ _ _ _ _ _ => (de_cmp (c_eq hr) (do_val (dx_call (i := 20) (call := callN n) (IH.f20.of rfl) hr2 rfl (glo_ c (i := 20) rfl) DS.takes0 (da_cons (de_var (pv 20)) da_nil))) (do_var (pv 21)) (by with_unfolding_all rfl)))))) dpa_nil)))))))))))))))))))))))))
theorem fam (c : Hd w K mg base) : ∀ n, Fam P w K mg base n
  | 0 => ⟨cal_bad (ps := ["thing"]) (show FunD K "is_integer" "is_integer" (defArgs (top 4)) (defBody (top 4)) (defScope (top 4)) [] [] _ _ from def_at c 1 rfl) (fun _ _ _ _ _ _ us hl => match us, hl with | [_], _ => rfl), cal_bad (ps := ["thing", "least", "most"]) (show FunD K "is_number" "is_number" (defArgs (top 5)) (defBody (top 5)) (defScope (top 5)) [] [] _ _ from def_at c 2 rfl) (fun _ _ _ _ _ _ us hl => match us, hl with | [_, _, _], _ => rfl), cal_bad (ps := ["one", "other"]) (show FunD K "common" "common" (defArgs (top 7)) (defBody (top 7)) (defScope (top 7)) [] [] _ _ from def_at c 3 rfl) (fun _ _ _ _ _ _ us hl => match us, hl with | [_, _], _ => rfl), cal_bad (ps := ["names", "drawn"]) (show FunD K "check_odds" "check_odds" (defArgs (top 11)) (defBody (top 11)) (defScope (top 11)) [] [] _ _ from def_at c 5 rfl) (fun _ _ _ _ _ _ us hl => match us, hl with | [_, _], _ => rfl), cal_bad (ps := ["one", "other"]) (show FunD K "lowest" "lowest" (defArgs (top 12)) (defBody (top 12)) (defScope (top 12)) [] [] _ _ from def_at c 6 rfl) (fun _ _ _ _ _ _ us hl => match us, hl with | [_, _], _ => rfl), cal_bad (ps := ["names", "drawn"]) (show FunD K "apart_odds" "apart_odds" (defArgs (top 13)) (defBody (top 13)) (defScope (top 13)) [] [] _ _ from def_at c 7 rfl) (fun _ _ _ _ _ _ us hl => match us, hl with | [_, _], _ => rfl), cal_bad (ps := ["names", "drawn"]) (show FunD K "clash_odds" "clash_odds" (defArgs (top 14)) (defBody (top 14)) (defScope (top 14)) [] [] _ _ from def_at c 8 rfl) (fun _ _ _ _ _ _ us hl => match us, hl with | [_, _], _ => rfl), cal_bad (ps := ["fraction"]) (show FunD K "check_fraction" "check_fraction" (defArgs (top 15)) (defBody (top 15)) (defScope (top 15)) [] [] _ _ from def_at c 9 rfl) (fun _ _ _ _ _ _ us hl => match us, hl with | [_], _ => rfl), cal_bad (ps := ["one", "other"]) (show FunD K "is_less" "is_less" (defArgs (top 16)) (defBody (top 16)) (defScope (top 16)) [] [] _ _ from def_at c 10 rfl) (fun _ _ _ _ _ _ us hl => match us, hl with | [_, _], _ => rfl), cal_bad (ps := ["names", "fraction"]) (show FunD K "most_drawn" "most_drawn" (defArgs (top 17)) (defBody (top 17)) (defScope (top 17)) [] [] _ _ from def_at c 11 rfl) (fun _ _ _ _ _ _ us hl => match us, hl with | [_, _], _ => rfl), cal_bad (ps := ["drawn", "fraction"]) (show FunD K "least_names" "least_names" (defArgs (top 18)) (defBody (top 18)) (defScope (top 18)) [] [] _ _ from def_at c 12 rfl) (fun _ _ _ _ _ _ us hl => match us, hl with | [_, _], _ => rfl), cal_bad (ps := ["names", "drawn"]) (show FunD K "expected_unlike" "expected_unlike" (defArgs (top 19)) (defBody (top 19)) (defScope (top 19)) [] [] _ _ from def_at c 13 rfl) (fun _ _ _ _ _ _ us hl => match us, hl with | [_, _], _ => rfl), cal_bad (ps := ["names", "given", "tried"]) (show FunD K "seen_odds" "seen_odds" (defArgs (top 20)) (defBody (top 20)) (defScope (top 20)) [] [] _ _ from def_at c 14 rfl) (fun _ _ _ _ _ _ us hl => match us, hl with | [_, _, _], _ => rfl), cal_bad (ps := ["script", "index"]) (show FunD K "_law_number" "_law_number" (defArgs (top 22)) (defBody (top 22)) (defScope (top 22)) [] [] _ _ from def_at c 15 rfl) (fun _ _ _ _ _ _ us hl => match us, hl with | [_, _], _ => rfl), cal_bad (ps := ["draw", "many"]) (show FunD K "_law_take" "_law_take" (defArgs (top 23)) (defBody (top 23)) (defScope (top 23)) [] [] _ _ from def_at c 16 rfl) (fun _ _ _ _ _ _ us hl => match us, hl with | [_, _], _ => rfl), cal_bad (ps := ["names", "drawn"]) (show FunD K "_law_ways" "_law_ways" (defArgs (top 24)) (defBody (top 24)) (defScope (top 24)) [] [] _ _ from def_at c 17 rfl) (fun _ _ _ _ _ _ us hl => match us, hl with | [_, _], _ => rfl), cal_bad (ps := ["one", "other"]) (show FunD K "_law_low" "_law_low" (defArgs (top 25)) (defBody (top 25)) (defScope (top 25)) [] [] _ _ from def_at c 18 rfl) (fun _ _ _ _ _ _ us hl => match us, hl with | [_, _], _ => rfl), cal_bad (ps := ["names", "drawn"]) (show FunD K "_law_clash" "_law_clash" (defArgs (top 26)) (defBody (top 26)) (defScope (top 26)) [] [] _ _ from def_at c 19 rfl) (fun _ _ _ _ _ _ us hl => match us, hl with | [_, _], _ => rfl), cal_bad (ps := ["deed"]) (show FunD K "_law_refused" "_law_refused" (defArgs (top 27)) (defBody (top 27)) (defScope (top 27)) [] [] _ _ from def_at c 20 rfl) (fun _ _ _ _ _ _ us hl => match us, hl with | [_], _ => rfl)⟩
  | n + 1 => let IH := fam c n; ⟨w1 c IH, w2 c IH, w3 c IH, w5 c IH, w6 c IH, w7 c IH, w8 c IH, w9 c IH, w10 c IH, w11 c IH, w12 c IH, w13 c IH, w14 c IH, w15 c IH, w16 c IH, w17 c IH, w18 c IH, w19 c IH, w20 c IH⟩
end
end G12
end

section
set_option Elab.async false
set_option linter.all false
set_option maxRecDepth 100000
set_option maxHeartbeats 0
namespace G12
open PySem PySem.Spec PyProof.Rows L2
abbrev R : PySem.W.OpenRow := PySem.W.OpenLaw.row PySem.Challenge.rw_shortnames_k12_whole_odds
abbrev hk : PySem.W.Hook := He.hookX 5 fa fn [] tf ex
def ob (s : PySem.W.SharedT) : He.AlX := He.obsX 5 fa fn [] tf ex (HandSHeadRun.getT s)
theorem ob_eq (s : PySem.W.SharedT) : ob s = hk.obs s.abs := He.obsX_eq (HandSHeadRun.getT_eq s)
def loose : List PySem.Str := (["__name__", "NamesError", "TooLarge", "is_integer", "is_number", "common", "MOST_DRAWN", "BadOdds", "check_odds", "lowest", "apart_odds", "clash_odds", "check_fraction", "is_less", "most_drawn", "least_names", "expected_unlike", "seen_odds", "_law_number", "_law_take", "_law_ways", "_law_low", "_law_clash", "_law_refused"] : List PySem.Str)
theorem run (w : World) : HandSHeadRun.RunEq R (PySem.W.view R.prog [28]) hk ob 20000 loose w := by
  intro os
  kernel_rfl
end G12
end

section
set_option Elab.async false
set_option linter.all false
set_option maxRecDepth 100000
set_option maxHeartbeats 0
open PySem PySem.W PySem.Calls PyProof.Rows
theorem PySem.Challenge.cw_shortnames_k12_whole_odds_holds : PySem.Challenge.rw_shortnames_k12_whole_odds.Holds := by
  w_on; o_law
  refine HandSHeadRun.head_any (r := OpenLaw.row PySem.Challenge.rw_shortnames_k12_whole_odds) (q := view (OpenLaw.row PySem.Challenge.rw_shortnames_k12_whole_odds).prog [28]) (H := G12.hk) (ob := G12.ob) (M := 20000) (loose := G12.loose) (d := HandSHeadRun.topDef (OpenLaw.row PySem.Challenge.rw_shortnames_k12_whole_odds).prog 28) (kwd := []) G12.ob_eq
    (by kernel_rfl) (fun s => by kernel_rfl) G12.run (by kernel_rfl) (by kernel_rfl) (by kernel_rfl) (by rfl) (by first | assumption | decide +kernel) (by decide +kernel) ⟨rfl, rfl, rfl, rfl, rfl, by decide +kernel⟩ ?hw ?hc
  case hw => w_witness2
  case hc =>
    exact DS.walk_law (l := PySem.Challenge.rw_shortnames_k12_whole_odds) (n := 63) (k := 2 * (G12.depth + 2) + 1) (x := "script") (G := G12.f21 (G12.callN G12.depth)) (TT := G12.TT) (i := 21) (j := 21) rfl (by decide) (by kernel_rfl) ⟨rfl, by decide, by decide⟩ (by kernel_rfl) rfl rfl rfl (fun _ _ _ _ _ _ us hl => match us, hl with | [_], _ => rfl) (fun K h => DS.exAll_lst h) (fun _ => rfl) (fun _ => rfl) (fun w K mg base c => G12.wLaw c (G12.fam c.toHd G12.depth)) G12.plain
end
