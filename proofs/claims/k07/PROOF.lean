import PyProof.Rows.All
import Wide.All
import OpenK.AllK
import Wide.FinOn
import HandS.ForMost
import HandS.ForExc
import HandS.Lambda
import KE.DataCmp
import KE.DataEq
import HandS.TupAny
import HandS.Style
import HandS.DictComp
import HandS.TupLen
import KE.SortData
import HandS.ExcOwn
import HandS.NoneIn
import HandS.FStr
import HandS.Deep
import HandS.SetFor
import HandS.Comp
import HandS.WordsExc
import HandS.AnyAll
import HandS.GenYield
import HandS.GenList
import PyProof.ConsumeS
import PyProof.TupleOfGen
import HandS.Iter
import HandS.HeadHook4
import HandS.HeadWalk
import HandS.HeadEnd
import HandS.Head0
import HandS.Head1
import HandS.Head2
import HandS.Defaults
import PyProof.ExcBaseAll.ValueError
import PyProof.TableCode
import PySem.Challenge.RW_pollstack_k07_stations_that_come_out_eve
set_option Elab.async false
set_option linter.all false
/-! Pk0: values, the small heap, and the code that a def is: combinators. -/
namespace Pk
open PySem (Str)

inductive Val where
  | non | bl (b : Bool) | int (i : Int) | str (x : Str)
  | tup (xs : List Val) | lst (xs : List Val) | dct (kvs : List (Val × Val))
  | ref (id : Nat) | lam (k : Nat)
  deriving Inhabited

mutual
def Val.beq : Val → Val → Bool
  | .non, .non => true
  | .bl a, .bl b => a == b
  | .int a, .int b => decide (a = b)
  | .str a, .str b => decide (a = b)
  | .tup a, .tup b => beqs a b
  | .lst a, .lst b => beqs a b
  | .dct a, .dct b => beqp a b
  | .ref a, .ref b => a == b
  | .lam a, .lam b => a == b
  | _, _ => false
def beqs : List Val → List Val → Bool
  | [], [] => true
  | a :: as, b :: bs => Val.beq a b && beqs as bs
  | _, _ => false
def beqp : List (Val × Val) → List (Val × Val) → Bool
  | [], [] => true
  | (a, c) :: as, (b, d) :: bs => Val.beq a b && Val.beq c d && beqp as bs
  | _, _ => false
end

/-! data without dicts: none, bools, ints, texts, tuples, lists -/
mutual
def Val.data : Val → Bool
  | .non => true
  | .bl _ => true
  | .int _ => true
  | .str _ => true
  | .tup xs => datas xs
  | .lst xs => datas xs
  | .dct _ => false
  | .ref _ => false
  | .lam _ => false
def datas : List Val → Bool
  | [] => true
  | x :: xs => Val.data x && datas xs
end
mutual
def Val.dep : Val → Nat
  | .tup xs => deps xs + 1
  | .lst xs => deps xs + 1
  | .non => 0
  | .bl _ => 0
  | .int _ => 0
  | .str _ => 0
  | .dct _ => 0
  | .ref _ => 0
  | .lam _ => 0
def deps : List Val → Nat
  | [] => 0
  | x :: xs => max (Val.dep x) (deps xs)
end
def b2z (b : Bool) : Int := if b then 1 else 0
/-! == of data -/
mutual
def Val.eqv : Val → Val → Bool
  | .non, .non => true
  | .bl a, .bl b => a == b
  | .bl a, .int j => b2z a == j
  | .int i, .bl b => i == b2z b
  | .int i, .int j => i == j
  | .str x, .str y => x == y
  | .tup a, .tup b => eqvs a b
  | .lst a, .lst b => eqvs a b
  | _, _ => false
def eqvs : List Val → List Val → Bool
  | [], [] => true
  | a :: as, b :: bs => Val.eqv a b && eqvs as bs
  | _, _ => false
end
/-! alike: < may be asked -/
mutual
def Val.alike : Val → Val → Bool
  | .bl _, .bl _ => true
  | .int _, .int _ => true
  | .str _, .str _ => true
  | .tup a, .tup b => alikes a b
  | .lst a, .lst b => alikes a b
  | _, _ => false
def alikes : List Val → List Val → Bool
  | [], _ => true
  | _, [] => true
  | a :: as, b :: bs => Val.alike a b && alikes as bs
end
mutual
def Val.lt : Val → Val → Bool
  | .bl a, .bl b => decide (b2z a < b2z b)
  | .int a, .int b => decide (a < b)
  | .str a, .str b => decide (a.cps.toList < b.cps.toList)
  | .tup a, .tup b => lts a b
  | .lst a, .lst b => lts a b
  | _, _ => false
def lts : List Val → List Val → Bool
  | [], [] => false
  | [], _ :: _ => true
  | _ :: _, [] => false
  | a :: as, b :: bs => if Val.eqv a b then lts as bs else Val.lt a b
end

inductive Ob where
  | lst (lk : Nat) (xs : List Val)
  | dct (lk : Nat) (kvs : List (Val × Val))
  | ins (c : Nat) (fs : List (Nat × Val))
  deriving Inhabited
abbrev Hv := List Ob
inductive Sl where
  | no | val (v : Val) | acl (lk : Nat) (xs : List Val) | acd (lk : Nat) (kvs : List (Val × Val))
  deriving Inhabited
abbrev Fr := List Sl
inductive Res (α : Type) where
  | ok (a : α) (h : Hv) | exc (c : Nat) (h : Hv) | bad
  deriving Inhabited
def Res.bind {α β : Type} : Res α → (α → Hv → Res β) → Res β
  | .ok a h, f => f a h
  | .exc c h, _ => .exc c h
  | .bad, _ => .bad
/-- no exception may come -/
def Res.calm {α : Type} : Res α → Res α
  | .ok a h => .ok a h
  | _ => .bad
/-- what a container holds -/
inductive Cont where
  | l (xs : List Val) | d (kvs : List (Val × Val))
  deriving Inhabited
abbrev C := Fr → Hv → Res Val
abbrev CF := Fr → Hv → Res Cont
abbrev CL := Fr → Hv → Res (List Val)
/-- a source that is walked: its items, the object that is locked meanwhile -/
abbrev CI := Fr → Hv → Res (List Val × Option Nat)
inductive Out where
  | nx (fr : Fr) | rt (v : Val) | bk (fr : Fr)
  deriving Inhabited
abbrev CS := Fr → Hv → Res Out

def big : Nat := 1000000

/-! ### names, constants, making -/
def cK (v : Val) : C := fun _ h => .ok v h
def cV (i : Nat) : C := fun fr h => match fr[i]? with
  | some (.val v) => .ok v h
  | _ => .bad
/-- an own container, looked at -/
def cA (i : Nat) : C := fun fr h => match fr[i]? with
  | some (.acl _ xs) => .ok (.lst xs) h
  | some (.acd _ kvs) => .ok (.dct kvs) h
  | _ => .bad
def cs0 : CL := fun _ h => .ok [] h
def csC (a : C) (r : CL) : CL := fun fr h => (a fr h).bind fun x h1 => (r fr h1).bind fun xs h2 => .ok (x :: xs) h2
def cTup (r : CL) : C := fun fr h => (r fr h).bind fun xs h1 => if xs.length ≤ big then .ok (.tup xs) h1 else .bad
def fLst (r : CL) : CF := fun fr h => (r fr h).bind fun xs h1 => if xs.length ≤ big then .ok (.l xs) h1 else .bad
def dget (kvs : List (Val × Val)) (k : Val) : Option Val := (kvs.find? fun p => Val.beq p.1 k).map (·.2)
def dput (kvs : List (Val × Val)) (k v : Val) : List (Val × Val) :=
  if kvs.any fun p => Val.beq p.1 k then kvs.map fun p => if Val.beq p.1 k then (p.1, v) else p else kvs ++ [(k, v)]
def ddel (kvs : List (Val × Val)) (k : Val) : List (Val × Val) := kvs.filter fun p => !Val.beq p.1 k
/-- a key: an int or a text -/
def Val.leafK : Val → Bool
  | .int _ => true
  | .str _ => true
  | _ => false
/-- a key that is a flat tuple -/
def Val.tupK : Val → Bool
  | .tup xs => xs.all Val.leafK
  | _ => false
/-- keys of one kind -/
def keyOk (kvs : List (Val × Val)) (k : Val) : Bool :=
  (k.leafK && kvs.all (·.1.leafK)) || (k.tupK && kvs.all (·.1.tupK))
def fDct : List (C × C) → CF
  | ps => fun fr h => go ps [] fr h
where
  go : List (C × C) → List (Val × Val) → Fr → Hv → Res Cont
    | [], acc, _, h => .ok (.d acc) h
    | (a, b) :: r, acc, fr, h => (a fr h).bind fun k h1 => (b fr h1).bind fun v h2 => if keyOk acc k then go r (dput acc k v) fr h2 else .bad
def Cont.val : Cont → Val
  | .l xs => .lst xs
  | .d kvs => .dct kvs
def Cont.ob : Cont → Ob
  | .l xs => .lst 0 xs
  | .d kvs => .dct 0 kvs
def Cont.sl : Cont → Sl
  | .l xs => .acl 0 xs
  | .d kvs => .acd 0 kvs
def cFrz (f : CF) : C := fun fr h => (f fr h).bind fun c h1 => .ok c.val h1
def cMk (f : CF) : C := fun fr h => (f fr h).bind fun c h1 => .ok (.ref h1.length) (h1 ++ [c.ob])

/-! ### what stands behind a value -/
def seqOf (h : Hv) : Val → Option (List Val)
  | .lst xs => some xs
  | .tup xs => some xs
  | .ref id => match h[id]? with
    | some (.lst _ xs) => some xs
    | _ => none
  | _ => none
def lstOf (h : Hv) : Val → Option (List Val)
  | .lst xs => some xs
  | .ref id => match h[id]? with
    | some (.lst _ xs) => some xs
    | _ => none
  | _ => none
def dctOf (h : Hv) : Val → Option (List (Val × Val))
  | .dct kvs => some kvs
  | .ref id => match h[id]? with
    | some (.dct _ kvs) => some kvs
    | _ => none
  | _ => none
/-- the value without its number -/
def derefV (h : Hv) : Val → Val
  | .ref id => match h[id]? with
    | some (.lst _ xs) => .lst xs
    | some (.dct _ kvs) => .dct kvs
    | _ => .ref id
  | v => v

/-! ### operators -/
inductive Bin where
  | add | sub | mul | fdiv | mod | pow
def smallZ (i : Int) : Bool := decide (-(2 ^ 64 : Int) < i) && decide (i < 2 ^ 64)
def repL (xs : List Val) : Nat → List Val
  | 0 => []
  | n + 1 => xs ++ repL xs n
def opBin (h : Hv) : Bin → Val → Val → Option Val
  | .add, .int a, .int b => some (.int (a + b))
  | .add, .str a, .str b => if a.length + b.length ≤ big then some (.str (a ++ b)) else none
  | .add, .tup a, .tup b => if a.length + b.length ≤ big then some (.tup (a ++ b)) else none
  | .add, x, y => match lstOf h x, lstOf h y with
    | some a, some b => if a.length + b.length ≤ big then some (.lst (a ++ b)) else none
    | _, _ => none
  | .sub, .int a, .int b => some (.int (a - b))
  | .mul, .int a, .int b => if smallZ a || smallZ b then some (.int (a * b)) else none
  | .mul, x, .int n => match lstOf h x with
    | some a => if -(2 ^ 62 : Int) ≤ n ∧ n < 2 ^ 62 ∧ a.length * n.toNat ≤ big then some (.lst (repL a n.toNat)) else none
    | none => none
  | .fdiv, .int a, .int b => if b ≠ 0 ∧ b.natAbs < 1073741824 then some (.int (a.fdiv b)) else none
  | .mod, .int a, .int b => if b ≠ 0 then some (.int (a.fmod b)) else none
  | .pow, .int a, .int b => if 0 ≤ b ∧ b ≤ 1000 ∧ a.natAbs < 1000 then some (.int (a ^ b.toNat)) else none
  | _, _, _ => none
def lift (o : Option Val) (h : Hv) : Res Val := match o with
  | some v => .ok v h
  | none => .bad
def cBin (o : Bin) (a b : C) : C := fun fr h => (a fr h).bind fun x h1 => (b fr h1).bind fun y h2 => lift (opBin h2 o x y) h2
def cNeg (a : C) : C := fun fr h => (a fr h).bind fun x h1 => match x with
  | .int i => .ok (.int (-i)) h1
  | _ => .bad
def cNot (a : C) : C := fun fr h => (a fr h).bind fun x h1 => match x with
  | .bl b => .ok (.bl (!b)) h1
  | _ => .bad

/-! ### comparisons -/
inductive Cmp where
  | eq | ne | lt | le | gt | ge | inn | notin | isN | notN | deq | dne
/-- is every key of a in b with an equal value -/
def subD (a b : List (Val × Val)) : Option Bool := match a with
  | [] => some true
  | (k, v) :: r => match dget b k with
    | none => some false
    | some w => if v.data && w.data && decide (v.dep ≤ 40) && decide (w.dep ≤ 40) then (subD r b).map (v.eqv w && ·) else none
def eqV (x y : Val) : Option Bool := if x.data && y.data && decide (x.dep ≤ 40) && decide (y.dep ≤ 40) then some (x.eqv y) else none
/-- two dicts -/
def eqD (h : Hv) (x y : Val) : Option Bool := match dctOf h x, dctOf h y with
  | some a, some b => if (a.all (·.1.leafK) && b.all (·.1.leafK)) = true then (if a.length = b.length then subD a b else some false) else none
  | _, _ => none
def ltV (x y : Val) : Option Bool := if x.data && y.data && x.alike y && decide (x.dep ≤ 40) && decide (y.dep ≤ 40) then some (x.lt y) else none
def anyE (x : Val) : List Val → Bool
  | [] => false
  | y :: r => y.eqv x || anyE x r
def memV (x : Val) (xs : List Val) : Option Bool := if x.data && datas xs && decide (x.dep ≤ 40) && decide (deps xs ≤ 40) then some (anyE x xs) else none
def subText (x y : Str) : Bool := !(PySem.Builtin.Str.occurrences y x 0 y.length 1).isEmpty
def inV (h : Hv) (x y : Val) : Option Bool :=
  match seqOf h y with
  | some xs => memV x xs
  | none => match dctOf h y with
    | some kvs => if keyOk kvs x then some (dget kvs x).isSome else none
    | none => match x, y with
      | .str a, .str b => some (subText a b)
      | _, _ => none
def Val.isN : Val → Bool
  | .non => true
  | _ => false
def opCmp (h : Hv) : Cmp → Val → Val → Option Bool
  | .eq, x, y => eqV (derefV h x) (derefV h y)
  | .ne, x, y => (eqV (derefV h x) (derefV h y)).map (!·)
  | .deq, x, y => eqD h x y
  | .dne, x, y => (eqD h x y).map (!·)
  | .lt, x, y => ltV x y
  | .gt, x, y => ltV y x
  | .le, x, y => (ltV y x).map (!·)
  | .ge, x, y => (ltV x y).map (!·)
  | .inn, x, y => inV h x y
  | .notin, x, y => (inV h x y).map (!·)
  | .isN, x, .non => some x.isN
  | .notN, x, .non => some (!x.isN)
  | _, _, _ => none
def liftB (o : Option Bool) (h : Hv) : Res Val := match o with
  | some b => .ok (.bl b) h
  | none => .bad
def cCmp (o : Cmp) (a b : C) : C := fun fr h => (a fr h).bind fun x h1 => (b fr h1).bind fun y h2 => liftB (opCmp h2 o x y) h2
def cChain (o p : Cmp) (a b c : C) : C := fun fr h => (a fr h).bind fun x h1 => (b fr h1).bind fun y h2 => match opCmp h2 o x y with
  | some true => (c fr h2).bind fun z h3 => liftB (opCmp h3 p y z) h3
  | some false => .ok (.bl false) h2
  | none => .bad
def cAnd (a b : C) : C := fun fr h => (a fr h).bind fun x h1 => match x with
  | .bl true => b fr h1
  | .bl false => .ok (.bl false) h1
  | _ => .bad
def cOr (a b : C) : C := fun fr h => (a fr h).bind fun x h1 => match x with
  | .bl true => .ok (.bl true) h1
  | .bl false => b fr h1
  | _ => .bad
def cIf (c a b : C) : C := fun fr h => (c fr h).bind fun x h1 => match x with
  | .bl true => a fr h1
  | .bl false => b fr h1
  | _ => .bad
def fIf (c : C) (a b : CF) : CF := fun fr h => (c fr h).bind fun x h1 => match x with
  | .bl true => a fr h1
  | .bl false => b fr h1
  | _ => .bad

/-! ### subscripts, attributes -/
def atI {α : Type} (xs : List α) (i : Int) : Option α := if 0 ≤ i then xs[i.toNat]? else if 0 ≤ i + (xs.length : Int) then xs[(i + (xs.length : Int)).toNat]? else none
def opIdx (h : Hv) (x i : Val) : Option Val :=
  match i with
  | .int n => match seqOf h x with
    | some xs => atI xs n
    | none => match x with
      | .str s => if s.length ≤ big then (atI s.cps.toList n).map fun c => .str ⟨#[c]⟩ else none
      | _ => match dctOf h x with
        | some kvs => if keyOk kvs i then dget kvs i else none
        | none => none
  | _ => match dctOf h x with
    | some kvs => if keyOk kvs i then dget kvs i else none
    | none => none
def cIdx (a i : C) : C := fun fr h => (a fr h).bind fun x h1 => (i fr h1).bind fun y h2 => lift (opIdx h2 x y) h2
/-- the bounds of a slice without a step -/
def clampI (n d : Nat) : Option Int → Nat
  | none => d
  | some v => if v < 0 then (v + (n : Int)).toNat else min v.toNat n
def sliceL {α : Type} (xs : List α) (lo hi : Option Int) : List α :=
  (xs.drop (clampI xs.length 0 lo)).take (clampI xs.length xs.length hi - clampI xs.length 0 lo)
def cOpt (o : Option C) (fr : Fr) (h : Hv) : Res (Option Int) := match o with
  | none => .ok none h
  | some c => (c fr h).bind fun x h1 => match x with
    | .int i => .ok (some i) h1
    | _ => .bad
/-- a slice: of a tuple, a list (a new one), a text -/
def cSl (a : C) (lo hi : Option C) : C := fun fr h => (a fr h).bind fun x h1 => (cOpt lo fr h1).bind fun i h2 => (cOpt hi fr h2).bind fun j h3 => match x with
  | .tup xs => .ok (.tup (sliceL xs i j)) h3
  | x => match lstOf h3 x with
    | some xs => .ok (.lst (sliceL xs i j)) h3
    | none => .bad
/-- a list backwards, a new one -/
def cRev (a : C) : C := fun fr h => (a fr h).bind fun x h1 => match lstOf h1 x with
  | some xs => .ok (.lst xs.reverse) h1
  | none => .bad
def fget (fs : List (Nat × Val)) (f : Nat) : Option Val := (fs.find? fun p => p.1 == f).map (·.2)
def fput (f : Nat) (v : Val) : List (Nat × Val) → List (Nat × Val)
  | [] => [(f, v)]
  | (g, x) :: r => if g = f then (g, v) :: r else (g, x) :: fput f v r
def cFld (a : C) (f : Nat) : C := fun fr h => (a fr h).bind fun x h1 => match x with
  | .ref id => match h1[id]? with
    | some (.ins _ fs) => lift (fget fs f) h1
    | _ => .bad
  | _ => .bad

/-! ### calls -/
/-- the defs: called with values and a heap -/
abbrev Orc := Nat → List Val → Hv → Res Val
def cCall (O : Orc) (f : Nat) (ds : List Val) (r : CL) : C := fun fr h => (r fr h).bind fun xs h1 => O f (xs ++ ds) h1
/-- a method: the class's number must be c -/
def cMeth (O : Orc) (c f : Nat) (ds : List Val) (a : C) (r : CL) : C := fun fr h => (a fr h).bind fun x h1 => match x with
  | .ref id => match h1[id]? with
    | some (.ins k _) => if k = c then (r fr h1).bind fun xs h2 => O f (.ref id :: (xs ++ ds)) h2 else .bad
    | _ => .bad
  | _ => .bad
def cNew (O : Orc) (c f : Nat) (ds : List Val) (r : CL) : C := fun fr h => (r fr h).bind fun xs h1 => (O f (.ref h1.length :: (xs ++ ds)) (h1 ++ [.ins c []])).bind fun v h2 => match v with
  | .non => .ok (.ref h1.length) h2
  | _ => .bad
/-- told(lambda: b): the error's word, or what b gives -/
def cTold (es : List Nat) (w : Val) (b : C) : C := fun fr h => match b fr h with
  | .ok v h1 => .ok v h1
  | .exc c h1 => if es.contains c then .ok w h1 else .bad
  | .bad => .bad
def cLam (k : Nat) : C := fun _ h => .ok (.lam k) h
def cToldV (es : List Nat) (w : Val) (ls : List C) (a : C) : C := fun fr h => (a fr h).bind fun x h1 => match x with
  | .lam k => match ls[k]? with
    | some b => cTold es w b fr h1
    | none => .bad
  | _ => .bad

/-! ### built-ins -/
def lenV (h : Hv) (x : Val) : Option Nat := match seqOf h x with
  | some xs => some xs.length
  | none => match dctOf h x with
    | some kvs => some kvs.length
    | none => match x with
      | .str s => if s.length ≤ big then some s.length else none
      | _ => none
def cLen (a : C) : C := fun fr h => (a fr h).bind fun x h1 => match lenV h1 x with
  | some n => .ok (.int n) h1
  | none => .bad
def cAbs (a : C) : C := fun fr h => (a fr h).bind fun x h1 => match x with
  | .int i => .ok (.int (if i < 0 then -i else i)) h1
  | _ => .bad
def cInt (a : C) : C := fun fr h => (a fr h).bind fun x h1 => match x with
  | .int i => .ok (.int i) h1
  | .bl b => .ok (.int (b2z b)) h1
  | _ => .bad
def strZ (i : Int) : Str := (toString i : String)
def cStr (a : C) : C := fun fr h => (a fr h).bind fun x h1 => match x with
  | .int i => if i.natAbs.log2 < 1920 then .ok (.str (strZ i)) h1 else .bad
  | _ => .bad
def intsOf : List Val → Option (List Int)
  | [] => some []
  | .int i :: r => (intsOf r).map (i :: ·)
  | _ :: _ => none
def cMax2 (a b : C) : C := fun fr h => (a fr h).bind fun x h1 => (b fr h1).bind fun y h2 => match x, y with
  | .int i, .int j => .ok (.int (if j > i then j else i)) h2
  | _, _ => .bad
def cMin2 (a b : C) : C := fun fr h => (a fr h).bind fun x h1 => (b fr h1).bind fun y h2 => match x, y with
  | .int i, .int j => .ok (.int (if j < i then j else i)) h2
  | _, _ => .bad

/-! ### what is walked -/
def Ob.lk : Ob → Ob
  | .lst k xs => .lst (k + 1) xs
  | .dct k xs => .dct (k + 1) xs
  | o => o
def Ob.ulk : Ob → Ob
  | .lst k xs => .lst (k - 1) xs
  | .dct k xs => .dct (k - 1) xs
  | o => o
def lockOb (h : Hv) (id : Nat) : Hv := h.modify id Ob.lk
def unlockOb (h : Hv) (id : Nat) : Hv := h.modify id Ob.ulk
def lockO (h : Hv) : Option Nat → Hv
  | none => h
  | some id => lockOb h id
def unlockO (h : Hv) : Option Nat → Hv
  | none => h
  | some id => unlockOb h id
def idOf : Val → Option Nat
  | .ref id => some id
  | _ => none
def iAny (a : C) : CI := fun fr h => (a fr h).bind fun x h1 => match seqOf h1 x with
  | some xs => .ok (xs, idOf x) h1
  | none => match dctOf h1 x with
    | some kvs => .ok (kvs.map (·.1), idOf x) h1
    | none => match x with
      | .str s => .ok (s.cps.toList.map fun c => .str ⟨#[c]⟩, none) h1
      | _ => .bad
/-- a list or a tuple -/
def iSeq (a : C) : CI := fun fr h => (a fr h).bind fun x h1 => match seqOf h1 x with
  | some xs => .ok (xs, idOf x) h1
  | none => .bad
/-- a dict's keys -/
def iDct (a : C) : CI := fun fr h => (a fr h).bind fun x h1 => match dctOf h1 x with
  | some kvs => .ok (kvs.map (·.1), idOf x) h1
  | none => .bad
def iVals (a : C) : CI := fun fr h => (a fr h).bind fun x h1 => match dctOf h1 x with
  | some kvs => .ok (kvs.map (·.2), idOf x) h1
  | none => .bad
def iItems (a : C) : CI := fun fr h => (a fr h).bind fun x h1 => match dctOf h1 x with
  | some kvs => .ok (kvs.map fun p => .tup [p.1, p.2], idOf x) h1
  | none => .bad
def rangeZ (lo hi : Int) : List Val := (List.range (hi - lo).toNat).map fun (k : Nat) => .int (lo + (k : Int))
def smallR (i : Int) : Bool := decide (-1000000000 ≤ i) && decide (i ≤ 1000000000)
def iRange (a b : C) : CI := fun fr h => (a fr h).bind fun x h1 => (b fr h1).bind fun y h2 => match x, y with
  | .int i, .int j => if smallR i && smallR j then .ok (rangeZ i j, none) h2 else .bad
  | _, _ => .bad
def iRangeD (a b : C) : CI := fun fr h => (a fr h).bind fun x h1 => (b fr h1).bind fun y h2 => match x, y with
  | .int i, .int j => if smallR i && smallR j then .ok ((List.range (i - j).toNat).map fun (k : Nat) => .int (i - (k : Int)), none) h2 else .bad
  | _, _ => .bad
def iEnum (a : C) : CI := fun fr h => (a fr h).bind fun x h1 => match seqOf h1 x with
  | some xs => .ok ((xs.zipIdx).map fun p => .tup [.int (p.2 : Int), p.1], idOf x) h1
  | none => .bad
def iZip (a b : C) : CI := fun fr h => (a fr h).bind fun x h1 => (b fr h1).bind fun y h2 => match x, y with
  | .lst xs, .lst ys => .ok ((xs.zip ys).map fun p => .tup [p.1, p.2], none) h2
  | .lst xs, .tup ys => .ok ((xs.zip ys).map fun p => .tup [p.1, p.2], none) h2
  | .tup xs, .lst ys => .ok ((xs.zip ys).map fun p => .tup [p.1, p.2], none) h2
  | .tup xs, .tup ys => .ok ((xs.zip ys).map fun p => .tup [p.1, p.2], none) h2
  | _, _ => .bad

/-! ### targets -/
inductive Tg where
  | n (i : Nat) | t (is : List Nat)
def bindAll : List Nat → List Val → Fr → Option Fr
  | [], [], fr => some fr
  | i :: is, v :: vs, fr => bindAll is vs (fr.set i (.val v))
  | _, _, _ => none
def Tg.bind : Tg → Val → Fr → Option Fr
  | .n i, v, fr => some (fr.set i (.val v))
  | .t is, .tup vs, fr => bindAll is vs fr
  | .t _, _, _ => none

def Tg.ixs : Tg → List Nat
  | .n i => [i]
  | .t is => is
def wipeF (fr : Fr) : List Nat → Fr
  | [] => fr
  | v :: vs => (wipeF fr vs).set v .no
/-! ### comprehensions: the element's own frame; no error leaves -/
def tstO (c : Option C) (fr : Fr) (h : Hv) : Res Val := match c with
  | none => .ok (.bl true) h
  | some c => (c fr h).calm
def compL (tg : Tg) (c : Option C) (e : C) (fr : Fr) : List Val → Hv → Res (List Val)
  | [], h => .ok [] h
  | x :: xs, h => match tg.bind x fr with
    | none => .bad
    | some f1 => (tstO c f1 h).bind fun b h1 => match b with
      | .bl true => (e f1 h1).calm.bind fun y h2 => (compL tg c e fr xs h2).bind fun ys h3 => .ok (y :: ys) h3
      | .bl false => compL tg c e fr xs h1
      | _ => .bad
def fComp (tg : Tg) (it : CI) (c : Option C) (e : C) : CF := fun fr h => (it fr h).bind fun p h1 => (compL tg c e (wipeF fr tg.ixs) p.1 (lockO h1 p.2)).calm.bind fun ys h2 => if ys.length ≤ big then .ok (.l ys) (unlockO h2 p.2) else .bad
/-- two clauses -/
def compL2 (tg : Tg) (f : Fr → Hv → Res (List Val)) (fr : Fr) : List Val → Hv → Res (List Val)
  | [], h => .ok [] h
  | x :: xs, h => match tg.bind x fr with
    | none => .bad
    | some f1 => (f f1 h).calm.bind fun ys h1 => (compL2 tg f fr xs h1).bind fun zs h2 => if ys.length + zs.length ≤ big then .ok (ys ++ zs) h2 else .bad
def fComp2 (tg : Tg) (it : CI) (tg2 : Tg) (it2 : CI) (c : Option C) (e : C) : CF := fun fr h => (it fr h).bind fun p h1 =>
  (compL2 tg (fun f1 h => (it2 f1 h).bind fun q h2 => (compL tg2 c e f1 q.1 (lockO h2 q.2)).bind fun ys h3 => .ok ys (unlockO h3 q.2)) fr p.1 (lockO h1 p.2)).bind fun ys h2 => .ok (.l ys) (unlockO h2 p.2)
def compD (tg : Tg) (c : Option C) (k e : C) (fr : Fr) : List Val → List (Val × Val) → Hv → Res (List (Val × Val))
  | [], acc, h => .ok acc h
  | x :: xs, acc, h => match tg.bind x fr with
    | none => .bad
    | some f1 => (tstO c f1 h).bind fun b h1 => match b with
      | .bl true => (k f1 h1).calm.bind fun y h2 => (e f1 h2).calm.bind fun z h3 => if keyOk acc y && y.leafK && decide (acc.length ≤ big) then compD tg c k e fr xs (dput acc y z) h3 else .bad
      | .bl false => compD tg c k e fr xs acc h1
      | _ => .bad
def fDComp (tg : Tg) (it : CI) (c : Option C) (k e : C) : CF := fun fr h => (it fr h).bind fun p h1 => (compD tg c k e (wipeF fr tg.ixs) p.1 [] (lockO h1 p.2)).calm.bind fun ys h2 => .ok (.d ys) (unlockO h2 p.2)

/-! ### consumers of what is walked -/
def fListI (it : CI) : CF := fun fr h => (it fr h).bind fun p h1 => .ok (.l p.1) h1
def cTupI (it : CI) : C := fun fr h => (it fr h).bind fun p h1 => .ok (.tup p.1) h1
def cSumI (it : CI) : C := fun fr h => (it fr h).bind fun p h1 => match intsOf p.1 with
  | some ns => .ok (.int ns.sum) h1
  | none => .bad
def insV (x : Val) : List Val → List Val
  | [] => [x]
  | y :: r => if x.lt y then x :: y :: r else y :: insV x r
def sortV : List Val → List Val → List Val
  | acc, [] => acc
  | acc, x :: r => sortV (insV x acc) r
def Val.full : Val → Bool
  | .tup [] => false
  | _ => true
def pairOk (x y : Val) : Bool := x.data && y.data && x.alike y && decide (x.dep ≤ 40) && x.full
def sortOk (xs : List Val) : Bool := xs.all fun x => xs.all fun y => pairOk x y
def sorted (xs : List Val) : Option (List Val) := if sortOk xs = true ∧ xs.length ≤ big then some (sortV [] xs) else none
def fSorted (it : CI) : CF := fun fr h => (it fr h).bind fun p h1 => match sorted p.1 with
  | some ys => .ok (.l ys) h1
  | none => .bad
/-- sorted(.., reverse=True) of ints -/
def fSortedR (it : CI) : CF := fun fr h => (it fr h).bind fun p h1 => match intsOf p.1, sorted p.1 with
  | some _, some ys => .ok (.l ys.reverse) h1
  | _, _ => .bad
def minV : Val → List Val → Val
  | x, [] => x
  | x, y :: r => minV (if y.lt x then y else x) r
def maxV : Val → List Val → Val
  | x, [] => x
  | x, y :: r => maxV (if x.lt y then y else x) r
def dfltO (d : Option C) (fr : Fr) (h : Hv) : Res Val := match d with
  | none => .ok .non h
  | some d => d fr h
def cMinI (it : CI) (d : Option C) : C := fun fr h => (it fr h).bind fun p h1 => (dfltO d fr h1).bind fun dv h2 => match p.1 with
  | [] => match d with | none => .bad | some _ => .ok dv h2
  | x :: r => if sortOk (x :: r) then .ok (minV x r) h2 else .bad
def cMaxI (it : CI) (d : Option C) : C := fun fr h => (it fr h).bind fun p h1 => (dfltO d fr h1).bind fun dv h2 => match p.1 with
  | [] => match d with | none => .bad | some _ => .ok dv h2
  | x :: r => if sortOk (x :: r) then .ok (maxV x r) h2 else .bad
def dictP : List Val → List (Val × Val) → Option (List (Val × Val))
  | [], acc => some acc
  | .tup [k, v] :: r, acc => if keyOk acc k then dictP r (dput acc k v) else none
  | _ :: _, _ => none
def fDictI (it : CI) : CF := fun fr h => (it fr h).bind fun p h1 => match dictP p.1 [] with
  | some kvs => .ok (.d kvs) h1
  | none => .bad
/-! the same of a list or a tuple, told as a value -/
def cTupO (a : C) : C := fun fr h => (a fr h).bind fun x h1 => match seqOf h1 x with
  | some xs => .ok (.tup xs) h1
  | none => .bad
def fLstO (a : C) : CF := fun fr h => (a fr h).bind fun x h1 => match seqOf h1 x with
  | some xs => .ok (.l xs) h1
  | none => .bad
def cSumO (a : C) : C := fun fr h => (a fr h).bind fun x h1 => match lstOf h1 x with
  | some xs => (match intsOf xs with
    | some ns => .ok (.int ns.sum) h1
    | none => .bad)
  | none => .bad
def fSortO (a : C) : CF := fun fr h => (a fr h).bind fun x h1 => match lstOf h1 x with
  | some xs => (match sorted xs with
    | some ys => .ok (.l ys) h1
    | none => .bad)
  | none => .bad
/-! generator expressions, handed on -/
def anyG (tg : Tg) (c : Option C) (e : C) (fr : Fr) (stop : Bool) : List Val → Hv → Res Bool
  | [], h => .ok (!stop) h
  | x :: xs, h => match tg.bind x fr with
    | none => .bad
    | some f1 => (tstO c f1 h).bind fun b h1 => match b with
      | .bl true => (e f1 h1).calm.bind fun y h2 => match y with
        | .bl b => if b = stop then .ok stop h2 else anyG tg c e fr stop xs h2
        | _ => .bad
      | .bl false => anyG tg c e fr stop xs h1
      | _ => .bad
/-- any (stop = true), all (stop = false) of a generator expression -/
def cAnyG (stop : Bool) (tg : Tg) (it : CI) (c : Option C) (e : C) : C := fun fr h => (it fr h).bind fun p h1 => (anyG tg c e fr stop p.1 (lockO h1 p.2)).bind fun b h2 => .ok (.bl b) (unlockO h2 p.2)
def any2 (tg : Tg) (f : Fr → Hv → Res Bool) (fr : Fr) (stop : Bool) : List Val → Hv → Res Bool
  | [], h => .ok (!stop) h
  | x :: xs, h => match tg.bind x fr with
    | none => .bad
    | some f1 => (f f1 h).bind fun b h1 => if b = stop then .ok stop h1 else any2 tg f fr stop xs h1
def cAnyG2 (stop : Bool) (tg : Tg) (it : CI) (tg2 : Tg) (it2 : CI) (e : C) : C := fun fr h => (it fr h).bind fun p h1 =>
  (any2 tg (fun f1 h => (it2 f1 h).bind fun q h2 => (anyG tg2 none e f1 stop q.1 (lockO h2 q.2)).bind fun b h3 => .ok b (unlockO h3 q.2)) fr stop p.1 (lockO h1 p.2)).bind fun b h2 => .ok (.bl b) (unlockO h2 p.2)
/-- a generator expression's items -/
def iGen (tg : Tg) (it : CI) (c : Option C) (e : C) : CI := fun fr h => (it fr h).bind fun p h1 => (compL tg c e fr p.1 (lockO h1 p.2)).bind fun ys h2 => .ok (ys, none) (unlockO h2 p.2)
def iGen2 (tg : Tg) (it : CI) (tg2 : Tg) (it2 : CI) (c : Option C) (e : C) : CI := fun fr h => (it fr h).bind fun p h1 =>
  (compL2 tg (fun f1 h => (it2 f1 h).bind fun q h2 => (compL tg2 c e f1 q.1 (lockO h2 q.2)).bind fun ys h3 => .ok ys (unlockO h3 q.2)) fr p.1 (lockO h1 p.2)).bind fun ys h2 => .ok (ys, none) (unlockO h2 p.2)

/-! ### methods -/
def cGet (d k x : C) : C := fun fr h => (d fr h).bind fun dv h1 => match dctOf h1 dv with
  | none => .bad
  | some _ => (k fr h1).bind fun kv h2 => (x fr h2).bind fun xv h3 => match dctOf h3 dv with
    | some kvs => if keyOk kvs kv then .ok ((dget kvs kv).getD xv) h3 else .bad
    | none => .bad
def idxE (x : Val) : List Val → Nat → Option Nat
  | [], _ => none
  | y :: r, k => if y.eqv x then some k else idxE x r (k + 1)
def looked (x : Val) (xs : List Val) : Bool := x.data && datas xs && decide (x.dep ≤ 40) && decide (deps xs ≤ 40)
def idxV (x : Val) (xs : List Val) : Option Nat := if looked x xs then idxE x xs 0 else none
def cIndex (a x : C) : C := fun fr h => (a fr h).bind fun av h1 => (x fr h1).bind fun xv h2 => match lstOf h2 av with
  | some xs => match idxV xv xs with
    | some k => .ok (.int (k : Int)) h2
    | none => .bad
  | none => .bad
def cntE (x : Val) : List Val → Nat
  | [] => 0
  | y :: r => if y.eqv x then cntE x r + 1 else cntE x r
def cntV (x : Val) (xs : List Val) : Option Nat := if looked x xs then some (cntE x xs) else none
def cCount (a x : C) : C := fun fr h => (a fr h).bind fun av h1 => match lstOf h1 av with
  | none => .bad
  | some _ => (x fr h1).bind fun xv h2 => match lstOf h2 av with
    | some xs => (match cntV xv xs with
      | some k => .ok (.int (k : Int)) h2
      | none => .bad)
    | none => .bad
def textsOf : List Val → Option (List Str)
  | [] => some []
  | .str s :: r => (textsOf r).map (s :: ·)
  | _ :: _ => none
def joinS (sep : Str) : List Str → Str
  | [] => ⟨#[]⟩
  | [a] => a
  | a :: r => a ++ sep ++ joinS sep r
def cJoin (s a : C) : C := fun fr h => (s fr h).bind fun sv h1 => (a fr h1).bind fun av h2 => match sv, seqOf h2 av with
  | .str sep, some xs => match textsOf xs with
    | some ts => if (ts.map (·.length)).sum + sep.length * ts.length ≤ big then .ok (.str (joinS sep ts)) h2 else .bad
    | none => .bad
  | _, _ => .bad
/-- an f-string of texts and ints: its parts -/
def cFv (a : C) : C := fun fr h => (a fr h).bind fun x h1 => match x with
  | .str y => if y.length ≤ big then .ok (.str y) h1 else .bad
  | .int i => if i.natAbs.log2 < 1920 then .ok (.str (strZ i)) h1 else .bad
  | _ => .bad
def fmtL : List C → Str → C
  | [], acc => fun _ h => .ok (.str acc) h
  | c :: r, acc => fun fr h => (c fr h).bind fun x h1 => match x with
    | .str y => if (acc ++ y).length ≤ big then fmtL r (acc ++ y) fr h1 else .bad
    | _ => .bad
def cFmt (ps : List C) : C := fmtL ps ⟨#[]⟩

/-! ### statements -/
def sPass : CS := fun fr h => .ok (.nx fr) h
def sSeq (a b : CS) : CS := fun fr h => (a fr h).bind fun o h1 => match o with
  | .nx f1 => b f1 h1
  | o => .ok o h1
def sExp (a : C) : CS := fun fr h => (a fr h).bind fun _ h1 => .ok (.nx fr) h1
def sRet (a : C) : CS := fun fr h => (a fr h).bind fun v h1 => .ok (.rt v) h1
/-- an own container is handed back -/
def sRetA (i : Nat) : CS := fun fr h => match fr[i]? with
  | some (.acl 0 xs) => .ok (.rt (.lst xs)) h
  | some (.acd 0 kvs) => .ok (.rt (.dct kvs)) h
  | _ => .bad
def sRetN : CS := fun _ h => .ok (.rt .non) h
def sBrk : CS := fun fr h => .ok (.bk fr) h
def sIf (c : C) (a b : CS) : CS := fun fr h => (c fr h).bind fun x h1 => match x with
  | .bl true => a fr h1
  | .bl false => b fr h1
  | _ => .bad
def sRaise (c : Nat) : CS := fun _ h => .exc c h
def sSet (i : Nat) (a : C) : CS := fun fr h => (a fr h).bind fun v h1 => .ok (.nx (fr.set i (.val v))) h1
/-- a new container, this def's own -/
def sOwn (i : Nat) (f : CF) : CS := fun fr h => (f fr h).bind fun c h1 => .ok (.nx (fr.set i c.sl)) h1
/-- x = y, y an own container: it is frozen -/
def sMove (i j : Nat) : CS := fun fr h => match fr[j]? with
  | some (.acl 0 xs) => .ok (.nx ((fr.set j (.val (.lst xs))).set i (.val (.lst xs)))) h
  | some (.acd 0 kvs) => .ok (.nx ((fr.set j (.val (.dct kvs))).set i (.val (.dct kvs)))) h
  | _ => .bad
def sUnp (is : List Nat) (a : C) : CS := fun fr h => (a fr h).bind fun v h1 => match seqOf h1 v with
  | some vs => match bindAll is vs fr with
    | some f1 => .ok (.nx f1) h1
    | none => .bad
  | none => .bad
/-- a, b = x, y: all is reckoned, then stored -/
inductive Pt where
  | v (i : Nat) (c : C) | o (i : Nat) (f : CF)
def parE : List Pt → Fr → Hv → Res (List (Nat × Sl))
  | [], _, h => .ok [] h
  | .v i c :: r, fr, h => (c fr h).bind fun x h1 => (parE r fr h1).bind fun xs h2 => .ok ((i, .val x) :: xs) h2
  | .o i f :: r, fr, h => (f fr h).bind fun x h1 => (parE r fr h1).bind fun xs h2 => .ok ((i, x.sl) :: xs) h2
def sPar (ps : List Pt) : CS := fun fr h => (parE ps fr h).bind fun xs h1 => .ok (.nx (xs.foldl (fun f p => f.set p.1 p.2) fr)) h1
/-- the augmented operators -/
def opAug (h : Hv) : Bin → Val → Val → Option Val
  | .add, .int a, .int b => some (.int (a + b))
  | .sub, .int a, .int b => some (.int (a - b))
  | .mul, .int a, .int b => if smallZ a || smallZ b then some (.int (a * b)) else none
  | _, _, _ => none
def setC : Cont → Val → Val → Option Cont
  | .l xs, .int n, v => if 0 ≤ n ∧ n < (xs.length : Int) then some (.l (xs.set n.toNat v)) else none
  | .d kvs, k, v => if keyOk kvs k && decide (kvs.length ≤ big) then some (.d (dput kvs k v)) else none
  | _, _, _ => none
def contOf : Ob → Option Cont
  | .lst 0 xs => some (.l xs)
  | .dct 0 kvs => some (.d kvs)
  | _ => none
def contSl : Sl → Option Cont
  | .acl 0 xs => some (.l xs)
  | .acd 0 kvs => some (.d kvs)
  | _ => none
def setO (h : Hv) (id : Nat) (i v : Val) : Option Hv := match h[id]? with
  | some ob => match contOf ob with
    | some c => (setC c i v).map fun c2 => h.set id c2.ob
    | none => none
  | none => none
/-- a[i] = e: e first -/
def sSub (a i e : C) : CS := fun fr h => (e fr h).bind fun v h1 => (a fr h1).bind fun x h2 => (i fr h2).bind fun k h3 => match x with
  | .ref id => match setO h3 id k v with
    | some h4 => .ok (.nx fr) h4
    | none => .bad
  | _ => .bad
/-- a[i] op= e -/
def sSubA (o : Bin) (a i e : C) : CS := fun fr h => (a fr h).bind fun x h1 => (i fr h1).bind fun k h2 => match opIdx h2 x k with
  | none => .bad
  | some old => (e fr h2).bind fun v h3 => match opAug h3 o old v, x with
    | some z, .ref id => match setO h3 id k z with
      | some h4 => .ok (.nx fr) h4
      | none => .bad
    | _, _ => .bad
def setA (fr : Fr) (j : Nat) (i v : Val) : Option Fr := match fr[j]? with
  | some sl => match contSl sl with
    | some c => (setC c i v).map fun c2 => fr.set j c2.sl
    | none => none
  | none => none
/-- x[i] = e, x an own container -/
def isA (fr : Fr) (j : Nat) : Bool := match fr[j]? with
  | some (.acl _ _) => true
  | some (.acd _ _) => true
  | _ => false
def sSubO (j : Nat) (i e : C) : CS := fun fr h => (e fr h).bind fun v h1 => if isA fr j then (i fr h1).bind fun k h2 => match setA fr j k v with
  | some f1 => .ok (.nx f1) h2
  | none => .bad
  else .bad
def sSubOA (o : Bin) (j : Nat) (i e : C) : CS := fun fr h => if isA fr j then (i fr h).bind fun k h1 => match (cA j fr h1).bind fun x h2 => lift (opIdx h2 x k) h2 with
  | .ok old h2 => (e fr h2).bind fun v h3 => match opAug h3 o old v with
    | some z => match setA fr j k z with
      | some f1 => .ok (.nx f1) h3
      | none => .bad
    | none => .bad
  | _ => .bad
  else .bad
def sFld (a : C) (f : Nat) (e : C) : CS := fun fr h => (e fr h).bind fun v h1 => (a fr h1).bind fun x h2 => match x with
  | .ref id => match h2[id]? with
    | some (.ins c fs) => if fs.length ≤ 100 then .ok (.nx fr) (h2.set id (.ins c (fput f v fs))) else .bad
    | _ => .bad
  | _ => .bad
/-- a.append(e) -/
def sApp (a e : C) : CS := fun fr h => (a fr h).bind fun x h1 => match lstOf h1 x with
  | none => .bad
  | some _ => (e fr h1).bind fun v h2 => match x with
    | .ref id => match h2[id]? with
      | some (.lst 0 xs) => if xs.length ≤ big then .ok (.nx fr) (h2.set id (.lst 0 (xs ++ [v]))) else .bad
      | _ => .bad
    | _ => .bad
def isL (fr : Fr) (j : Nat) : Bool := match fr[j]? with
  | some (.acl _ _) => true
  | _ => false
def sAppO (j : Nat) (e : C) : CS := fun fr h => if isL fr j then (e fr h).bind fun v h1 => match fr[j]? with
  | some (.acl 0 xs) => if xs.length ≤ big then .ok (.nx (fr.set j (.acl 0 (xs ++ [v])))) h1 else .bad
  | _ => .bad
  else .bad
/-- x op= e, x a name -/
def sAug (o : Bin) (i : Nat) (e : C) : CS := fun fr h => match fr[i]? with
  | some (.val old) => (e fr h).bind fun v h1 => match opAug h1 o old v with
    | some z => .ok (.nx (fr.set i (.val z))) h1
    | none => .bad
  | _ => .bad
def forL (tg : Tg) (b : CS) : List Val → CS
  | [], fr, h => .ok (.nx fr) h
  | x :: xs, fr, h => match tg.bind x fr with
    | none => .bad
    | some f1 => (b f1 h).bind fun o h1 => match o with
      | .nx f2 => forL tg b xs f2 h1
      | o => .ok o h1
def sFor (tg : Tg) (it : CI) (b : CS) : CS := fun fr h => (it fr h).bind fun p h1 => match forL tg b p.1 fr (lockO h1 p.2) with
  | .ok (.nx f2) h2 => .ok (.nx f2) (unlockO h2 p.2)
  | .ok (.bk f2) h2 => .ok (.nx f2) (unlockO h2 p.2)
  | .ok (.rt v) h2 => .ok (.rt v) (unlockO h2 p.2)
  | .exc c h2 => .exc c (unlockO h2 p.2)
  | .bad => .bad
/-- over an own container -/
def lockS (fr : Fr) (j : Nat) : Fr := fr.modify j fun
  | .acl k xs => .acl (k + 1) xs
  | .acd k xs => .acd (k + 1) xs
  | s => s
def unlockS (fr : Fr) (j : Nat) : Fr := fr.modify j fun
  | .acl k xs => .acl (k - 1) xs
  | .acd k xs => .acd (k - 1) xs
  | s => s
def sForO (tg : Tg) (j : Nat) (b : CS) : CS := fun fr h =>
  match (match fr[j]? with
    | some (.acl _ xs) => some xs
    | some (.acd _ kvs) => some (kvs.map (·.1))
    | _ => none) with
  | none => .bad
  | some xs => match forL tg b xs (lockS fr j) h with
    | .ok (.nx f2) h2 => .ok (.nx (unlockS f2 j)) h2
    | .ok (.bk f2) h2 => .ok (.nx (unlockS f2 j)) h2
    | .ok (.rt v) h2 => .ok (.rt v) h2
    | .exc c h2 => .exc c h2
    | .bad => .bad
def sWhile (c : C) (b : CS) : Nat → CS
  | 0, _, _ => .bad
  | n + 1, fr, h => (c fr h).bind fun x h1 => match x with
    | .bl true => (b fr h1).bind fun o h2 => match o with
      | .nx f2 => sWhile c b n f2 h2
      | .bk f2 => .ok (.nx f2) h2
      | .rt v => .ok (.rt v) h2
    | .bl false => .ok (.nx fr) h1
    | _ => .bad

/-! ### defs -/
/-- a def: how many parameters, how many names, its body -/
structure Df where
  np : Nat
  nn : Nat
  body : CS
def startF (d : Df) (xs : List Val) : Fr := xs.map .val ++ List.replicate (d.nn - xs.length) .no
def runD (d : Df) (xs : List Val) (h : Hv) : Res Val :=
  if xs.length = d.np then (d.body (startF d xs) h).bind fun o h1 => match o with
    | .nx _ => .ok .non h1
    | .rt v => .ok v h1
    | .bk _ => .bad
  else .bad
/-- the defs of a text, each over the defs that it calls -/
def callN (T : Orc → Nat → Option Df) : Nat → Orc
  | 0 => fun _ _ _ => .bad
  | n + 1 => fun f xs h => match T (callN T n) f with
    | some d => runD d xs h
    | none => .bad
end Pk

set_option maxRecDepth 100000
/-! Pk1: how values and the small heap lie in HandS's heap. -/
namespace Pk
open PySem L2

/-- what is known of the lambdas of a def -/
structure Lx where
  R : Nat → Addr → Hp → Prop
  mono : ∀ (k : Nat) (a : Addr) (H H' : Hp), (∀ b φ, H b = some (.ext φ) → H' b = some (.ext φ)) → R k a H → R k a H'
def Lx.no : Lx := ⟨fun _ _ _ => False, fun _ _ _ _ _ h => h⟩
/-- a view: where the numbered objects stand, what is frozen, the tracked heap, the small heap -/
structure Vw where
  ρ : Nat → Option Addr
  F : Addr → Prop
  H : Hp
  h : Hv
/-- what is fixed for a text -/
structure Gx where
  cls : Nat → Addr
  fld : Nat → Str
  err : Nat → Value
  tabs : List (Addr × Str)
  nf : Nat
  fldInj : ∀ i, i < nf → ∀ j, j < nf → fld i = fld j → i = j

/-- a dict that stands for good -/
def Fz (H : Hp) (a : Addr) (u : HO) : Prop := ∃ o, H a = some (.frz o u)
def keyV : Val → Option Key
  | .int i => some (.inl i)
  | .str x => some (.inr x)
  | _ => none
def keyVs : List Val → Option (List Key)
  | [] => some []
  | x :: xs => match keyV x, keyVs xs with
    | some k, some ks => some (k :: ks)
    | _, _ => none
def keyT : Val → Option (List Key)
  | .tup xs => keyVs xs
  | _ => none
mutual
def RepV (l : Lx) (u : Vw) : Val → V → Prop
  | .non, v => v = .non
  | .bl b, v => v = .bl b
  | .int i, v => v = .int i
  | .str x, v => v = .str x
  | .tup xs, v => ∃ a vs, v = .ref a ∧ u.H a = some (.tup vs) ∧ RepVs l u xs vs
  | .lst xs, v => ∃ a vs, v = .ref a ∧ u.F a ∧ u.H a = some (.lst vs) ∧ RepVs l u xs vs
  | .dct kvs, v => ∃ a, v = .ref a ∧ u.F a ∧ ((∃ ks, Fz u.H a (.dK ks) ∧ RepK l u kvs ks) ∨ ∃ ks, Fz u.H a (.dT ks) ∧ kvs ≠ [] ∧ RepT l u kvs ks)
  | .ref id, v => ∃ a, v = .ref a ∧ u.ρ id = some a
  | .lam k, v => ∃ a, v = .ref a ∧ l.R k a u.H
def RepVs (l : Lx) (u : Vw) : List Val → List V → Prop
  | [], vs => vs = []
  | x :: xs, vs => ∃ v r, vs = v :: r ∧ RepV l u x v ∧ RepVs l u xs r
def RepK (l : Lx) (u : Vw) : List (Val × Val) → List (Key × V) → Prop
  | [], ks => ks = []
  | (k, x) :: r, ks => ∃ q v s, ks = (q, v) :: s ∧ keyV k = some q ∧ RepV l u x v ∧ RepK l u r s
def RepT (l : Lx) (u : Vw) : List (Val × Val) → List (List Key × V) → Prop
  | [], ks => ks = []
  | (k, x) :: r, ks => ∃ q v s, ks = (q, v) :: s ∧ keyT k = some q ∧ RepV l u x v ∧ RepT l u r s
end
abbrev RepT1 (l : Lx) (u : Vw) (kvs : List (Val × Val)) (ks : List (List Key × V)) : Prop := kvs ≠ [] ∧ RepT l u kvs ks
/-- a dict's content -/
def DctR (l : Lx) (u : Vw) (a : Addr) (kvs : List (Val × Val)) : Prop :=
  (∃ ks, Rd u.H a (.dK ks) ∧ RepK l u kvs ks) ∨ ∃ ks, Rd u.H a (.dT ks) ∧ RepT1 l u kvs ks
/-- looked at: whose container it is isn't asked -/
def RepB (l : Lx) (u : Vw) : Val → V → Prop
  | .lst xs, v => ∃ a vs, v = .ref a ∧ u.H a = some (.lst vs) ∧ RepVs l u xs vs ∧ ∀ id, u.ρ id ≠ some a
  | .dct kvs, v => ∃ a, v = .ref a ∧ DctR l u a kvs ∧ ∀ id, u.ρ id ≠ some a
  | x, v => RepV l u x v
/-- the second view knows at least what the first one does, for frozen things -/
structure Sub (u u' : Vw) : Prop where
  ρm : ∀ id a, u.ρ id = some a → u'.ρ id = some a
  Fm : ∀ a, u.F a → u'.F a
  tup : ∀ a vs, u.H a = some (.tup vs) → u'.H a = some (.tup vs)
  ext : ∀ a φ, u.H a = some (.ext φ) → u'.H a = some (.ext φ)
  lst : ∀ a vs, u.F a → u.H a = some (.lst vs) → u'.H a = some (.lst vs)
  dK : ∀ a ks, u.F a → Fz u.H a (.dK ks) → Fz u'.H a (.dK ks)
  dT : ∀ a ks, u.F a → Fz u.H a (.dT ks) → Fz u'.H a (.dT ks)
section
variable {l : Lx} {u u' : Vw}
mutual
theorem RepV.sub (s : Sub u u') : ∀ (x : Val) (v : V), RepV l u x v → RepV l u' x v
  | .non, _, h => h
  | .bl _, _, h => h
  | .int _, _, h => h
  | .str _, _, h => h
  | .tup xs, _, ⟨a, vs, e, h, r⟩ => ⟨a, vs, e, s.tup a vs h, RepVs.sub s xs vs r⟩
  | .lst xs, _, ⟨a, vs, e, f, h, r⟩ => ⟨a, vs, e, s.Fm a f, s.lst a vs f h, RepVs.sub s xs vs r⟩
  | .dct kvs, _, ⟨a, e, f, h⟩ => ⟨a, e, s.Fm a f, h.elim (fun ⟨ks, h1, h2⟩ => .inl ⟨ks, s.dK a ks f h1, RepK.sub s kvs ks h2⟩) fun ⟨ks, h1, h0, h2⟩ => .inr ⟨ks, s.dT a ks f h1, h0, RepT.sub s kvs ks h2⟩⟩
  | .ref id, _, ⟨a, e, h⟩ => ⟨a, e, s.ρm id a h⟩
  | .lam k, _, ⟨a, e, h⟩ => ⟨a, e, l.mono k a _ _ s.ext h⟩
theorem RepVs.sub (s : Sub u u') : ∀ (xs : List Val) (vs : List V), RepVs l u xs vs → RepVs l u' xs vs
  | [], _, h => h
  | x :: xs, _, ⟨v, r, e, h1, h2⟩ => ⟨v, r, e, RepV.sub s x v h1, RepVs.sub s xs r h2⟩
theorem RepK.sub (s : Sub u u') : ∀ (kvs : List (Val × Val)) (ks : List (Key × V)), RepK l u kvs ks → RepK l u' kvs ks
  | [], _, h => h
  | (k, x) :: r, _, ⟨q, v, t, e, h1, h2, h3⟩ => ⟨q, v, t, e, h1, RepV.sub s x v h2, RepK.sub s r t h3⟩
theorem RepT.sub (s : Sub u u') : ∀ (kvs : List (Val × Val)) (ks : List (List Key × V)), RepT l u kvs ks → RepT l u' kvs ks
  | [], _, h => h
  | (k, x) :: r, _, ⟨q, v, t, e, h1, h2, h3⟩ => ⟨q, v, t, e, h1, RepV.sub s x v h2, RepT.sub s r t h3⟩
end
theorem RepT1.sub (s : Sub u u') (kvs : List (Val × Val)) (ks : List (List Key × V)) (h : RepT1 l u kvs ks) : RepT1 l u' kvs ks := ⟨h.1, RepT.sub s kvs ks h.2⟩
theorem RepVs.length : ∀ {xs : List Val} {vs : List V}, RepVs l u xs vs → xs.length = vs.length
  | [], _, h => by rw [show _ = [] from h]; rfl
  | x :: xs, _, ⟨v, r, e, _, h2⟩ => by rw [e, List.length_cons, List.length_cons, RepVs.length h2]
theorem RepVs.get : ∀ {xs : List Val} {vs : List V} {i : Nat} {x : Val}, RepVs l u xs vs → xs[i]? = some x → ∃ v, vs[i]? = some v ∧ RepV l u x v
  | y :: ys, _, 0, x, ⟨v, r, e, h1, _⟩, q => by
    rw [e]
    have q : y = x := by simpa using q
    exact ⟨v, rfl, q ▸ h1⟩
  | y :: ys, _, i + 1, x, ⟨v, r, e, _, h2⟩, q => by
    rw [e]
    obtain ⟨w, e1, e2⟩ := RepVs.get (i := i) h2 (by simpa using q)
    exact ⟨w, by simpa using e1, e2⟩
theorem RepVs.append : ∀ {xs ys : List Val} {vs ws : List V}, RepVs l u xs vs → RepVs l u ys ws → RepVs l u (xs ++ ys) (vs ++ ws)
  | [], _, _, _, h, k => by rw [show _ = [] from h]; exact k
  | x :: xs, _, _, _, ⟨v, r, e, h1, h2⟩, k => by rw [e]; exact ⟨v, r ++ _, rfl, h1, RepVs.append h2 k⟩
theorem RepVs.one {x : Val} {v : V} (h : RepV l u x v) : RepVs l u [x] [v] := ⟨v, [], rfl, h, rfl⟩
theorem RepVs.set : ∀ {xs : List Val} {vs : List V} {x : Val} {v : V} (i : Nat), RepVs l u xs vs → RepV l u x v → RepVs l u (xs.set i x) (vs.set i v)
  | [], _, _, _, _, h, _ => by rw [show _ = [] from h]; exact rfl
  | y :: ys, _, x, v, 0, ⟨w, r, e, _, h2⟩, k => by rw [e]; exact ⟨v, r, rfl, k, h2⟩
  | y :: ys, _, x, v, i + 1, ⟨w, r, e, h1, h2⟩, k => by rw [e]; exact ⟨w, r.set i v, rfl, h1, RepVs.set i h2 k⟩
theorem RepVs.take : ∀ {xs : List Val} {vs : List V} (n : Nat), RepVs l u xs vs → RepVs l u (xs.take n) (vs.take n)
  | _, _, 0, _ => rfl
  | [], _, n + 1, h => by rw [show _ = [] from h]; exact rfl
  | x :: xs, _, n + 1, ⟨v, r, e, h1, h2⟩ => by rw [e]; exact ⟨v, r.take n, rfl, h1, RepVs.take n h2⟩
theorem RepVs.drop : ∀ {xs : List Val} {vs : List V} (n : Nat), RepVs l u xs vs → RepVs l u (xs.drop n) (vs.drop n)
  | _, _, 0, h => h
  | [], _, n + 1, h => by rw [show _ = [] from h]; exact rfl
  | x :: xs, _, n + 1, ⟨v, r, e, h1, h2⟩ => by rw [e]; exact RepVs.drop n h2
theorem RepVs.reverse : ∀ {xs : List Val} {vs : List V}, RepVs l u xs vs → RepVs l u xs.reverse vs.reverse
  | [], _, h => by rw [show _ = [] from h]; exact rfl
  | x :: xs, _, ⟨v, r, e, h1, h2⟩ => by rw [e, List.reverse_cons, List.reverse_cons]; exact RepVs.append (RepVs.reverse h2) (RepVs.one h1)
theorem RepVs.mk : ∀ {xs : List Val} {vs : List V}, xs.length = vs.length → (∀ (i : Nat) x v, xs[i]? = some x → vs[i]? = some v → RepV l u x v) → RepVs l u xs vs
  | [], [], _, _ => rfl
  | [], _ :: _, h, _ => by simp at h
  | _ :: _, [], h, _ => by simp at h
  | x :: xs, v :: vs, h, k => ⟨v, vs, rfl, k 0 x v rfl rfl, RepVs.mk (by simpa using h) fun i y w e1 e2 => k (i + 1) y w (by simpa using e1) (by simpa using e2)⟩
end

/-! ### the small heap, the frame -/
def RepFs (g : Gx) (l : Lx) (u : Vw) : List (Nat × Val) → List (Str × V) → Prop
  | [], fs => fs = []
  | (f, x) :: r, fs => ∃ v s, fs = (g.fld f, v) :: s ∧ f < g.nf ∧ RepV l u x v ∧ RepFs g l u r s
/-- an object at a -/
def ObR (g : Gx) (l : Lx) (u : Vw) (a : Addr) : Ob → Prop
  | .lst _ xs => ∃ vs, u.H a = some (.lst vs) ∧ RepVs l u xs vs
  | .dct 0 kvs => (∃ ks, u.H a = some (.dK ks) ∧ RepK l u kvs ks) ∨ ∃ ks, u.H a = some (.dT ks) ∧ RepT1 l u kvs ks
  | .dct (_ + 1) kvs => (∃ o ks, u.H a = some (.frz o (.dK ks)) ∧ RepK l u kvs ks) ∨ ∃ o ks, u.H a = some (.frz o (.dT ks)) ∧ RepT1 l u kvs ks
  | .ins c fs => ∃ dx fs', u.H a = some (.ins (g.cls c) dx fs') ∧ RepFs g l u fs fs'
def ObR.d {g : Gx} {l : Lx} {u : Vw} {a : Addr} {k : Nat} {kvs : List (Val × Val)} (h : ObR g l u a (.dct k kvs)) : DctR l u a kvs := by
  cases k with
  | zero => exact h.elim (fun ⟨ks, h1, h2⟩ => .inl ⟨ks, .inl h1, h2⟩) fun ⟨ks, h1, h2⟩ => .inr ⟨ks, .inl h1, h2⟩
  | succ k => exact h.elim (fun ⟨o, ks, h1, h2⟩ => .inl ⟨ks, .inr ⟨o, h1⟩, h2⟩) fun ⟨o, ks, h1, h2⟩ => .inr ⟨ks, .inr ⟨o, h1⟩, h2⟩
/-- nothing stands there but, at most, a table -/
def gone (H : Hp) (a : Addr) : Prop := ∀ o, H a = some o → ∃ ps, o = HO.tbl ps
theorem gone_none {H : Hp} {a : Addr} (h : H a = none) : gone H a := fun o e => by rw [h] at e; cases e
theorem not_gone {H : Hp} {a : Addr} {o : HO} (h : H a = some o) (n : ∀ ps, o ≠ .tbl ps := by intro ps z; cases z) : ¬ gone H a := fun z => by
  obtain ⟨ps, e⟩ := z o h
  exact n ps e
def isBox : HO → Prop
  | .lst _ => True
  | .dK _ => True
  | .dT _ => True
  | .frz _ u => isBox u
  | _ => False
def isMut : HO → Prop
  | .ins _ _ _ => True
  | o => isBox o
/-- the objects of the small heap stand at their places -/
structure HR (g : Gx) (l : Lx) (u : Vw) : Prop where
  dom : ∀ id a, u.ρ id = some a → id < u.h.length
  inj : ∀ i j a, u.ρ i = some a → u.ρ j = some a → i = j
  ob : ∀ id o, u.h[id]? = some o → ∃ a, u.ρ id = some a ∧ ¬ u.F a ∧ ObR g l u a o
  frz : ∀ a, u.F a → ∃ o, u.H a = some o ∧ isBox o
  tab : LamX.Tabs g.tabs u.H
/-- a slot -/
def SlR (l : Lx) (u : Vw) : Sl → Option V → Prop
  | .no, _ => True
  | .val x, v => ∃ y, v = some y ∧ RepV l u x y
  | .acl _ xs, v => ∃ a vs, v = some (.ref a) ∧ u.H a = some (.lst vs) ∧ RepVs l u xs vs ∧ ¬ u.F a ∧ ∀ id, u.ρ id ≠ some a
  | .acd 0 kvs, v => ∃ a, v = some (.ref a) ∧ ((∃ ks, u.H a = some (.dK ks) ∧ RepK l u kvs ks) ∨ ∃ ks, u.H a = some (.dT ks) ∧ RepT1 l u kvs ks) ∧ ¬ u.F a ∧ ∀ id, u.ρ id ≠ some a
  | .acd (_ + 1) kvs, v => ∃ a, v = some (.ref a) ∧ ((∃ o ks, u.H a = some (.frz o (.dK ks)) ∧ RepK l u kvs ks) ∨ ∃ o ks, u.H a = some (.frz o (.dT ks)) ∧ RepT1 l u kvs ks) ∧ ¬ u.F a ∧ ∀ id, u.ρ id ≠ some a
def Sl.isAc : Sl → Prop
  | .acl _ _ => True
  | .acd _ _ => True
  | _ => False
structure FR (l : Lx) (z : Hp) (u : Vw) (fr : Fr) (σ : St) : Prop where
  live : ∀ a, gone u.H a → gone z a
  len : fr.length = σ.length
  own : ∀ (i : Nat) s a, fr[i]? = some s → s.isAc → σ[i]? = some (some (.ref a)) → gone z a
  sl : ∀ (i : Nat) s v, fr[i]? = some s → σ[i]? = some v → SlR l u s v
  apart : ∀ (i j : Nat) s t v, fr[i]? = some s → fr[j]? = some t → s.isAc → t.isAc → σ[i]? = some v → σ[j]? = some v → i = j

/-! ### from one view to a later one -/
def Ob.locked : Ob → Prop
  | .lst (_ + 1) _ => True
  | .dct (_ + 1) _ => True
  | _ => False
structure Ext (u u' : Vw) : Prop where
  ρm : ∀ id a, u.ρ id = some a → u'.ρ id = some a
  ρn : ∀ id a, u'.ρ id = some a → u.ρ id = some a ∨ gone u.H a
  Fm : ∀ a, u.F a → u'.F a
  Fn : ∀ a, u'.F a → u.F a ∨ gone u.H a
  keep : ∀ a o, u.H a = some o → (∀ id, u.ρ id ≠ some a) → (∀ ps, o ≠ .tbl ps) → u'.H a = some o
  live : ∀ a, gone u'.H a → gone u.H a
  lock : ∀ id o a, u.h[id]? = some o → o.locked → u.ρ id = some a → u'.h[id]? = some o ∧ u'.H a = u.H a
  len : u.h.length ≤ u'.h.length
theorem Ext.refl (u : Vw) : Ext u u := ⟨fun _ _ h => h, fun _ _ h => .inl h, fun _ h => h, fun _ h => .inl h, fun _ _ h _ _ => h, fun _ h => h, fun _ _ _ h _ _ => ⟨h, rfl⟩, Nat.le_refl _⟩
theorem Ext.trans {u v w : Vw} (a : Ext u v) (b : Ext v w) : Ext u w where
  ρm := fun id x h => b.ρm id x (a.ρm id x h)
  ρn := fun id x h => (b.ρn id x h).elim (a.ρn id x) fun h => .inr (a.live x h)
  Fm := fun x h => b.Fm x (a.Fm x h)
  Fn := fun x h => (b.Fn x h).elim (a.Fn x) fun h => .inr (a.live x h)
  keep := fun x o h n m => b.keep x o (a.keep x o h n m) (fun id e => (a.ρn id x e).elim (n id) fun e => absurd e (not_gone h m)) m
  live := fun x h => a.live x (b.live x h)
  lock := fun id o x h k r => by
    obtain ⟨h1, h2⟩ := a.lock id o x h k r
    obtain ⟨h3, h4⟩ := b.lock id o x h1 k (a.ρm id x r)
    exact ⟨h3, h4.trans h2⟩
  len := Nat.le_trans a.len b.len
/-- a container of its own, not locked -/
def isOpen : HO → Prop
  | .lst _ => True
  | .dK _ => True
  | .dT _ => True
  | _ => False
/-- the same behind a statement: what the def has made itself since its entry (z: the heap there) and keeps as its own may have changed -/
structure ExS (z : Hp) (u u' : Vw) : Prop where
  ρm : ∀ id a, u.ρ id = some a → u'.ρ id = some a
  ρn : ∀ id a, u'.ρ id = some a → u.ρ id = some a ∨ gone u.H a
  Fm : ∀ a, u.F a → u'.F a
  Fn : ∀ a, u'.F a → u.F a ∨ gone u.H a ∨ gone z a
  keep : ∀ a o, u.H a = some o → (∀ id, u.ρ id ≠ some a) → (∀ ps, o ≠ .tbl ps) → (¬ gone z a ∨ u.F a ∨ ¬ isOpen o) → u'.H a = some o
  live : ∀ a, gone u'.H a → gone u.H a
  lock : ∀ id o a, u.h[id]? = some o → o.locked → u.ρ id = some a → u'.h[id]? = some o ∧ u'.H a = u.H a
  len : u.h.length ≤ u'.h.length
theorem Ext.s {u u' : Vw} (e : Ext u u') (z : Hp) : ExS z u u' := ⟨e.ρm, e.ρn, e.Fm, fun a h => (e.Fn a h).elim .inl fun h => .inr (.inl h), fun a o h n m _ => e.keep a o h n m, e.live, e.lock, e.len⟩
theorem ExS.refl (z : Hp) (u : Vw) : ExS z u u := (Ext.refl u).s z
theorem ExS.trans {z : Hp} {u v w : Vw} (a : ExS z u v) (b : ExS z v w) : ExS z u w where
  ρm := fun id x h => b.ρm id x (a.ρm id x h)
  ρn := fun id x h => (b.ρn id x h).elim (a.ρn id x) fun h => .inr (a.live x h)
  Fm := fun x h => b.Fm x (a.Fm x h)
  Fn := fun x h => (b.Fn x h).elim (a.Fn x) fun h => h.elim (fun h => .inr (.inl (a.live x h))) fun h => .inr (.inr h)
  keep := fun x o h n m c => b.keep x o (a.keep x o h n m c) (fun id e => (a.ρn id x e).elim (n id) fun e => absurd e (not_gone h m)) m (c.elim .inl fun c => .inr (c.elim (fun c => .inl (a.Fm x c)) .inr))
  live := fun x h => a.live x (b.live x h)
  lock := fun id o x h k r => by
    obtain ⟨h1, h2⟩ := a.lock id o x h k r
    obtain ⟨h3, h4⟩ := b.lock id o x h1 k (a.ρm id x r)
    exact ⟨h3, h4.trans h2⟩
  len := Nat.le_trans a.len b.len
/-- from a def's entry -/
theorem ExS.all {u u' : Vw} (e : ExS u.H u u') : Ext u u' := ⟨e.ρm, e.ρn, e.Fm, fun a h => (e.Fn a h).elim .inl fun h => .inr (h.elim id id), fun a o h n m => e.keep a o h n m (.inl (not_gone h m)), e.live, e.lock, e.len⟩
section
variable {g : Gx} {l : Lx} {u u' : Vw}
theorem isMut_cases {o : HO} (h : isMut o) : (∀ vs, o ≠ .tup vs) ∧ (∀ φ, o ≠ .ext φ) ∧ ∀ ps, o ≠ .tbl ps := by
  refine ⟨fun vs e => ?_, fun φ e => ?_, fun ps e => ?_⟩ <;> (rw [e] at h; exact h)
/-- what stands at a numbered place -/
theorem HR.at (r : HR g l u) {id : Nat} {a : Addr} (e : u.ρ id = some a) : ∃ o, u.h[id]? = some o ∧ ¬ u.F a ∧ ObR g l u a o := by
  have hl := r.dom id a e
  obtain ⟨b, e1, e2, e3⟩ := r.ob id u.h[id] (by simp [hl])
  rw [e] at e1
  cases e1
  exact ⟨_, by simp [hl], e2, e3⟩
theorem ObR.mut {a : Addr} {o : Ob} (h : ObR g l u a o) : ∃ x, u.H a = some x ∧ isMut x := by
  cases o with
  | lst k xs => obtain ⟨vs, e, _⟩ := h; exact ⟨_, e, trivial⟩
  | dct k kvs =>
    cases k with
    | zero => rcases h with ⟨ks, e, _⟩ | ⟨ks, e, _⟩ <;> exact ⟨_, e, trivial⟩
    | succ k => rcases h with ⟨o, ks, e, _⟩ | ⟨o, ks, e, _⟩ <;> exact ⟨_, e, trivial⟩
  | ins c fs => obtain ⟨dx, fs', e, _⟩ := h; exact ⟨_, e, trivial⟩
theorem HR.not_num (r : HR g l u) {a : Addr} {o : HO} (e : u.H a = some o) (n : ¬ isMut o) : ∀ id, u.ρ id ≠ some a := fun id q => by
  obtain ⟨_, _, _, h⟩ := r.at q
  obtain ⟨x, e1, m⟩ := h.mut
  rw [e] at e1
  cases e1
  exact n m
theorem HR.frz_not (r : HR g l u) {a : Addr} (f : u.F a) : ∀ id, u.ρ id ≠ some a := fun id q => by
  obtain ⟨_, _, n, _⟩ := r.at q
  exact n f
theorem RepV.b (r : HR g l u) : ∀ {x : Val} {v : V}, RepV l u x v → RepB l u x v
  | .lst _, _, ⟨a, vs, e, f, h, q⟩ => ⟨a, vs, e, h, q, r.frz_not f⟩
  | .dct _, _, ⟨a, e, f, q⟩ => ⟨a, e, q.elim (fun ⟨ks, h1, h2⟩ => .inl ⟨ks, .inr h1, h2⟩) (fun ⟨ks, h1, h2⟩ => .inr ⟨ks, .inr h1, h2⟩), r.frz_not f⟩
  | .non, _, h => h
  | .bl _, _, h => h
  | .int _, _, h => h
  | .str _, _, h => h
  | .tup _, _, h => h
  | .ref _, _, h => h
  | .lam _, _, h => h
theorem Ext.sub (x : Ext u u') (r : HR g l u) : Sub u u' where
  ρm := x.ρm
  Fm := x.Fm
  tup := fun a vs e => x.keep a _ e (r.not_num e fun m => m) (fun ps q => by cases q)
  ext := fun a φ e => x.keep a _ e (r.not_num e fun m => m) (fun ps q => by cases q)
  lst := fun a vs f e => x.keep a _ e (r.frz_not f) (fun ps q => by cases q)
  dK := fun a ks f ⟨o, e⟩ => ⟨o, x.keep a _ e (r.frz_not f) (fun ps q => by cases q)⟩
  dT := fun a ks f ⟨o, e⟩ => ⟨o, x.keep a _ e (r.frz_not f) (fun ps q => by cases q)⟩
theorem RepFs.sub (s : Sub u u') : ∀ (xs : List (Nat × Val)) (vs : List (Str × V)), RepFs g l u xs vs → RepFs g l u' xs vs
  | [], _, h => h
  | (f, x) :: xs, _, ⟨v, r, e, h0, h1, h2⟩ => ⟨v, r, e, h0, RepV.sub s x v h1, RepFs.sub s xs r h2⟩
theorem ObR.same (s : Sub u u') {a : Addr} (e : u'.H a = u.H a) : ∀ {o : Ob}, ObR g l u a o → ObR g l u' a o
  | .lst _ _, ⟨vs, h1, h2⟩ => ⟨vs, e.trans h1, RepVs.sub s _ _ h2⟩
  | .dct 0 _, h => h.elim (fun ⟨ks, h1, h2⟩ => .inl ⟨ks, e.trans h1, RepK.sub s _ _ h2⟩) fun ⟨ks, h1, h2⟩ => .inr ⟨ks, e.trans h1, RepT1.sub s _ _ h2⟩
  | .dct (_ + 1) _, h => h.elim (fun ⟨o, ks, h1, h2⟩ => .inl ⟨o, ks, e.trans h1, RepK.sub s _ _ h2⟩) fun ⟨o, ks, h1, h2⟩ => .inr ⟨o, ks, e.trans h1, RepT1.sub s _ _ h2⟩
  | .ins _ _, ⟨dx, fs, h1, h2⟩ => ⟨dx, fs, e.trans h1, RepFs.sub s _ _ h2⟩
theorem RepV.ext {x : Val} {v : V} (h : RepV l u x v) (e : Ext u u') (r : HR g l u) : RepV l u' x v := RepV.sub (e.sub r) x v h
theorem RepVs.ext {x : List Val} {v : List V} (h : RepVs l u x v) (e : Ext u u') (r : HR g l u) : RepVs l u' x v := RepVs.sub (e.sub r) x v h
theorem RepB.ext (e : Ext u u') (r : HR g l u) : ∀ {x : Val} {v : V}, RepB l u x v → RepB l u' x v
  | .lst xs, _, ⟨a, vs, e1, h, q, n⟩ => ⟨a, vs, e1, e.keep a _ h n (fun ps z => by cases z), q.ext e r, fun id z => (e.ρn id a z).elim (n id) (not_gone h)⟩
  | .dct kvs, _, ⟨a, e1, q, n⟩ => ⟨a, e1, q.elim (fun ⟨ks, h1, h2⟩ => .inl ⟨ks, h1.elim (fun h => .inl (e.keep a _ h n (fun ps z => by cases z))) (fun ⟨o, h⟩ => .inr ⟨o, e.keep a _ h n (fun ps z => by cases z)⟩), RepK.sub (e.sub r) _ _ h2⟩)
      (fun ⟨ks, h1, h2⟩ => .inr ⟨ks, h1.elim (fun h => .inl (e.keep a _ h n (fun ps z => by cases z))) (fun ⟨o, h⟩ => .inr ⟨o, e.keep a _ h n (fun ps z => by cases z)⟩), RepT1.sub (e.sub r) _ _ h2⟩),
      fun id z => (e.ρn id a z).elim (n id) fun z => by
        rcases q with ⟨ks, h1 | ⟨o, h1⟩, _⟩ | ⟨ks, h1 | ⟨o, h1⟩, _⟩ <;> exact not_gone h1 (by intro ps z; cases z) z⟩
  | .non, _, h => h
  | .bl _, _, h => h
  | .int _, _, h => h
  | .str _, _, h => h
  | .tup xs, v, h => RepV.ext (x := .tup xs) h e r
  | .ref id, v, h => RepV.ext (x := .ref id) h e r
  | .lam k, v, h => RepV.ext (x := .lam k) h e r
/-- the frame stands -/
theorem FR.ext {fr : Fr} {σ : St} {z : Hp} (f : FR l z u fr σ) (e : Ext u u') (r : HR g l u) : FR l z u' fr σ := by
  have s := e.sub r
  refine ⟨fun a h => f.live a (e.live a h), f.len, f.own, fun i t v h1 h2 => ?_, f.apart⟩
  have q := f.sl i t v h1 h2
  have nn : ∀ {a : Addr}, ¬ gone u.H a → ¬ u.F a → (∀ id, u.ρ id ≠ some a) → ¬ u'.F a ∧ ∀ id, u'.ρ id ≠ some a := fun {a} h n m =>
    ⟨fun z => (e.Fn a z).elim n h, fun id z => (e.ρn id a z).elim (m id) h⟩
  cases t with
  | no => trivial
  | val x => obtain ⟨y, q1, q2⟩ := q; exact ⟨y, q1, q2.ext e r⟩
  | acl k xs =>
    obtain ⟨a, vs, q1, q2, q3, q4, q5⟩ := q
    obtain ⟨m1, m2⟩ := nn (not_gone q2) q4 q5
    exact ⟨a, vs, q1, e.keep a _ q2 q5 (fun ps z => by cases z), q3.ext e r, m1, m2⟩
  | acd k kvs =>
    cases k with
    | zero =>
      obtain ⟨a, q1, q2, q4, q5⟩ := q
      rcases q2 with ⟨ks, h3, h4⟩ | ⟨ks, h3, h4⟩
      · obtain ⟨m1, m2⟩ := nn (not_gone h3) q4 q5
        exact ⟨a, q1, .inl ⟨ks, e.keep a _ h3 q5 (fun ps z => by cases z), RepK.sub s _ _ h4⟩, m1, m2⟩
      · obtain ⟨m1, m2⟩ := nn (not_gone h3) q4 q5
        exact ⟨a, q1, .inr ⟨ks, e.keep a _ h3 q5 (fun ps z => by cases z), RepT1.sub s _ _ h4⟩, m1, m2⟩
    | succ k =>
      obtain ⟨a, q1, q2, q4, q5⟩ := q
      rcases q2 with ⟨o, ks, h3, h4⟩ | ⟨o, ks, h3, h4⟩
      · obtain ⟨m1, m2⟩ := nn (not_gone h3) q4 q5
        exact ⟨a, q1, .inl ⟨o, ks, e.keep a _ h3 q5 (fun ps z => by cases z), RepK.sub s _ _ h4⟩, m1, m2⟩
      · obtain ⟨m1, m2⟩ := nn (not_gone h3) q4 q5
        exact ⟨a, q1, .inr ⟨o, ks, e.keep a _ h3 q5 (fun ps z => by cases z), RepT1.sub s _ _ h4⟩, m1, m2⟩
end
end Pk

set_option maxRecDepth 100000
/-! Pk2: a reading that runs the code; the rules for names, constants, operators, tests. -/
namespace Pk
open PySem L2

section
variable (g : Gx) (l : Lx)
/-- what is wanted of a run's end -/
def Run {α β : Type} (W : WX) (σ : St) (rep : Vw → α → β → Prop) (Q : β → Hp → Prop) (u : Vw) (r : Res α) : Prop := match r with
  | .ok x h => ∀ u', u'.h = h → Ext u u' → HR g l u' → ∀ v, rep u' x v → Q v u'.H
  | .exc e h => ∀ u', u'.h = h → Ext u u' → HR g l u' → W (g.err e) none σ u'.H
  | .bad => False
/-- a view of the heap H, with the frame -/
def At {β : Type} (σ : St) (H : Hp) (P : Vw → Fr → Prop) : Prop := ∃ z u fr, u.H = H ∧ HR g l u ∧ FR l z u fr σ ∧ P u fr
def tE (W : WX) (rep : Vw → Val → V → Prop) (c : C) : TE := fun σ H Q => ∃ z u fr, u.H = H ∧ HR g l u ∧ FR l z u fr σ ∧ Run g l W σ rep Q u (c fr u.h)
def tA (W : WX) (c : CL) : TA := fun σ H Q => ∃ z u fr, u.H = H ∧ HR g l u ∧ FR l z u fr σ ∧ Run g l W σ (RepVs l) Q u (c fr u.h)
def toB : Res Val → Res Bool
  | .ok (.bl b) h => .ok b h
  | .ok _ _ => .bad
  | .exc c h => .exc c h
  | .bad => .bad
def repB : Vw → Bool → Bool → Prop := fun _ a b => b = a
def tT (W : WX) (c : C) : TT := fun σ H Q => ∃ z u fr, u.H = H ∧ HR g l u ∧ FR l z u fr σ ∧ Run g l W σ repB Q u (toB (c fr u.h))
/-- an expression that gives a value; one that is only looked at -/
abbrev SE (X : Cx) (W : WX) (e : Expr) (c : C) : Prop := PE X e (tE g l W (RepV l) c)
abbrev SB (X : Cx) (W : WX) (e : Expr) (c : C) : Prop := PE X e (tE g l W (RepB l) c)
abbrev SA (X : Cx) (W : WX) (es : List Expr) (c : CL) : Prop := PA X es (tA g l W c)
abbrev ST (X : Cx) (W : WX) (e : Expr) (c : C) : Prop := PT X e (tT g l W c)
end

theorem PE.weak {X : Cx} {e : Expr} {t t' : TE} (h : PE X e t) (w : ∀ σ H Q, t' σ H Q → t σ H Q) : PE X e t' := ⟨fun pins s σ H Q I q => h.run pins s σ H Q I (w σ H Q q)⟩
theorem PT.weak {X : Cx} {e : Expr} {t t' : TT} (h : PT X e t) (w : ∀ σ H Q, t' σ H Q → t σ H Q) : PT X e t' := ⟨fun pins s σ H Q I q => h.run pins s σ H Q I (w σ H Q q)⟩
theorem PW.weak {X : Cx} {e : Expr} {t t' : TT} (h : PW X e t) (w : ∀ σ H Q, t' σ H Q → t σ H Q) : PW X e t' := ⟨fun wh pins s σ H Q I q => h.run wh pins s σ H Q I (w σ H Q q)⟩
theorem PA.weak {X : Cx} {e : List Expr} {t t' : TA} (h : PA X e t) (w : ∀ σ H Q, t' σ H Q → t σ H Q) : PA X e t' := ⟨fun p pins s σ H Q I q => h.run p pins s σ H Q I (w σ H Q q)⟩
theorem PS.weak {X : Cx} {e : Stmt} {t t' : TS} (h : PS X e t) (w : ∀ D σ H, t' D σ H → t D σ H) : PS X e t' := ⟨fun pins s σ H D I q => h.run pins s σ H D I (w D σ H q)⟩
theorem PSs.weak {X : Cx} {e : List Stmt} {t t' : TS} (h : PSs X e t) (w : ∀ D σ H, t' D σ H → t D σ H) : PSs X e t' := ⟨fun pins s σ H D I q => h.run pins s σ H D I (w D σ H q)⟩

section
variable {g : Gx} {l : Lx} {W : WX} {σ : St} {u u' : Vw}
theorem Run.mono {α β : Type} {rep : Vw → α → β → Prop} {Q : β → Hp → Prop} {r : Res α} (e : Ext u u') (h : Run g l W σ rep Q u r) : Run g l W σ rep Q u' r := by
  cases r with
  | ok x hh => exact fun u'' q e' r' => h u'' q (e.trans e') r'
  | exc c hh => exact fun u'' q e' r' => h u'' q (e.trans e') r'
  | bad => exact h
theorem Run.weak {α β : Type} {rep rep' : Vw → α → β → Prop} {Q Q' : β → Hp → Prop} {r : Res α} (h : Run g l W σ rep Q u r) (hr : ∀ u' x v, Ext u u' → HR g l u' → rep' u' x v → rep u' x v) (hq : ∀ v H, Q v H → Q' v H) : Run g l W σ rep' Q' u r := by
  cases r with
  | ok x hh => exact fun u'' q e' r' v rv => hq _ _ (h u'' q e' r' v (hr u'' x v e' r' rv))
  | exc c hh => exact h
  | bad => exact h
/-- the part that runs first -/
theorem Run.bind {α β α' β' : Type} {rep : Vw → α → β → Prop} {rep' : Vw → α' → β' → Prop} {Q : β' → Hp → Prop} {r : Res α} {k : α → Hv → Res α'} (h : Run g l W σ rep' Q u (r.bind k)) :
    Run g l W σ rep (fun v H1 => ∃ u1 x, u1.H = H1 ∧ Ext u u1 ∧ HR g l u1 ∧ rep u1 x v ∧ Run g l W σ rep' Q u1 (k x u1.h)) u r := by
  cases r with
  | ok x hh => exact fun u1 q e r1 v rv => ⟨u1, x, rfl, e, r1, rv, by rw [q]; exact Run.mono e h⟩
  | exc c hh => exact h
  | bad => exact h
/-- the same, what follows told of the first view -/
theorem Run.bind0 {α β α' β' : Type} {rep : Vw → α → β → Prop} {rep' : Vw → α' → β' → Prop} {Q : β' → Hp → Prop} {r : Res α} {k : α → Hv → Res α'} (h : Run g l W σ rep' Q u (r.bind k)) :
    Run g l W σ rep (fun v H1 => ∃ u1 x, u1.H = H1 ∧ Ext u u1 ∧ HR g l u1 ∧ rep u1 x v ∧ Run g l W σ rep' Q u (k x u1.h)) u r := by
  cases r with
  | ok x hh => exact fun u1 q e r1 v rv => ⟨u1, x, rfl, e, r1, rv, by rw [q]; exact h⟩
  | exc c hh => exact h
  | bad => exact h
theorem Run.at_ {α β : Type} {rep : Vw → α → β → Prop} {Q : β → Hp → Prop} {x : α} {v : β} {hh : Hv} (h : Run g l W σ rep Q u (.ok x hh)) {u' : Vw} (e : Ext u u') (eh : u'.h = hh) (r : HR g l u') (rv : rep u' x v) : Q v u'.H := h u' eh e r v rv
theorem Run.bad {α β : Type} {rep : Vw → α → β → Prop} {Q : β → Hp → Prop} (h : Run g l W σ rep Q u .bad) : False := h
theorem Run.here {α β : Type} {rep : Vw → α → β → Prop} {Q : β → Hp → Prop} {x : α} {v : β} {hh : Hv} (h : Run g l W σ rep Q u (.ok x hh)) (e : u.h = hh) (r : HR g l u) (rv : rep u x v) : Q v u.H := h u e (Ext.refl u) r v rv

/-- the first part, then the rest -/
theorem tE.first {α' β' : Type} {rep : Vw → Val → V → Prop} {rep' : Vw → α' → β' → Prop} {Q : β' → Hp → Prop} {Q' : V → Hp → Prop} {c : C} {k : Val → Hv → Res α'} {z : Hp} {fr : Fr} (hr : HR g l u) (hf : FR l z u fr σ)
    (h : Run g l W σ rep' Q u ((c fr u.h).bind k)) (hq : ∀ u1 x v, Ext u u1 → HR g l u1 → FR l z u1 fr σ → rep u1 x v → Run g l W σ rep' Q u1 (k x u1.h) → Q' v u1.H) : tE g l W rep c σ u.H Q' :=
  ⟨z, u, fr, rfl, hr, hf, Run.weak (Run.bind h) (fun _ _ _ _ _ h => h) fun _ _ ⟨u1, x, e1, e2, e3, e4, e5⟩ => e1 ▸ hq u1 x _ e2 e3 (hf.ext e2 hr) e4 e5⟩
theorem tA.first {α' β' : Type} {rep' : Vw → α' → β' → Prop} {Q : β' → Hp → Prop} {Q' : List V → Hp → Prop} {c : CL} {k : List Val → Hv → Res α'} {z : Hp} {fr : Fr} (hr : HR g l u) (hf : FR l z u fr σ)
    (h : Run g l W σ rep' Q u ((c fr u.h).bind k)) (hq : ∀ u1 x v, Ext u u1 → HR g l u1 → FR l z u1 fr σ → RepVs l u1 x v → Run g l W σ rep' Q u1 (k x u1.h) → Q' v u1.H) : tA g l W c σ u.H Q' :=
  ⟨z, u, fr, rfl, hr, hf, Run.weak (Run.bind h) (fun _ _ _ _ _ h => h) fun _ _ ⟨u1, x, e1, e2, e3, e4, e5⟩ => e1 ▸ hq u1 x _ e2 e3 (hf.ext e2 hr) e4 e5⟩
/-- a test: what follows by its answer -/
theorem tT.first {α' β' : Type} {rep' : Vw → α' → β' → Prop} {Q : β' → Hp → Prop} {Q' : Bool → Hp → Prop} {c : C} {k : Bool → Hv → Res α'} {z : Hp} {fr : Fr} (hr : HR g l u) (hf : FR l z u fr σ)
    (h : Run g l W σ rep' Q u ((toB (c fr u.h)).bind k)) (hq : ∀ u1 b, Ext u u1 → HR g l u1 → FR l z u1 fr σ → Run g l W σ rep' Q u1 (k b u1.h) → Q' b u1.H) : tT g l W c σ u.H Q' :=
  ⟨z, u, fr, rfl, hr, hf, Run.weak (Run.bind (rep := repB) h) (fun _ _ _ _ _ h => h) fun b _ ⟨u1, x, e1, e2, e3, e4, e5⟩ => e1 ▸ hq u1 b e2 e3 (hf.ext e2 hr) (by rw [show b = x from e4]; exact e5)⟩
theorem HR.numbered (r : HR g l u) {id : Nat} {a : Addr} (e : u.ρ id = some a) : ∃ x, u.H a = some x ∧ isMut x := by
  obtain ⟨_, _, _, h⟩ := r.at e
  exact h.mut
/-- a new object at p; it may become frozen, or numbered -/
theorem Ext.new {p : Addr} {o : HO} {F' : Addr → Prop} {ρ' : Nat → Option Addr} {h' : Hv} (r : HR g l u) (hp : u.H p = none) (hF : ∀ a, F' a ↔ u.F a ∨ (a = p ∧ F' p)) (hρ : ∀ id a, u.ρ id = some a → ρ' id = some a) (hρn : ∀ id a, ρ' id = some a → u.ρ id = some a ∨ a = p)
    (hh : ∀ (id : Nat) ob, u.h[id]? = some ob → h'[id]? = some ob) (hl : u.h.length ≤ h'.length) : Ext u ⟨ρ', F', upd u.H p o, h'⟩ where
  ρm := hρ
  ρn := fun id a e => (hρn id a e).elim .inl fun e => .inr (gone_none (e ▸ hp))
  Fm := fun a h => (hF a).mpr (.inl h)
  Fn := fun a h => ((hF a).mp h).elim .inl fun h => .inr (gone_none (h.1 ▸ hp))
  keep := fun a o' e _ _ => (upd_ne (ne_of_none e hp)).trans e
  live := fun a e o h => e o ((upd_ne (ne_of_none h hp)).trans h)
  lock := fun id ob a h1 _ h3 => ⟨hh id ob h1, by
    obtain ⟨x, e, _⟩ := r.numbered h3
    exact upd_ne (ne_of_none e hp)⟩
  len := hl
theorem upd_keep {H : Hp} {p : Addr} {o : HO} (hp : H p = none) : ∀ b x, H b = some x → upd H p o b = some x := fun b x e => (upd_ne (ne_of_none e hp)).trans e
/-- the relation behind a new object -/
theorem HR.new {p : Addr} {o : HO} (r : HR g l u) (hp : u.H p = none) : HR g l ⟨u.ρ, u.F, upd u.H p o, u.h⟩ ∧ Ext u ⟨u.ρ, u.F, upd u.H p o, u.h⟩ := by
  have e : Ext u ⟨u.ρ, u.F, upd u.H p o, u.h⟩ := Ext.new r hp (fun a => ⟨.inl, fun h => h.elim id fun h => h.1 ▸ h.2⟩) (fun _ _ h => h) (fun _ _ h => .inl h) (fun _ _ h => h) (Nat.le_refl _)
  refine ⟨⟨r.dom, r.inj, fun id ob h => ?_, fun a h => ?_, r.tab.ext (upd_keep hp)⟩, e⟩
  · obtain ⟨a, h1, h2, h3⟩ := r.ob id ob h
    obtain ⟨x, h4, _⟩ := h3.mut
    exact ⟨a, h1, h2, h3.same (e.sub r) (upd_ne (ne_of_none h4 hp))⟩
  · obtain ⟨x, h1, h2⟩ := r.frz a h
    exact ⟨x, upd_keep hp _ _ h1, h2⟩
/-- .. that is frozen -/
theorem HR.newF {p : Addr} {o : HO} (r : HR g l u) (hp : u.H p = none) (ho : isBox o) : HR g l ⟨u.ρ, fun a => u.F a ∨ a = p, upd u.H p o, u.h⟩ ∧ Ext u ⟨u.ρ, fun a => u.F a ∨ a = p, upd u.H p o, u.h⟩ := by
  have e : Ext u ⟨u.ρ, fun a => u.F a ∨ a = p, upd u.H p o, u.h⟩ := Ext.new r hp (fun a => ⟨fun h => h.elim .inl fun h => .inr ⟨h, .inr rfl⟩, fun h => h.elim .inl fun h => .inr h.1⟩) (fun _ _ h => h) (fun _ _ h => .inl h) (fun _ _ h => h) (Nat.le_refl _)
  refine ⟨⟨r.dom, r.inj, fun id ob h => ?_, fun a h => ?_, r.tab.ext (upd_keep hp)⟩, e⟩
  · obtain ⟨a, h1, h2, h3⟩ := r.ob id ob h
    obtain ⟨x, h4, _⟩ := h3.mut
    exact ⟨a, h1, fun z => z.elim h2 (ne_of_none h4 hp), h3.same (e.sub r) (upd_ne (ne_of_none h4 hp))⟩
  · rcases h with h | h
    · obtain ⟨x, h1, h2⟩ := r.frz a h
      exact ⟨x, upd_keep hp _ _ h1, h2⟩
    · exact ⟨o, h ▸ upd_same, ho⟩
/-- .. that gets the next number -/
theorem HR.newN {p : Addr} {o : HO} {ob : Ob} (r : HR g l u) (hp : u.H p = none) (hb : ∀ u' : Vw, Ext u u' → u'.H p = some o → ObR g l u' p ob) :
    HR g l ⟨fun id => if id = u.h.length then some p else u.ρ id, u.F, upd u.H p o, u.h ++ [ob]⟩ ∧ Ext u ⟨fun id => if id = u.h.length then some p else u.ρ id, u.F, upd u.H p o, u.h ++ [ob]⟩ := by
  have old : ∀ id a, u.ρ id = some a → (if id = u.h.length then some p else u.ρ id) = some a := fun id a h => by
    rw [if_neg (Nat.ne_of_lt (r.dom id a h))]
    exact h
  have e : Ext u ⟨fun id => if id = u.h.length then some p else u.ρ id, u.F, upd u.H p o, u.h ++ [ob]⟩ := by
    refine Ext.new r hp (fun a => ⟨.inl, fun h => h.elim id fun h => h.1 ▸ h.2⟩) old (fun id a h => ?_) (fun id x h => ?_) (by rw [List.length_append]; exact Nat.le_add_right _ _)
    · by_cases q : id = u.h.length
      · rw [if_pos q] at h; cases h; exact .inr rfl
      · rw [if_neg q] at h; exact .inl h
    · rw [List.getElem?_append_left (List.getElem?_eq_some_iff.mp h).1]; exact h
  have np : ∀ id a, u.ρ id = some a → a ≠ p := fun id a h => by
    obtain ⟨x, h4, _⟩ := r.numbered h
    exact ne_of_none h4 hp
  refine ⟨⟨fun id a h => ?_, fun i j a h1 h2 => ?_, fun id x h => ?_, fun a h => ?_, r.tab.ext (upd_keep hp)⟩, e⟩
  · show id < (u.h ++ [ob]).length
    rw [List.length_append]
    by_cases q : id = u.h.length
    · rw [q]; exact Nat.lt_succ_self _
    · exact Nat.lt_succ_of_lt (r.dom id a ((if_neg q).symm.trans h))
  · by_cases q1 : i = u.h.length <;> by_cases q2 : j = u.h.length
    · rw [q1, q2]
    · have h1 : some p = some a := (if_pos q1).symm.trans h1
      exact absurd (Option.some.inj h1).symm (np j a ((if_neg q2).symm.trans h2))
    · have h2 : some p = some a := (if_pos q2).symm.trans h2
      exact absurd (Option.some.inj h2).symm (np i a ((if_neg q1).symm.trans h1))
    · exact r.inj i j a ((if_neg q1).symm.trans h1) ((if_neg q2).symm.trans h2)
  · have h : (u.h ++ [ob])[id]? = some x := h
    by_cases q : id < u.h.length
    · rw [List.getElem?_append_left q] at h
      obtain ⟨a, h1, h2, h3⟩ := r.ob id x h
      exact ⟨a, old id a h1, h2, h3.same (e.sub r) (upd_ne (np id a h1))⟩
    · have q2 : id = u.h.length := by
        have := (List.getElem?_eq_some_iff.mp h).1
        rw [List.length_append] at this
        simp only [List.length_singleton] at this
        omega
      rw [q2, List.getElem?_append_right (Nat.le_refl _), Nat.sub_self] at h
      cases h
      refine ⟨p, if_pos q2, fun z => ?_, hb _ e upd_same⟩
      obtain ⟨y, h1, _⟩ := r.frz p z
      rw [hp] at h1; cases h1
  · obtain ⟨x, h1, h2⟩ := r.frz a h
    exact ⟨x, upd_keep hp _ _ h1, h2⟩
end

/-! ### values -/
section
variable {g : Gx} {l : Lx} {X : Cx} {W : WX}
theorem SE.b {e : Expr} {c : C} (h : SE g l X W e c) : SB g l X W e c := PE.weak h fun σ H Q ⟨z, u, fr, e1, e2, e3, e4⟩ => ⟨z, u, fr, e1, e2, e3, Run.weak e4 (fun _ _ _ _ r h => h.b r) fun _ _ h => h⟩
theorem se_K {x : Val} {e : Expr} {v : V} (h : PE X e (tC v)) (r : ∀ u, RepV l u x v) : SE g l X W e (cK x) :=
  PE.weak h fun σ H Q ⟨z, u, fr, e1, e2, e3, e4⟩ => by rw [← e1]; exact Run.here e4 rfl e2 (r u)
theorem se_int {i : Int} {j pos} : SE g l X W (.Constant (.int i) j pos) (cK (.int i)) := se_K pe_int fun _ => rfl
theorem se_bl {i : Bool} {j pos} : SE g l X W (.Constant (.bool i) j pos) (cK (.bl i)) := se_K pe_bl fun _ => rfl
theorem se_str {i : Str} {j pos} : SE g l X W (.Constant (.str i) j pos) (cK (.str i)) := se_K pe_str fun _ => rfl
theorem se_non {j pos} : SE g l X W (.Constant .none j pos) (cK .non) := se_K pe_non fun _ => rfl
theorem se_var (i : Nat) {x : Str} {pos : Pos} (hN : X.N[i]? = some x := by rfl) (hv : Vis X.env.scope x := by first | exact Or.inl rfl | exact Or.inr (Or.inl rfl) | exact Or.inr (Or.inr rfl)) (hd : (x == ("__debug__" : Str)) = false := by decide)
    (hcd : (x == ("__classdict__" : Str)) = false := by decide) : SE g l X W (.Name x pos) (cV i) := by
  refine PE.weak (pe_var (i := i) hN hv hd hcd) fun σ H Q ⟨z, u, fr, e1, e2, e3, e4⟩ => ?_
  unfold cV at e4
  split at e4
  · rename_i v hv
    have hl : i < σ.length := by rw [← e3.len]; exact (List.getElem?_eq_some_iff.mp hv).1
    obtain ⟨y, q1, q2⟩ := e3.sl i _ σ[i] hv (by simp [hl])
    refine ⟨y, by rw [List.getElem?_eq_getElem hl, q1], ?_⟩
    rw [← e1]
    exact Run.here e4 rfl e2 q2
  · exact (Run.bad e4).elim
theorem sb_acc (i : Nat) {x : Str} {pos : Pos} (hN : X.N[i]? = some x := by rfl) (hv : Vis X.env.scope x := by first | exact Or.inl rfl | exact Or.inr (Or.inl rfl) | exact Or.inr (Or.inr rfl)) (hd : (x == ("__debug__" : Str)) = false := by decide)
    (hcd : (x == ("__classdict__" : Str)) = false := by decide) : SB g l X W (.Name x pos) (cA i) := by
  refine PE.weak (pe_var (i := i) hN hv hd hcd) fun σ H Q ⟨z, u, fr, e1, e2, e3, e4⟩ => ?_
  have fin : ∀ {s : Sl} {x : Val}, fr[i]? = some s → Run g l W σ (RepB l) Q u (.ok x u.h) → (∀ v, SlR l u s v → ∃ a, v = some (.ref a) ∧ RepB l u x (.ref a)) → ∃ v, σ[i]? = some (some v) ∧ Q v H := fun {s x} hv e4 k => by
    have hl : i < σ.length := by rw [← e3.len]; exact (List.getElem?_eq_some_iff.mp hv).1
    obtain ⟨a, q1, q2⟩ := k _ (e3.sl i _ σ[i] hv (by simp [hl]))
    refine ⟨.ref a, by rw [List.getElem?_eq_getElem hl, q1], ?_⟩
    rw [← e1]
    exact Run.here e4 rfl e2 q2
  unfold cA at e4
  split at e4
  · rename_i hv
    exact fin hv e4 fun v ⟨a, vs, q1, q2, q3, _, q5⟩ => ⟨a, q1, a, vs, rfl, q2, q3, q5⟩
  · rename_i k kvs hv
    refine fin hv e4 fun v q => ?_
    cases k with
    | zero =>
      obtain ⟨a, q1, q2, _, q5⟩ := q
      exact ⟨a, q1, a, rfl, q2.elim (fun ⟨ks, h1, h2⟩ => .inl ⟨ks, .inl h1, h2⟩) fun ⟨ks, h1, h2⟩ => .inr ⟨ks, .inl h1, h2⟩, q5⟩
    | succ k =>
      obtain ⟨a, q1, q2, _, q5⟩ := q
      exact ⟨a, q1, a, rfl, q2.elim (fun ⟨o, ks, h1, h2⟩ => .inl ⟨ks, .inr ⟨o, h1⟩, h2⟩) fun ⟨o, ks, h1, h2⟩ => .inr ⟨ks, .inr ⟨o, h1⟩, h2⟩, q5⟩
  · exact (Run.bad e4).elim

/-! ### rows of expressions -/
theorem sa_nil : SA g l X W [] cs0 := PA.weak pa_nil fun σ H Q ⟨z, u, fr, e1, e2, e3, e4⟩ => by rw [← e1]; exact Run.here e4 rfl e2 rfl
theorem sa_cons {e : Expr} {es : List Expr} {c : C} {r : CL} (h : SE g l X W e c) (hr : SA g l X W es r) (hs : starEach (e :: es) X.env = (false, eval e X.env) :: starEach es X.env := by rfl) : SA g l X W (e :: es) (csC c r) := by
  refine PA.weak (pa_cons h hr hs) fun σ H Q ⟨z, u, fr, e1, e2, e3, e4⟩ => ?_
  rw [← e1]
  refine tE.first e2 e3 e4 fun u1 x v x1 r1 f1 rx h1 => ?_
  refine tA.first r1 f1 h1 fun u2 xs vs x2 r2 f2 rxs h2 => ?_
  exact Run.here h2 rfl r2 ⟨v, vs, rfl, rx.ext x2 r1, rxs⟩
end
end Pk

set_option maxRecDepth 100000
/-! Pk3: new containers, operators. -/
namespace Pk
open PySem L2

section
variable {g : Gx} {l : Lx} {W : WX} {σ : St} {u u1 : Vw}
/-- what stands at a -/
def ContR (l : Lx) (u : Vw) (a : Addr) : Cont → Prop
  | .l xs => ∃ vs, u.H a = some (.lst vs) ∧ RepVs l u xs vs
  | .d kvs => (∃ ks, u.H a = some (.dK ks) ∧ RepK l u kvs ks) ∨ ∃ ks, u.H a = some (.dT ks) ∧ RepT1 l u kvs ks
/-- a new container, nobody's yet -/
def RepN (l : Lx) (u0 u : Vw) (c : Cont) (v : V) : Prop := ∃ a, v = .ref a ∧ gone u0.H a ∧ ¬ u.F a ∧ (∀ id, u.ρ id ≠ some a) ∧ ContR l u a c
theorem ContR.box {a : Addr} : ∀ {c : Cont}, ContR l u a c → ∃ o, u.H a = some o ∧ isBox o
  | .l _, ⟨_, h, _⟩ => ⟨_, h, trivial⟩
  | .d _, h => h.elim (fun ⟨_, h, _⟩ => ⟨_, h, trivial⟩) fun ⟨_, h, _⟩ => ⟨_, h, trivial⟩
theorem ContR.sub {u' : Vw} (s : Sub u u') {a : Addr} (e : u'.H a = u.H a) : ∀ {c : Cont}, ContR l u a c → ContR l u' a c
  | .l _, ⟨vs, h1, h2⟩ => ⟨vs, e.trans h1, RepVs.sub s _ _ h2⟩
  | .d _, h => h.elim (fun ⟨ks, h1, h2⟩ => .inl ⟨ks, e.trans h1, RepK.sub s _ _ h2⟩) fun ⟨ks, h1, h2⟩ => .inr ⟨ks, e.trans h1, RepT1.sub s _ _ h2⟩
theorem ContR.o {a : Addr} : ∀ {c : Cont}, ContR l u a c → ObR g l u a c.ob
  | .l _, h => h
  | .d _, h => h
/-- it is frozen: a dict stands from now on as it is -/
theorem RepN.frz {c : Cont} {v : V} (e : Ext u u1) (r : HR g l u1) (n : RepN l u u1 c v) : (∃ u2 : Vw, u2.H = u1.H ∧ u2.h = u1.h ∧ Ext u u2 ∧ HR g l u2 ∧ RepV l u2 c.val v) ∨
    ∃ a o, u1.H a = some o ∧ Mut (some o) ∧ ∀ od, ∃ u2 : Vw, u2.H = upd u1.H a (.frz od o) ∧ u2.h = u1.h ∧ Ext u u2 ∧ HR g l u2 ∧ RepV l u2 c.val v := by
  obtain ⟨a, rfl, h0, hF, hρ, hc⟩ := n
  cases c with
  | l xs =>
    have s : Sub u1 ⟨u1.ρ, fun b => u1.F b ∨ b = a, u1.H, u1.h⟩ := ⟨fun _ _ h => h, fun _ h => .inl h, fun _ _ h => h, fun _ _ h => h, fun _ _ _ h => h, fun _ _ _ h => h, fun _ _ _ h => h⟩
    obtain ⟨vs, hc1, hc2⟩ := hc
    refine .inl ⟨⟨u1.ρ, fun b => u1.F b ∨ b = a, u1.H, u1.h⟩, rfl, rfl, ⟨e.ρm, e.ρn, fun b h => .inl (e.Fm b h), fun b h => h.elim (e.Fn b) fun h => .inr (h ▸ h0), e.keep, e.live, e.lock, e.len⟩, ⟨r.dom, r.inj, fun id o h => ?_, fun b h => ?_, r.tab⟩, a, vs, rfl, .inr rfl, hc1, RepVs.sub s _ _ hc2⟩
    · obtain ⟨b, h1, h2, h3⟩ := r.ob id o h
      exact ⟨b, h1, fun z => z.elim h2 fun z => hρ id (z ▸ h1), h3.same s rfl⟩
    · rcases h with h | h
      · exact r.frz b h
      · subst h; exact ⟨_, hc1, trivial⟩
  | d kvs =>
    have key : ∀ o, u1.H a = some o → isMut o → isBox o → (∀ od, Sub u1 ⟨u1.ρ, fun b => u1.F b ∨ b = a, upd u1.H a (.frz od o), u1.h⟩ ∧ Ext u ⟨u1.ρ, fun b => u1.F b ∨ b = a, upd u1.H a (.frz od o), u1.h⟩ ∧ HR g l ⟨u1.ρ, fun b => u1.F b ∨ b = a, upd u1.H a (.frz od o), u1.h⟩) := fun o ho hm hb od => by
      have nm := isMut_cases hm
      have s : Sub u1 ⟨u1.ρ, fun b => u1.F b ∨ b = a, upd u1.H a (.frz od o), u1.h⟩ := by
        refine ⟨fun _ _ h => h, fun _ h => .inl h, fun b vs h => ?_, fun b φ h => ?_, fun b vs f h => ?_, fun b ks f h => ?_, fun b ks f h => ?_⟩
        · exact (upd_ne (fun z => by rw [z, ho] at h; cases h; exact nm.1 _ rfl)).trans h
        · exact (upd_ne (fun z => by rw [z, ho] at h; cases h; exact nm.2.1 _ rfl)).trans h
        · exact (upd_ne (fun (z : b = a) => hF (z ▸ f))).trans h
        · obtain ⟨o', h⟩ := h; exact ⟨o', (upd_ne (fun (z : b = a) => hF (z ▸ f))).trans h⟩
        · obtain ⟨o', h⟩ := h; exact ⟨o', (upd_ne (fun (z : b = a) => hF (z ▸ f))).trans h⟩
      refine ⟨s, ⟨e.ρm, e.ρn, fun b h => .inl (e.Fm b h), fun b h => h.elim (e.Fn b) fun h => .inr (h ▸ h0), fun b x h n m => ?_, fun b h => ?_, fun id ob b h1 h2 h3 => ?_, e.len⟩, ⟨r.dom, r.inj, fun id ob h => ?_, fun b h => ?_, fun p hp => ?_⟩⟩
      · have nb : b ≠ a := fun z => not_gone h m (z ▸ h0)
        exact (upd_ne nb).trans (e.keep b x h n m)
      · refine e.live b fun x hx => ?_
        by_cases q : b = a
        · subst q
          obtain ⟨ps, z⟩ := h _ upd_same
          cases z
        · exact h x ((upd_ne q).trans hx)
      · obtain ⟨h4, h5⟩ := e.lock id ob b h1 h2 h3
        have nb : b ≠ a := fun z => hρ id (by rw [← z]; exact e.ρm id b h3)
        exact ⟨h4, (upd_ne nb).trans h5⟩
      · obtain ⟨b, h1, h2, h3⟩ := r.ob id ob h
        have nb : b ≠ a := fun z => hρ id (by rw [← z]; exact h1)
        exact ⟨b, h1, fun z => z.elim h2 nb, h3.same s (upd_ne nb)⟩
      · by_cases q : b = a
        · subst q; exact ⟨_, upd_same, hb⟩
        · obtain ⟨x, h1, h2⟩ := r.frz b (h.resolve_right q)
          exact ⟨x, (upd_ne q).trans h1, h2⟩
      · obtain ⟨ps, h1, h2, h3⟩ := r.tab p hp
        have np : p.1 ≠ a := fun z => by rw [z, ho] at h1; cases h1; exact nm.2.2 _ rfl
        refine ⟨ps, (upd_ne np).trans h1, h2, fun pos cv hcv => ?_⟩
        obtain ⟨c, e1, e2⟩ := h3 pos cv hcv
        exact ⟨c, e1, s.ext _ _ e2⟩
    refine .inr ?_
    rcases hc with ⟨ks, k1, k2⟩ | ⟨ks, k1, k2⟩
    · refine ⟨a, _, k1, trivial, fun od => ?_⟩
      obtain ⟨s, x, rr⟩ := key _ k1 trivial trivial od
      exact ⟨⟨u1.ρ, fun b => u1.F b ∨ b = a, upd u1.H a (.frz od (.dK ks)), u1.h⟩, rfl, rfl, x, rr, a, rfl, .inr rfl, .inl ⟨ks, ⟨od, upd_same⟩, RepK.sub s _ _ k2⟩⟩
    · refine ⟨a, _, k1, trivial, fun od => ?_⟩
      obtain ⟨s, x, rr⟩ := key _ k1 trivial trivial od
      exact ⟨⟨u1.ρ, fun b => u1.F b ∨ b = a, upd u1.H a (.frz od (.dT ks)), u1.h⟩, rfl, rfl, x, rr, a, rfl, .inr rfl, .inr ⟨ks, ⟨od, upd_same⟩, k2.1, RepT.sub s _ _ k2.2⟩⟩
/-- behind an expression, a statement: one thing may be locked for good -/
theorem pe_post {X : Cx} {e : Expr} {t : TE} (h : PE X e t) : PE X e (fun σ H Q => t σ H fun v H1 => Q v H1 ∨ ∃ d o, H1 d = some o ∧ Mut (some o) ∧ ∀ od, Q v (upd H1 d (.frz od o))) := by
  refine ⟨fun pins s σ H Q I hw => thn (h.run pins s σ H _ I hw) fun w s1 ⟨x, H1, I1, r1, q⟩ => ?_⟩
  rcases q with q | ⟨d, o, hd, mu, q⟩
  · exact ⟨x, H1, I1, r1, q⟩
  · obtain ⟨od, I2⟩ := I1.lock hd mu
    exact ⟨x, _, I2, r1, q od⟩
theorem ps_post {X : Cx} {e : Stmt} {t : TS} (h : PS X e t) : PS X e (fun D σ H => t { D with nx := fun σ' H1 => D.nx σ' H1 ∨ ∃ d o, H1 d = some o ∧ Mut (some o) ∧ ∀ od, D.nx σ' (upd H1 d (.frz od o)), rt := fun v H1 => D.rt v H1 ∨ ∃ d o, H1 d = some o ∧ Mut (some o) ∧ ∀ od, D.rt v (upd H1 d (.frz od o)) } σ H) := by
  refine ⟨fun pins s σ H D I hw => thn (h.run pins s σ H _ I hw) fun f s1 q => ?_⟩
  cases f with
  | next =>
    obtain ⟨σ', H1, I1, q⟩ := q
    rcases q with q | ⟨d, o, hd, mu, q⟩
    · exact ⟨σ', H1, I1, q⟩
    · obtain ⟨od, I2⟩ := I1.lock hd mu
      exact ⟨σ', _, I2, q od⟩
  | ret w =>
    obtain ⟨x, σ', H1, I1, r1, q⟩ := q
    rcases q with q | ⟨d, o, hd, mu, q⟩
    · exact ⟨x, σ', H1, I1, r1, q⟩
    · obtain ⟨od, I2⟩ := I1.lock hd mu
      exact ⟨x, σ', _, I2, r1, q od⟩
  | brk => exact q
  | cont => exact q
/-- it gets a number -/
theorem RepN.num {c : Cont} {v : V} (e : Ext u u1) (r : HR g l u1) (n : RepN l u u1 c v) : ∃ u2 : Vw, u2.H = u1.H ∧ u2.h = u1.h ++ [c.ob] ∧ Ext u u2 ∧ HR g l u2 ∧ RepV l u2 (.ref u1.h.length) v := by
  obtain ⟨a, rfl, h0, hF, hρ, hc⟩ := n
  have old : ∀ id b, u1.ρ id = some b → (if id = u1.h.length then some a else u1.ρ id) = some b := fun id b h => by
    rw [if_neg (Nat.ne_of_lt (r.dom id b h))]
    exact h
  have s : Sub u1 ⟨fun id => if id = u1.h.length then some a else u1.ρ id, u1.F, u1.H, u1.h ++ [c.ob]⟩ := ⟨old, fun _ h => h, fun _ _ h => h, fun _ _ h => h, fun _ _ _ h => h, fun _ _ _ h => h, fun _ _ _ h => h⟩
  refine ⟨⟨fun id => if id = u1.h.length then some a else u1.ρ id, u1.F, u1.H, u1.h ++ [c.ob]⟩, rfl, rfl, ⟨fun id b h => old id b (e.ρm id b h), fun id b h => ?_, e.Fm, e.Fn, e.keep, e.live, fun id o b h1 h2 h3 => ?_, ?_⟩, ⟨fun id b h => ?_, fun i j b h1 h2 => ?_, fun id x h => ?_, r.frz, r.tab⟩, ⟨a, rfl, if_pos rfl⟩⟩
  · by_cases q : id = u1.h.length
    · have h : some a = some b := (if_pos q).symm.trans h
      cases h; exact .inr h0
    · exact e.ρn id b ((if_neg q).symm.trans h)
  · obtain ⟨h4, h5⟩ := e.lock id o b h1 h2 h3
    exact ⟨by show (u1.h ++ [c.ob])[id]? = _; rw [List.getElem?_append_left (List.getElem?_eq_some_iff.mp h4).1]; exact h4, h5⟩
  · show u.h.length ≤ (u1.h ++ [c.ob]).length
    rw [List.length_append]; exact Nat.le_trans e.len (Nat.le_add_right _ _)
  · show id < (u1.h ++ [c.ob]).length
    rw [List.length_append]
    by_cases q : id = u1.h.length
    · rw [q]; exact Nat.lt_succ_self _
    · exact Nat.lt_succ_of_lt (r.dom id b ((if_neg q).symm.trans h))
  · by_cases q1 : i = u1.h.length <;> by_cases q2 : j = u1.h.length
    · rw [q1, q2]
    · have h1 : some a = some b := (if_pos q1).symm.trans h1
      cases h1; exact absurd ((if_neg q2).symm.trans h2) (hρ j)
    · have h2 : some a = some b := (if_pos q2).symm.trans h2
      cases h2; exact absurd ((if_neg q1).symm.trans h1) (hρ i)
    · exact r.inj i j b ((if_neg q1).symm.trans h1) ((if_neg q2).symm.trans h2)
  · have h : (u1.h ++ [c.ob])[id]? = some x := h
    by_cases q : id < u1.h.length
    · rw [List.getElem?_append_left q] at h
      obtain ⟨b, h1, h2, h3⟩ := r.ob id x h
      exact ⟨b, old id b h1, h2, h3.same s rfl⟩
    · have q2 : id = u1.h.length := by
        have := (List.getElem?_eq_some_iff.mp h).1
        rw [List.length_append] at this
        simp only [List.length_singleton] at this
        omega
      rw [q2, List.getElem?_append_right (Nat.le_refl _), Nat.sub_self] at h
      cases h
      exact ⟨a, if_pos q2, hF, (hc.sub s rfl).o⟩
end

section
variable (g : Gx) (l : Lx)
def tF (W : WX) (f : CF) : TE := fun σ H Q => ∃ z u fr, u.H = H ∧ HR g l u ∧ FR l z u fr σ ∧ Run g l W σ (RepN l u) Q u (f fr u.h)
/-- an expression that makes a container -/
abbrev SF (X : Cx) (W : WX) (e : Expr) (f : CF) : Prop := PE X e (tF g l W f)
end
section
variable {g : Gx} {l : Lx} {X : Cx} {W : WX}
theorem se_frz {e : Expr} {f : CF} (h : SF g l X W e f) : SE g l X W e (cFrz f) := by
  refine PE.weak (pe_post h) fun σ H Q ⟨z, u, fr, e1, e2, e3, e4⟩ => ⟨z, u, fr, e1, e2, e3, ?_⟩
  refine Run.weak (Run.bind0 (rep := RepN l u) e4) (fun _ _ _ _ _ h => h) fun v H1 ⟨u1, c, q1, q2, q3, q4, q5⟩ => ?_
  rw [← q1]
  rcases q4.frz q2 q3 with ⟨u2, k1, k2, k3, k4, k5⟩ | ⟨a, o, h1, h2, h3⟩
  · refine .inl ?_
    rw [← k1]
    exact q5.at_ k3 k2 k4 k5
  · refine .inr ⟨a, o, h1, h2, fun od => ?_⟩
    obtain ⟨u2, k1, k2, k3, k4, k5⟩ := h3 od
    rw [← k1]
    exact q5.at_ k3 k2 k4 k5
theorem se_mk {e : Expr} {f : CF} (h : SF g l X W e f) : SE g l X W e (cMk f) := by
  refine PE.weak h fun σ H Q ⟨z, u, fr, e1, e2, e3, e4⟩ => ⟨z, u, fr, e1, e2, e3, ?_⟩
  refine Run.weak (Run.bind0 (rep := RepN l u) e4) (fun _ _ _ _ _ h => h) fun v H1 ⟨u1, c, q1, q2, q3, q4, q5⟩ => ?_
  obtain ⟨u2, k1, k2, k3, k4, k5⟩ := q4.num q2 q3
  rw [← q1, ← k1]
  exact q5.at_ k3 k2 k4 k5
theorem le_line {n : Nat} (h : n ≤ big) : n ≤ sizeLine := Nat.le_trans h (by decide)
theorem se_tup {es : List Expr} {r : CL} {k pos} (h : SA g l X W es r) : SE g l X W (.Tuple es k pos) (cTup r) := by
  refine PE.weak (pe_tup h) fun σ H Q ⟨z, u, fr, e1, e2, e3, e4⟩ => ?_
  rw [← e1]
  refine tA.first e2 e3 e4 fun u1 xs vs x1 r1 f1 rx h1 => ?_
  split at h1
  · rename_i hb
    refine ⟨by rw [← rx.length]; exact le_line hb, fun p hp => ?_⟩
    obtain ⟨r2, x2⟩ := r1.new (o := .tup vs) hp
    exact h1.at_ x2 rfl r2 ⟨p, vs, rfl, upd_same, rx.ext x2 r1⟩
  · exact h1.bad.elim
/-- a fresh object at p holds c -/
theorem repN_new {u : Vw} {p : Addr} {o : HO} {c : Cont} (r : HR g l u) (hp : u.H p = none) (hc : ∀ u' : Vw, Ext u u' → u'.H p = some o → ContR l u' p c) :
    HR g l ⟨u.ρ, u.F, upd u.H p o, u.h⟩ ∧ Ext u ⟨u.ρ, u.F, upd u.H p o, u.h⟩ ∧ RepN l u ⟨u.ρ, u.F, upd u.H p o, u.h⟩ c (.ref p) := by
  obtain ⟨r2, x2⟩ := r.new (o := o) hp
  refine ⟨r2, x2, p, rfl, gone_none hp, fun z => ?_, fun id z => ?_, hc _ x2 upd_same⟩
  · obtain ⟨y, h1, _⟩ := r.frz p z
    rw [hp] at h1; cases h1
  · obtain ⟨y, h1, _⟩ := r.numbered z
    rw [hp] at h1; cases h1
theorem RepN.back {u u1 u2 : Vw} {c : Cont} {v : V} (e : Ext u u1) (h : RepN l u1 u2 c v) : RepN l u u2 c v := by
  obtain ⟨a, h1, h2, h3⟩ := h
  exact ⟨a, h1, e.live a h2, h3⟩
theorem sf_lst {es : List Expr} {r : CL} {pos} (h : SA g l X W es r) : SF g l X W (.List es pos) (fLst r) := by
  refine PE.weak (pe_lst h) fun σ H Q ⟨z, u, fr, e1, e2, e3, e4⟩ => ?_
  rw [← e1]
  refine tA.first e2 e3 e4 fun u1 xs vs x1 r1 f1 rx h1 => ?_
  split at h1
  · rename_i hb
    refine ⟨by rw [← rx.length]; exact le_line hb, fun p hp => ?_⟩
    obtain ⟨r2, x2, n2⟩ := repN_new (o := .lst vs) (c := .l xs) r1 hp fun u' x e => ⟨vs, e, rx.ext x r1⟩
    exact h1.at_ x2 rfl r2 (n2.back x1)
  · exact h1.bad.elim

/-! ### what stands behind a value -/
theorem lstOf_rep {u : Vw} {x : Val} {v : V} {xs : List Val} (r : HR g l u) (h : RepB l u x v) (e : lstOf u.h x = some xs) : ∃ a vs, v = .ref a ∧ u.H a = some (.lst vs) ∧ RepVs l u xs vs := by
  cases x with
  | lst ys =>
    obtain ⟨a, vs, h1, h2, h3, _⟩ := h
    cases e
    exact ⟨a, vs, h1, h2, h3⟩
  | ref id =>
    obtain ⟨a, h1, h2⟩ := h
    obtain ⟨o, h3, h4, h5⟩ := r.at h2
    unfold lstOf at e
    dsimp only at e
    rw [h3] at e
    cases o with
    | lst k ys =>
      cases e
      obtain ⟨vs, h6, h7⟩ := h5
      exact ⟨a, vs, h1, h6, h7⟩
    | dct k ys => cases e
    | ins c fs => cases e
  | _ => cases e
theorem seqOf_rep {u : Vw} {x : Val} {v : V} {xs : List Val} (r : HR g l u) (h : RepB l u x v) (e : seqOf u.h x = some xs) : ∃ a vs, v = .ref a ∧ (u.H a = some (.lst vs) ∨ u.H a = some (.tup vs)) ∧ RepVs l u xs vs := by
  cases x with
  | tup ys =>
    obtain ⟨a, vs, h1, h2, h3⟩ := h
    cases e
    exact ⟨a, vs, h1, .inr h2, h3⟩
  | lst ys =>
    obtain ⟨a, vs, h1, h2, h3⟩ := lstOf_rep r h e
    exact ⟨a, vs, h1, .inl h2, h3⟩
  | ref id =>
    obtain ⟨a, vs, h1, h2, h3⟩ := lstOf_rep r h e
    exact ⟨a, vs, h1, .inl h2, h3⟩
  | _ => cases e
theorem dctOf_rep {u : Vw} {x : Val} {v : V} {kvs : List (Val × Val)} (r : HR g l u) (h : RepB l u x v) (e : dctOf u.h x = some kvs) : ∃ a, v = .ref a ∧ DctR l u a kvs := by
  cases x with
  | dct ys =>
    obtain ⟨a, h1, h2, _⟩ := h
    cases e
    exact ⟨a, h1, h2⟩
  | ref id =>
    obtain ⟨a, h1, h2⟩ := h
    obtain ⟨o, h3, h4, h5⟩ := r.at h2
    unfold dctOf at e
    dsimp only at e
    rw [h3] at e
    cases o with
    | dct k ys => cases e; exact ⟨a, h1, h5.d⟩
    | lst k ys => cases e
    | ins c fs => cases e
  | _ => cases e

/-! ### operators -/
/-- an operation on two values, by the code -/
def rB2 (g : Gx) (l : Lx) (f : Hv → Val → Val → Option Val) : R2 := fun x y H Q => ∃ W σ u vx vy, u.H = H ∧ HR g l u ∧ RepB l u vx x ∧ RepB l u vy y ∧ Run g l W σ (RepV l) Q u (lift (f u.h vx vy) u.h)
theorem newLst {W : WX} {σ : St} {u : Vw} {Q : VK} {xs : List Val} {vs : List V} (r : HR g l u) (rx : RepVs l u xs vs) (h : Run g l W σ (RepV l) Q u (.ok (.lst xs) u.h)) : ∀ p, u.H p = none → Q (.ref p) (upd u.H p (.lst vs)) := fun p hp => by
  obtain ⟨r2, x2⟩ := r.newF (o := .lst vs) hp trivial
  exact h.at_ x2 rfl r2 ⟨p, vs, rfl, Or.inr rfl, upd_same, rx.ext x2 r⟩
theorem newTup {W : WX} {σ : St} {u : Vw} {Q : VK} {xs : List Val} {vs : List V} (r : HR g l u) (rx : RepVs l u xs vs) (h : Run g l W σ (RepV l) Q u (.ok (.tup xs) u.h)) : ∀ p, u.H p = none → Q (.ref p) (upd u.H p (.tup vs)) := fun p hp => by
  obtain ⟨r2, x2⟩ := r.new (o := .tup vs) hp
  exact h.at_ x2 rfl r2 ⟨p, vs, rfl, upd_same, rx.ext x2 r⟩
theorem op_catB {u : Vw} {W : WX} {σ : St} {vx vy : Val} {x y : V} {Q : VK} (r : HR g l u) (rx : RepB l u vx x) (ry : RepB l u vy y)
    (h : Run g l W σ (RepV l) Q u (lift (match lstOf u.h vx, lstOf u.h vy with
      | some a, some b => if a.length + b.length ≤ big then some (.lst (a ++ b)) else none
      | _, _ => none) u.h)) : rCat x y u.H Q := by
  split at h
  · rename_i xs ys ex ey
    obtain ⟨a, vs, e1, e2, e3⟩ := lstOf_rep r rx ex
    obtain ⟨b, ws, f1, f2, f3⟩ := lstOf_rep r ry ey
    split at h
    · rename_i hb
      exact ⟨a, b, vs, ws, e1, f1, e2, f2, by rw [← e3.length, ← f3.length]; exact le_line hb, newLst r (e3.append f3) h⟩
    · exact h.bad.elim
  · exact h.bad.elim
end
end Pk

set_option maxRecDepth 100000
/-! Pk3d: values as the library's data. -/
namespace Pk
open PySem L2 PySem.W
mutual
def toD : Val → PyData
  | .bl b => .bool b
  | .int i => .int i
  | .str x => .str x
  | .tup xs => .tuple (toDs xs)
  | .lst xs => .list (toDs xs)
  | .non => .none
  | .dct _ => .none
  | .ref _ => .none
  | .lam _ => .none
def toDs : List Val → List PyData
  | [] => []
  | x :: xs => toD x :: toDs xs
end
theorem toDs_map : ∀ xs : List Val, toDs xs = xs.map toD
  | [] => rfl
  | x :: xs => by rw [toDs, toDs_map xs, List.map_cons]
mutual
theorem toD_plain : ∀ x : Val, (toD x).plain = true
  | .non => rfl
  | .bl _ => rfl
  | .int _ => rfl
  | .str _ => rfl
  | .tup xs => by show PyData.plainAll (toDs xs) = true; exact toDs_plain xs
  | .lst xs => by show PyData.plainAll (toDs xs) = true; exact toDs_plain xs
  | .dct _ => rfl
  | .ref _ => rfl
  | .lam _ => rfl
theorem toDs_plain : ∀ xs : List Val, PyData.plainAll (toDs xs) = true
  | [] => rfl
  | x :: xs => by
    show ((toD x).plain && PyData.plainAll (toDs xs)) = true
    rw [toD_plain x, toDs_plain xs]; rfl
end
mutual
theorem toD_dep : ∀ x : Val, (toD x).depth = x.dep
  | .non => rfl
  | .bl _ => rfl
  | .int _ => rfl
  | .str _ => rfl
  | .tup xs => by show PyData.depthAll (toDs xs) + 1 = deps xs + 1; rw [toDs_dep xs]
  | .lst xs => by show PyData.depthAll (toDs xs) + 1 = deps xs + 1; rw [toDs_dep xs]
  | .dct _ => rfl
  | .ref _ => rfl
  | .lam _ => rfl
theorem toDs_dep : ∀ xs : List Val, PyData.depthAll (toDs xs) = deps xs
  | [] => rfl
  | x :: xs => by show max (toD x).depth (PyData.depthAll (toDs xs)) = max x.dep (deps xs); rw [toD_dep x, toDs_dep xs]
end
mutual
theorem toD_eqv : ∀ x y : Val, x.data = true → y.data = true → PyData.eqv (toD x) (toD y) = x.eqv y
  | .tup a, .tup b, h, k => toDs_eqv a b h k
  | .lst a, .lst b, h, k => toDs_eqv a b h k
  | .non, y, h, k => by cases y <;> first | rfl | exact Bool.noConfusion (show false = true from k)
  | .bl _, y, h, k => by cases y <;> first | rfl | exact Bool.noConfusion (show false = true from k)
  | .int _, y, h, k => by cases y <;> first | rfl | exact Bool.noConfusion (show false = true from k)
  | .str _, y, h, k => by cases y <;> first | rfl | exact Bool.noConfusion (show false = true from k)
  | .tup _, .non, h, k => rfl
  | .tup _, .bl _, h, k => rfl
  | .tup _, .int _, h, k => rfl
  | .tup _, .str _, h, k => rfl
  | .tup _, .lst _, h, k => rfl
  | .lst _, .non, h, k => rfl
  | .lst _, .bl _, h, k => rfl
  | .lst _, .int _, h, k => rfl
  | .lst _, .str _, h, k => rfl
  | .lst _, .tup _, h, k => rfl
  | .dct _, _, h, k => Bool.noConfusion (show false = true from h)
  | .ref _, _, h, k => Bool.noConfusion (show false = true from h)
  | .lam _, _, h, k => Bool.noConfusion (show false = true from h)
  | .tup _, .dct _, h, k => Bool.noConfusion (show false = true from k)
  | .tup _, .ref _, h, k => Bool.noConfusion (show false = true from k)
  | .tup _, .lam _, h, k => Bool.noConfusion (show false = true from k)
  | .lst _, .dct _, h, k => Bool.noConfusion (show false = true from k)
  | .lst _, .ref _, h, k => Bool.noConfusion (show false = true from k)
  | .lst _, .lam _, h, k => Bool.noConfusion (show false = true from k)
theorem toDs_eqv : ∀ xs ys : List Val, datas xs = true → datas ys = true → PyData.eqvAll (toDs xs) (toDs ys) = eqvs xs ys
  | [], [], _, _ => rfl
  | [], _ :: _, _, _ => rfl
  | _ :: _, [], _, _ => rfl
  | x :: xs, y :: ys, h, k => by
    have h : (x.data && datas xs) = true := h
    have k : (y.data && datas ys) = true := k
    rw [Bool.and_eq_true] at h k
    show (PyData.eqv (toD x) (toD y) && PyData.eqvAll (toDs xs) (toDs ys)) = (x.eqv y && eqvs xs ys)
    rw [toD_eqv x y h.1 k.1, toDs_eqv xs ys h.2 k.2]
end
mutual
theorem toD_alike : ∀ x y : Val, x.alike y = true → alike (toD x) (toD y) = true
  | .tup a, .tup b, h => toDs_alike a b h
  | .lst a, .lst b, h => toDs_alike a b h
  | .bl _, .bl _, _ => rfl
  | .int _, .int _, _ => rfl
  | .str _, .str _, _ => rfl
  | .non, y, h => by cases y <;> exact Bool.noConfusion (show false = true from h)
  | .dct _, y, h => by cases y <;> exact Bool.noConfusion (show false = true from h)
  | .ref _, y, h => by cases y <;> exact Bool.noConfusion (show false = true from h)
  | .lam _, y, h => by cases y <;> exact Bool.noConfusion (show false = true from h)
  | .bl _, .non, h => Bool.noConfusion (show false = true from h)
  | .bl _, .int _, h => Bool.noConfusion (show false = true from h)
  | .bl _, .str _, h => Bool.noConfusion (show false = true from h)
  | .bl _, .tup _, h => Bool.noConfusion (show false = true from h)
  | .bl _, .lst _, h => Bool.noConfusion (show false = true from h)
  | .bl _, .dct _, h => Bool.noConfusion (show false = true from h)
  | .bl _, .ref _, h => Bool.noConfusion (show false = true from h)
  | .bl _, .lam _, h => Bool.noConfusion (show false = true from h)
  | .int _, .non, h => Bool.noConfusion (show false = true from h)
  | .int _, .bl _, h => Bool.noConfusion (show false = true from h)
  | .int _, .str _, h => Bool.noConfusion (show false = true from h)
  | .int _, .tup _, h => Bool.noConfusion (show false = true from h)
  | .int _, .lst _, h => Bool.noConfusion (show false = true from h)
  | .int _, .dct _, h => Bool.noConfusion (show false = true from h)
  | .int _, .ref _, h => Bool.noConfusion (show false = true from h)
  | .int _, .lam _, h => Bool.noConfusion (show false = true from h)
  | .str _, .non, h => Bool.noConfusion (show false = true from h)
  | .str _, .bl _, h => Bool.noConfusion (show false = true from h)
  | .str _, .int _, h => Bool.noConfusion (show false = true from h)
  | .str _, .tup _, h => Bool.noConfusion (show false = true from h)
  | .str _, .lst _, h => Bool.noConfusion (show false = true from h)
  | .str _, .dct _, h => Bool.noConfusion (show false = true from h)
  | .str _, .ref _, h => Bool.noConfusion (show false = true from h)
  | .str _, .lam _, h => Bool.noConfusion (show false = true from h)
  | .tup _, .non, h => Bool.noConfusion (show false = true from h)
  | .tup _, .bl _, h => Bool.noConfusion (show false = true from h)
  | .tup _, .int _, h => Bool.noConfusion (show false = true from h)
  | .tup _, .str _, h => Bool.noConfusion (show false = true from h)
  | .tup _, .lst _, h => Bool.noConfusion (show false = true from h)
  | .tup _, .dct _, h => Bool.noConfusion (show false = true from h)
  | .tup _, .ref _, h => Bool.noConfusion (show false = true from h)
  | .tup _, .lam _, h => Bool.noConfusion (show false = true from h)
  | .lst _, .non, h => Bool.noConfusion (show false = true from h)
  | .lst _, .bl _, h => Bool.noConfusion (show false = true from h)
  | .lst _, .int _, h => Bool.noConfusion (show false = true from h)
  | .lst _, .str _, h => Bool.noConfusion (show false = true from h)
  | .lst _, .tup _, h => Bool.noConfusion (show false = true from h)
  | .lst _, .dct _, h => Bool.noConfusion (show false = true from h)
  | .lst _, .ref _, h => Bool.noConfusion (show false = true from h)
  | .lst _, .lam _, h => Bool.noConfusion (show false = true from h)
theorem toDs_alike : ∀ xs ys : List Val, alikes xs ys = true → alikeAll (toDs xs) (toDs ys) = true
  | [], [], _ => rfl
  | [], _ :: _, _ => rfl
  | _ :: _, [], _ => rfl
  | x :: xs, y :: ys, h => by
    have h : (x.alike y && alikes xs ys) = true := h
    rw [Bool.and_eq_true] at h
    show (alike (toD x) (toD y) && alikeAll (toDs xs) (toDs ys)) = true
    rw [toD_alike x y h.1, toDs_alike xs ys h.2]; rfl
end
theorem alike_nn {x y : Val} (h : x.alike y = true) : toD x ≠ .none := by
  cases x <;> first | (intro z; cases z; done) | (cases y <;> exact Bool.noConfusion (show false = true from h))
mutual
theorem toD_lt : ∀ x y : Val, x.data = true → y.data = true → x.alike y = true → dataLt (toD x) (toD y) = x.lt y
  | .tup a, .tup b, d, e, h => toDs_lt a b d e h
  | .lst a, .lst b, d, e, h => by
    show dataLt (.list (toDs a)) (.list (toDs b)) = lts a b
    rw [dataLt_list, ← dataLt_tuple]
    exact toDs_lt a b d e h
  | .bl x, y, d, e, h => by cases y <;> first | exact dataLt_bool _ _ | exact Bool.noConfusion (show false = true from h)
  | .int x, y, d, e, h => by cases y <;> first | exact dataLt_int _ _ | exact Bool.noConfusion (show false = true from h)
  | .str x, y, d, e, h => by cases y <;> first | exact dataLt_str _ _ | exact Bool.noConfusion (show false = true from h)
  | .non, y, _, _, h => by cases y <;> exact Bool.noConfusion (show false = true from h)
  | .dct _, y, _, _, h => by cases y <;> exact Bool.noConfusion (show false = true from h)
  | .ref _, y, _, _, h => by cases y <;> exact Bool.noConfusion (show false = true from h)
  | .lam _, y, _, _, h => by cases y <;> exact Bool.noConfusion (show false = true from h)
  | .tup _, .non, _, _, h => Bool.noConfusion (show false = true from h)
  | .tup _, .bl _, _, _, h => Bool.noConfusion (show false = true from h)
  | .tup _, .int _, _, _, h => Bool.noConfusion (show false = true from h)
  | .tup _, .str _, _, _, h => Bool.noConfusion (show false = true from h)
  | .tup _, .lst _, _, _, h => Bool.noConfusion (show false = true from h)
  | .tup _, .dct _, _, _, h => Bool.noConfusion (show false = true from h)
  | .tup _, .ref _, _, _, h => Bool.noConfusion (show false = true from h)
  | .tup _, .lam _, _, _, h => Bool.noConfusion (show false = true from h)
  | .lst _, .non, _, _, h => Bool.noConfusion (show false = true from h)
  | .lst _, .bl _, _, _, h => Bool.noConfusion (show false = true from h)
  | .lst _, .int _, _, _, h => Bool.noConfusion (show false = true from h)
  | .lst _, .str _, _, _, h => Bool.noConfusion (show false = true from h)
  | .lst _, .tup _, _, _, h => Bool.noConfusion (show false = true from h)
  | .lst _, .dct _, _, _, h => Bool.noConfusion (show false = true from h)
  | .lst _, .ref _, _, _, h => Bool.noConfusion (show false = true from h)
  | .lst _, .lam _, _, _, h => Bool.noConfusion (show false = true from h)
theorem toDs_lt : ∀ xs ys : List Val, datas xs = true → datas ys = true → alikes xs ys = true → dataLt (.tuple (toDs xs)) (.tuple (toDs ys)) = lts xs ys
  | [], [], _, _, _ => by decide
  | [], y :: ys, _, _, _ => by
    show dataLt (.tuple []) (.tuple (toD y :: toDs ys)) = true
    rw [dataLt_tuple, toks_all_cons]
    exact (lex_atom (p := .inl 0) (q := .inl 1) (by decide) [] _).trans (by decide)
  | x :: xs, [], _, _, _ => by
    show dataLt (.tuple (toD x :: toDs xs)) (.tuple []) = false
    rw [dataLt_tuple, toks_all_cons]
    exact (lex_atom (p := .inl 1) (q := .inl 0) (by decide) _ []).trans (by decide)
  | x :: xs, y :: ys, d, e, h => by
    have d : (x.data && datas xs) = true := d
    have e : (y.data && datas ys) = true := e
    have h : (x.alike y && alikes xs ys) = true := h
    rw [Bool.and_eq_true] at d e h
    have q := toD_eqv x y d.1 e.1
    show dataLt (.tuple (toD x :: toDs xs)) (.tuple (toD y :: toDs ys)) = if x.eqv y = true then lts xs ys else x.lt y
    rw [dataLt_tuple]
    cases c : x.eqv y with
    | true =>
      rw [if_pos rfl, dataLt_all_yes (toD_alike x y h.1) (q.trans c), ← dataLt_tuple]
      exact toDs_lt xs ys d.2 e.2 h.2
    | false =>
      rw [if_neg (by decide), dataLt_all_no (toD_alike x y h.1) (q.trans c)]
      exact toD_lt x y d.1 e.1 h.1
end
section
variable {l : Lx} {u : Vw} {K : PySem.W.Frag}
mutual
theorem RepV.dp : ∀ (x : Val) (v : V), RepV l u x v → x.data = true → Dp K u.H v (toD x)
  | .non, _, h, _ => by rw [show _ = V.non from h]; exact .non
  | .bl b, _, h, _ => by rw [show _ = V.bl b from h]; exact .bl b
  | .int i, _, h, _ => by rw [show _ = V.int i from h]; exact .int i
  | .str x, _, h, _ => by rw [show _ = V.str x from h]; exact .str x
  | .tup xs, _, ⟨a, vs, e, h1, h2⟩, d => by rw [e]; exact .tup (SqT.of h1) (RepVs.dp xs vs h2 d)
  | .lst xs, _, ⟨a, vs, e, _, h1, h2⟩, d => by rw [e]; exact .lst (SqL.of h1) (RepVs.dp xs vs h2 d)
  | .dct _, _, _, d => Bool.noConfusion (show false = true from d)
  | .ref _, _, _, d => Bool.noConfusion (show false = true from d)
  | .lam _, _, _, d => Bool.noConfusion (show false = true from d)
theorem RepVs.dp : ∀ (xs : List Val) (vs : List V), RepVs l u xs vs → datas xs = true → DpAll K u.H vs (toDs xs)
  | [], _, h, _ => by rw [show _ = [] from h]; exact .nil
  | x :: xs, _, ⟨v, r, e, h1, h2⟩, d => by
    have d : (x.data && datas xs) = true := d
    rw [Bool.and_eq_true] at d
    rw [e]
    exact .cons (RepV.dp x v h1 d.1) (RepVs.dp xs r h2 d.2)
end
theorem RepB.dp : ∀ {x : Val} {v : V}, RepB l u x v → x.data = true → Dp K u.H v (toD x)
  | .lst xs, _, ⟨a, vs, e, h1, h2, _⟩, d => by rw [e]; exact .lst (SqL.of h1) (RepVs.dp xs vs h2 d)
  | .non, v, h, d => RepV.dp (l := l) _ v h d
  | .bl b, v, h, d => RepV.dp (l := l) _ v h d
  | .int i, v, h, d => RepV.dp (l := l) _ v h d
  | .str x, v, h, d => RepV.dp (l := l) _ v h d
  | .tup xs, v, h, d => RepV.dp (l := l) _ v h d
  | .dct _, _, _, d => Bool.noConfusion (show false = true from d)
  | .ref _, _, _, d => Bool.noConfusion (show false = true from d)
  | .lam _, _, _, d => Bool.noConfusion (show false = true from d)
end
end Pk

set_option maxRecDepth 100000
/-! Pk4: operators, comparisons. -/
namespace Pk
open PySem L2 PySem.W

section
variable {g : Gx} {l : Lx} {X : Cx} {W : WX}
def Bin.op : Bin → Operator
  | .add => .Add
  | .sub => .Sub
  | .mul => .Mult
  | .fdiv => .FloorDiv
  | .mod => .Mod
  | .pow => .Pow
theorem smallZ_ok {i : Int} (h : smallZ i = true) : -(2 ^ 64) < i ∧ i < 2 ^ 64 := by
  unfold smallZ at h
  rw [Bool.and_eq_true, decide_eq_true_eq, decide_eq_true_eq] at h
  exact h
theorem repL_eq (xs : List Val) : ∀ n, repL xs n = (List.replicate n xs).flatten
  | 0 => rfl
  | n + 1 => by rw [repL, repL_eq xs n, List.replicate_succ, List.flatten_cons]
theorem RepVs.rep {u : Vw} {xs : List Val} {vs : List V} (h : RepVs l u xs vs) : ∀ n, RepVs l u (repL xs n) (List.replicate n vs).flatten
  | 0 => rfl
  | n + 1 => by rw [List.replicate_succ, List.flatten_cons]; exact RepVs.append h (RepVs.rep h n)
theorem op_bin : ∀ o : Bin, OpR X (binaryOp o.op) (rB2 g l fun h => opBin h o)
  | .add => by
    intro pins s σ H x y v u Q I rx ry ⟨W, σ', u1, vx, vy, e, hr, bx, by', h⟩
    subst e
    replace h : Run g l W σ' (RepV l) Q u1 (lift (opBin u1.h .add vx vy) u1.h) := h
    unfold opBin at h
    split at h
    · rename_i a b _
      exact op_add pins s σ _ _ _ _ _ Q I rx ry ⟨a, b, bx, by', h.here rfl hr rfl⟩
    · rename_i a b _
      split at h
      · rename_i hb
        exact op_add_str pins s σ _ _ _ _ _ Q I rx ry ⟨a, b, bx, by', le_line hb, h.here rfl hr rfl⟩
      · exact h.bad.elim
    · rename_i a b _
      split at h
      · rename_i hb
        obtain ⟨p, vs, e1, e2, e3⟩ := bx
        obtain ⟨q, ws, f1, f2, f3⟩ := by'
        refine op_catA pins s σ _ _ _ _ _ Q I rx ry ⟨p, q, vs, ws, e1, f1, SqT.of e2, SqT.of f2, by rw [← e3.length, ← f3.length]; exact le_line hb, fun z => ?_, fun _ z => ?_, fun _ _ => newTup hr (e3.append f3) h⟩
        · subst z
          cases a with
          | nil => exact h.here rfl hr ⟨q, ws, rfl, f2, f3⟩
          | cons a r => exact absurd e3.length (by simp)
        · subst z
          cases b with
          | nil => exact h.here rfl hr ⟨p, vs, rfl, e2, by rw [List.append_nil]; exact e3⟩
          | cons a r => exact absurd f3.length (by simp)
      · exact h.bad.elim
    · exact op_cat pins s σ _ _ _ _ _ Q I rx ry (op_catB hr bx by' h)
    all_goals first | contradiction | exact (Run.bad h).elim
  | .sub => by
    intro pins s σ H x y v u Q I rx ry ⟨W, σ', u1, vx, vy, e, hr, bx, by', h⟩
    subst e
    replace h : Run g l W σ' (RepV l) Q u1 (lift (opBin u1.h .sub vx vy) u1.h) := h
    unfold opBin at h
    split at h
    all_goals first | contradiction | exact (Run.bad h).elim | skip
    · rename_i a b _
      exact op_sub pins s σ _ _ _ _ _ Q I rx ry ⟨a, b, bx, by', h.here rfl hr rfl⟩
  | .mul => by
    intro pins s σ H x y v u Q I rx ry ⟨W, σ', u1, vx, vy, e, hr, bx, by', h⟩
    subst e
    replace h : Run g l W σ' (RepV l) Q u1 (lift (opBin u1.h .mul vx vy) u1.h) := h
    unfold opBin at h
    split at h
    all_goals first | contradiction | exact (Run.bad h).elim | skip
    · rename_i a b _
      split at h
      · rename_i hb
        rw [Bool.or_eq_true] at hb
        exact op_mul pins s σ _ _ _ _ _ Q I rx ry ⟨a, b, bx, by', hb.elim (fun z => .inl (smallZ_ok z)) fun z => .inr (smallZ_ok z), h.here rfl hr rfl⟩
      · exact h.bad.elim
    · rename_i n _ _
      split at h
      · rename_i xs ex
        split at h
        · rename_i hb
          obtain ⟨p, vs, e1, e2, e3⟩ := lstOf_rep hr bx ex
          refine op_rep pins s σ _ _ _ _ _ Q I rx ry ⟨p, n, vs, e1, by', e2, by omega, by omega, by rw [← e3.length]; exact le_line hb.2.2, newLst hr (RepVs.rep e3 _) h⟩
        · exact h.bad.elim
      · exact h.bad.elim
  | .fdiv => by
    intro pins s σ H x y v u Q I rx ry ⟨W, σ', u1, vx, vy, e, hr, bx, by', h⟩
    subst e
    replace h : Run g l W σ' (RepV l) Q u1 (lift (opBin u1.h .fdiv vx vy) u1.h) := h
    unfold opBin at h
    split at h
    all_goals first | contradiction | exact (Run.bad h).elim | skip
    · rename_i a b _
      split at h
      · rename_i hb
        exact op_fdivN pins s σ _ _ _ _ _ Q I rx ry ⟨a, b, bx, by', hb, h.here rfl hr rfl⟩
      · exact h.bad.elim
  | .mod => by
    intro pins s σ H x y v u Q I rx ry ⟨W, σ', u1, vx, vy, e, hr, bx, by', h⟩
    subst e
    replace h : Run g l W σ' (RepV l) Q u1 (lift (opBin u1.h .mod vx vy) u1.h) := h
    unfold opBin at h
    split at h
    all_goals first | contradiction | exact (Run.bad h).elim | skip
    · rename_i a b _
      split at h
      · rename_i hb
        exact op_modN pins s σ _ _ _ _ _ Q I rx ry ⟨a, b, bx, by', hb, h.here rfl hr rfl⟩
      · exact h.bad.elim
  | .pow => by
    intro pins s σ H x y v u Q I rx ry ⟨W, σ', u1, vx, vy, e, hr, bx, by', h⟩
    subst e
    replace h : Run g l W σ' (RepV l) Q u1 (lift (opBin u1.h .pow vx vy) u1.h) := h
    unfold opBin at h
    split at h
    all_goals first | contradiction | exact (Run.bad h).elim | skip
    · rename_i a b _
      split at h
      · rename_i hb
        exact op_pow pins s σ _ _ _ _ _ Q I rx ry ⟨a, b, bx, by', ⟨hb.1, by omega, by omega⟩, h.here rfl hr rfl⟩
      · exact h.bad.elim

/-- two parts, then an operation by the code -/
theorem t2 {f : Hv → Val → Val → Option Val} {r : R2} {ea eb : Expr} {a b : C} (hr : ∀ x y H Q, rB2 g l f x y H Q → r x y H Q) :
    ∀ σ H Q, tE g l W (RepV l) (fun fr h => (a fr h).bind fun x h1 => (b fr h1).bind fun y h2 => lift (f h2 x y) h2) σ H Q → tOp r (tE g l W (RepB l) a) (tE g l W (RepB l) b) σ H Q :=
  fun σ H Q ⟨z, u, fr, e1, e2, e3, e4⟩ => by
    rw [← e1]
    refine tE.first e2 e3 e4 fun u1 x v x1 r1 f1 rx h1 => ?_
    refine tE.first r1 f1 h1 fun u2 y w x2 r2 f2 ry h2 => ?_
    exact hr _ _ _ _ ⟨W, σ, u2, x, y, rfl, r2, RepB.ext x2 r1 rx, ry, h2⟩
end
end Pk

set_option maxRecDepth 100000
/-! Pk4d: dicts: what is found at a key. -/
namespace Pk
open PySem PySem.Spec L2 PyProof.Rows

theorem keyV_leaf : ∀ {x : Val}, x.leafK = true → ∃ q, keyV x = some q
  | .int i, _ => ⟨_, rfl⟩
  | .str i, _ => ⟨_, rfl⟩
  | .non, h => Bool.noConfusion h
  | .bl _, h => Bool.noConfusion h
  | .tup _, h => Bool.noConfusion h
  | .lst _, h => Bool.noConfusion h
  | .dct _, h => Bool.noConfusion h
  | .ref _, h => Bool.noConfusion h
  | .lam _, h => Bool.noConfusion h
theorem leaf_keyV {x : Val} {q : Key} (h : keyV x = some q) : x.leafK = true := by
  cases x <;> first | rfl | cases h
theorem beq_key {a b : Val} {p q : Key} (ha : keyV a = some p) (hb : keyV b = some q) : Val.beq a b = decide (p = q) := by
  cases a <;> cases ha <;> cases b <;> cases hb
  · show decide _ = decide _
    simp
  · show false = decide _
    simp
  · show false = decide _
    simp
  · show decide _ = decide _
    simp
theorem keyVs_of : ∀ {xs : List Val}, xs.all Val.leafK = true → ∃ q, keyVs xs = some q
  | [], _ => ⟨[], rfl⟩
  | x :: xs, h => by
    rw [List.all_cons, Bool.and_eq_true] at h
    obtain ⟨q, e⟩ := keyV_leaf h.1
    obtain ⟨r, f⟩ := keyVs_of h.2
    exact ⟨q :: r, by rw [keyVs, e, f]⟩
theorem keyVs_cons {x : Val} {xs : List Val} {r : List Key} (h : keyVs (x :: xs) = some r) : ∃ q qs, r = q :: qs ∧ keyV x = some q ∧ keyVs xs = some qs := by
  unfold keyVs at h
  split at h
  · rename_i q qs e f
    cases h
    exact ⟨q, qs, rfl, e, f⟩
  · cases h
theorem beqs_key : ∀ {a b : List Val} {p q : List Key}, keyVs a = some p → keyVs b = some q → beqs a b = decide (p = q)
  | [], [], _, _, ha, hb => by cases ha; cases hb; rfl
  | [], _ :: _, _, _, ha, hb => by
    cases ha
    obtain ⟨q, qs, rfl, _, _⟩ := keyVs_cons hb
    rfl
  | _ :: _, [], _, _, ha, hb => by
    cases hb
    obtain ⟨q, qs, rfl, _, _⟩ := keyVs_cons ha
    rfl
  | x :: xs, y :: ys, _, _, ha, hb => by
    obtain ⟨p, ps, rfl, e1, e2⟩ := keyVs_cons ha
    obtain ⟨q, qs, rfl, f1, f2⟩ := keyVs_cons hb
    show (Val.beq x y && beqs xs ys) = _
    rw [beq_key e1 f1, beqs_key e2 f2]
    by_cases z : p = q <;> by_cases z2 : ps = qs <;> simp [z, z2]
theorem keyT_of : ∀ {x : Val}, x.tupK = true → ∃ q, keyT x = some q
  | .tup xs, h => keyVs_of (xs := xs) h
  | .int _, h => Bool.noConfusion h
  | .str _, h => Bool.noConfusion h
  | .non, h => Bool.noConfusion h
  | .bl _, h => Bool.noConfusion h
  | .lst _, h => Bool.noConfusion h
  | .dct _, h => Bool.noConfusion h
  | .ref _, h => Bool.noConfusion h
  | .lam _, h => Bool.noConfusion h
theorem tupK_not {x : Val} (h : x.tupK = true) : keyV x = none := by
  cases x <;> first | rfl | exact Bool.noConfusion h
theorem leafK_not {x : Val} (h : x.leafK = true) : keyT x = none := by
  cases x <;> first | rfl | exact Bool.noConfusion h
theorem beq_keyT {a b : Val} {p q : List Key} (ha : keyT a = some p) (hb : keyT b = some q) : Val.beq a b = decide (p = q) := by
  cases a <;> first | cases ha; done | skip
  cases b <;> first | cases hb; done | skip
  exact beqs_key ha hb

section
variable {l : Lx} {u : Vw}
/-- a found value -/
def RepO (l : Lx) (u : Vw) : Option Val → Option V → Prop
  | none, o => o = none
  | some x, o => ∃ v, o = some v ∧ RepV l u x v
theorem dget_cons {k x y : Val} {r : List (Val × Val)} : dget ((k, x) :: r) y = if Val.beq k y = true then some x else dget r y := by
  unfold dget
  rw [List.find?_cons]
  cases Val.beq k y <;> rfl
theorem RepK.get {k : Val} {q : Key} (hk : keyV k = some q) : ∀ {kvs : List (Val × Val)} {ks : List (Key × V)}, RepK l u kvs ks → RepO l u (dget kvs k) (valV ks q)
  | [], _, h => by rw [show _ = [] from h]; exact rfl
  | (a, x) :: r, _, ⟨p, v, s, e, h1, h2, h3⟩ => by
    rw [e, dget_cons, beq_key h1 hk]
    by_cases z : p = q
    · rw [decide_eq_true z, if_pos rfl, valV_pos (p := (p, v)) z]
      exact ⟨v, rfl, h2⟩
    · rw [decide_eq_false z, if_neg (by decide), valV_neg (p := (p, v)) z]
      exact RepK.get hk h3
theorem RepT.get {k : Val} {q : List Key} (hk : keyT k = some q) : ∀ {kvs : List (Val × Val)} {ks : List (List Key × V)}, RepT l u kvs ks → RepO l u (dget kvs k) (valV ks q)
  | [], _, h => by rw [show _ = [] from h]; exact rfl
  | (a, x) :: r, _, ⟨p, v, s, e, h1, h2, h3⟩ => by
    rw [e, dget_cons, beq_keyT h1 hk]
    by_cases z : p = q
    · rw [decide_eq_true z, if_pos rfl, valV_pos (p := (p, v)) z]
      exact ⟨v, rfl, h2⟩
    · rw [decide_eq_false z, if_neg (by decide), valV_neg (p := (p, v)) z]
      exact RepT.get hk h3
theorem RepK.length : ∀ {kvs : List (Val × Val)} {ks : List (Key × V)}, RepK l u kvs ks → kvs.length = ks.length
  | [], _, h => by rw [show _ = [] from h]; rfl
  | (a, x) :: r, _, ⟨p, v, s, e, h1, h2, h3⟩ => by rw [e, List.length_cons, List.length_cons, RepK.length h3]
theorem RepT.length : ∀ {kvs : List (Val × Val)} {ks : List (List Key × V)}, RepT l u kvs ks → kvs.length = ks.length
  | [], _, h => by rw [show _ = [] from h]; rfl
  | (a, x) :: r, _, ⟨p, v, s, e, h1, h2, h3⟩ => by rw [e, List.length_cons, List.length_cons, RepT.length h3]
theorem RepK.any {k : Val} {q : Key} (hk : keyV k = some q) : ∀ {kvs : List (Val × Val)} {ks : List (Key × V)}, RepK l u kvs ks → (kvs.any fun p => Val.beq p.1 k) = ks.any fun kv => decide (kv.1 = q)
  | [], _, h => by rw [show _ = [] from h]; rfl
  | (a, x) :: r, _, ⟨p, v, s, e, h1, h2, h3⟩ => by rw [e, List.any_cons, List.any_cons, RepK.any hk h3, beq_key h1 hk]
theorem RepT.any {k : Val} {q : List Key} (hk : keyT k = some q) : ∀ {kvs : List (Val × Val)} {ks : List (List Key × V)}, RepT l u kvs ks → (kvs.any fun p => Val.beq p.1 k) = ks.any fun kv => decide (kv.1 = q)
  | [], _, h => by rw [show _ = [] from h]; rfl
  | (a, x) :: r, _, ⟨p, v, s, e, h1, h2, h3⟩ => by rw [e, List.any_cons, List.any_cons, RepT.any hk h3, beq_keyT h1 hk]
theorem RepK.map {k y : Val} {q : Key} {w : V} (hk : keyV k = some q) (ry : RepV l u y w) : ∀ {kvs : List (Val × Val)} {ks : List (Key × V)}, RepK l u kvs ks → RepK l u (kvs.map fun p => if Val.beq p.1 k = true then (p.1, y) else p) (ks.map fun kv => if kv.1 = q then (kv.1, w) else kv)
  | [], _, h => by rw [show _ = [] from h]; rfl
  | (a, x) :: r, _, ⟨p, v, s, e, h1, h2, h3⟩ => by
    rw [e, List.map_cons, List.map_cons, beq_key h1 hk]
    by_cases z : p = q
    · rw [decide_eq_true z, if_pos rfl, if_pos z]
      exact ⟨p, w, _, rfl, h1, ry, RepK.map hk ry h3⟩
    · rw [decide_eq_false z, if_neg (by decide), if_neg z]
      exact ⟨p, v, _, rfl, h1, h2, RepK.map hk ry h3⟩
theorem RepT.map {k y : Val} {q : List Key} {w : V} (hk : keyT k = some q) (ry : RepV l u y w) : ∀ {kvs : List (Val × Val)} {ks : List (List Key × V)}, RepT l u kvs ks → RepT l u (kvs.map fun p => if Val.beq p.1 k = true then (p.1, y) else p) (ks.map fun kv => if kv.1 = q then (kv.1, w) else kv)
  | [], _, h => by rw [show _ = [] from h]; rfl
  | (a, x) :: r, _, ⟨p, v, s, e, h1, h2, h3⟩ => by
    rw [e, List.map_cons, List.map_cons, beq_keyT h1 hk]
    by_cases z : p = q
    · rw [decide_eq_true z, if_pos rfl, if_pos z]
      exact ⟨p, w, _, rfl, h1, ry, RepT.map hk ry h3⟩
    · rw [decide_eq_false z, if_neg (by decide), if_neg z]
      exact ⟨p, v, _, rfl, h1, h2, RepT.map hk ry h3⟩
theorem RepK.snoc {k y : Val} {q : Key} {w : V} (hk : keyV k = some q) (ry : RepV l u y w) : ∀ {kvs : List (Val × Val)} {ks : List (Key × V)}, RepK l u kvs ks → RepK l u (kvs ++ [(k, y)]) (ks ++ [(q, w)])
  | [], _, h => by rw [show _ = [] from h]; exact ⟨q, w, [], rfl, hk, ry, rfl⟩
  | (a, x) :: r, _, ⟨p, v, s, e, h1, h2, h3⟩ => by rw [e]; exact ⟨p, v, _, rfl, h1, h2, RepK.snoc hk ry h3⟩
theorem RepT.snoc {k y : Val} {q : List Key} {w : V} (hk : keyT k = some q) (ry : RepV l u y w) : ∀ {kvs : List (Val × Val)} {ks : List (List Key × V)}, RepT l u kvs ks → RepT l u (kvs ++ [(k, y)]) (ks ++ [(q, w)])
  | [], _, h => by rw [show _ = [] from h]; exact ⟨q, w, [], rfl, hk, ry, rfl⟩
  | (a, x) :: r, _, ⟨p, v, s, e, h1, h2, h3⟩ => by rw [e]; exact ⟨p, v, _, rfl, h1, h2, RepT.snoc hk ry h3⟩
theorem RepK.put {k y : Val} {q : Key} {w : V} (hk : keyV k = some q) (ry : RepV l u y w) {kvs : List (Val × Val)} {ks : List (Key × V)} (h : RepK l u kvs ks) : RepK l u (dput kvs k y) (putK ks q w) := by
  unfold dput putK
  rw [RepK.any hk h]
  cases ks.any fun kv => decide (kv.1 = q)
  · exact RepK.snoc hk ry h
  · exact RepK.map hk ry h
theorem RepT.put {k y : Val} {q : List Key} {w : V} (hk : keyT k = some q) (ry : RepV l u y w) {kvs : List (Val × Val)} {ks : List (List Key × V)} (h : RepT l u kvs ks) : RepT l u (dput kvs k y) (putK ks q w) := by
  unfold dput putK
  rw [RepT.any hk h]
  cases ks.any fun kv => decide (kv.1 = q)
  · exact RepT.snoc hk ry h
  · exact RepT.map hk ry h
theorem RepK.keys : ∀ {kvs : List (Val × Val)} {ks : List (Key × V)}, RepK l u kvs ks → kvs.all (·.1.leafK) = true
  | [], _, h => rfl
  | (a, x) :: r, _, ⟨p, v, s, e, h1, h2, h3⟩ => by rw [List.all_cons, leaf_keyV h1, RepK.keys h3]; rfl
theorem kv_rep {x : Val} {q : Key} {v : V} (h : keyV x = some q) (r : RepV l u x v) : v = kV q := by
  cases x <;> cases h <;> exact r
theorem kvs_rep : ∀ {xs : List Val} {q : List Key} {vs : List V}, keyVs xs = some q → RepVs l u xs vs → vs = q.map kV
  | [], _, _, h, r => by cases h; exact r
  | x :: xs, _, _, h, ⟨v, vs, e, r1, r2⟩ => by
    obtain ⟨q, qs, rfl, e1, e2⟩ := keyVs_cons h
    rw [e, kv_rep e1 r1, kvs_rep e2 r2, List.map_cons]
theorem repB_leaf {x : Val} {v : V} (h : x.leafK = true) (r : RepB l u x v) : RepV l u x v := by
  cases x <;> first | exact r | exact Bool.noConfusion h
theorem repB_tup {x : Val} {v : V} (h : x.tupK = true) (r : RepB l u x v) : RepV l u x v := by
  cases x <;> first | exact r | exact Bool.noConfusion h
/-- what is found at y, an empty dict's kind of keys aside -/
def DGX (H : Hp) (a : Addr) (y : V) (o : Option V) : Prop := DGet H a y o ∨ (Rd H a (.dK []) ∧ ∃ (b : Addr) (k : List Key), y = .ref b ∧ H b = some (.tup (k.map kV)) ∧ o = none)
theorem dct_get {a : Addr} {kvs : List (Val × Val)} {k : Val} {y : V} (r : DctR l u a kvs) (hk : keyOk kvs k = true) (ry : RepB l u k y) : ∃ o, DGX u.H a y o ∧ RepO l u (dget kvs k) o := by
  unfold keyOk at hk
  rw [Bool.or_eq_true, Bool.and_eq_true, Bool.and_eq_true] at hk
  rcases hk with ⟨h1, h2⟩ | ⟨h1, h2⟩
  · obtain ⟨q, e⟩ := keyV_leaf h1
    rcases r with ⟨ks, r1, r2⟩ | ⟨ks, r1, r0, r2⟩
    · exact ⟨_, .inl (.inl ⟨ks, q, r1, kv_rep e (repB_leaf h1 ry), rfl⟩), RepK.get e r2⟩
    · cases kvs with
      | nil => exact absurd rfl r0
      | cons p r =>
        obtain ⟨q, v, s, _, f, _⟩ := r2
        rw [List.all_cons, Bool.and_eq_true] at h2
        rw [leafK_not h2.1] at f
        cases f
  · obtain ⟨q, e⟩ := keyT_of h1
    cases k with
    | tup xs =>
      obtain ⟨b, vs, e1, e2, e3⟩ := repB_tup h1 ry
      rw [kvs_rep (show keyVs xs = some q from e) e3] at e2
      rcases r with ⟨ks, r1, r2⟩ | ⟨ks, r1, r0, r2⟩
      · cases kvs with
        | nil =>
          rw [show ks = [] from r2] at r1
          exact ⟨none, .inr ⟨r1, b, q, e1, e2, rfl⟩, rfl⟩
        | cons p r =>
          obtain ⟨q, v, s, _, f, _⟩ := r2
          rw [List.all_cons, Bool.and_eq_true] at h2
          rw [tupK_not h2.1] at f
          cases f
      · exact ⟨_, .inl (.inr ⟨ks, q, b, r1, e1, e2, rfl⟩), RepT.get e r2⟩
    | _ => exact Bool.noConfusion h1
end

section
variable {X : Cx} {pins : List (Addr × Obj)} {σ : L2.St} {H : Hp} {s : Shared} {a : Addr} {y v : V} {w r : Value} {o : Option V} {A : Around} {E : Value → Shared → Prop}
theorem dt_empty {P : Program} {w : World} {h : Heap} (ok : HOk P w H h) (e : Rd H a (.dK [])) : (a == sysModules) = false ∧ h.DictOfH (tupleKind (mixKind P w)) a [] := by
  obtain ⟨_, hd, vs, rel, o, es, ep, h1, h2, h3, h4, h5, h6⟩ := dk_rd ok e
  have e0 : vs = [] := List.length_eq_zero_iff.mp rel.length.symm
  subst e0
  refine ⟨hd, o, es, ep, h1, h2, h3, ?_, fun x hx => (by cases hx), List.nodup_nil⟩
  have := h5.length
  exact List.length_eq_zero_iff.mp (by simpa using this)
theorem x_in {Q : Value → Shared → Prop} (hu : A.units + 1 < cLine) (I : Inv X pins σ H s) (g : DGX H a y o) (ry : RelV y w) (h : ∀ s', Inv X pins σ H s' → Q (.bool o.isSome) s') :
    wpAny (model X.prog X.w) A (compareOp .In w (.ref a)) Q E s := by
  rcases g with g | ⟨e, b, k, e1, e2, e3⟩
  · exact d_in hu I g ry h
  · subst e1 e3
    cases (show w = Value.ref b from ry)
    obtain ⟨hd, dd⟩ := dt_empty I.hok e
    exact wpAny_in_heap (tupleKind_room_in1 hu) (key_of I.hok e2) hd dd (h _ (I.tok _))
theorem x_notIn {Q : Value → Shared → Prop} (hu : A.units + 1 < cLine) (I : Inv X pins σ H s) (g : DGX H a y o) (ry : RelV y w) (h : ∀ s', Inv X pins σ H s' → Q (.bool (!o.isSome)) s') :
    wpAny (model X.prog X.w) A (compareOp .NotIn w (.ref a)) Q E s := by
  rcases g with g | ⟨e, b, k, e1, e2, e3⟩
  · exact d_notIn hu I g ry h
  · subst e1 e3
    cases (show w = Value.ref b from ry)
    obtain ⟨hd, dd⟩ := dt_empty I.hok e
    exact wpAny_notIn_heap (tupleKind_room_in1 hu) (key_of I.hok e2) hd dd (h _ (I.tok _))
theorem x_get2 {Q : Value → Shared → Prop} {d : V} (hu : A.units + 1 < cLine) (I : Inv X pins σ H s) (g : DGX H a y o) (ry : RelV y w) (rd : RelV d r) (h : ∀ w' s', Inv X pins σ H s' → RelV (o.getD d) w' → Q w' s') :
    wpAny (model X.prog X.w) A (call (.builtin "dict.get") [.ref a, w, r]) Q E s := by
  rcases g with g | ⟨e, b, k, e1, e2, e3⟩
  · exact d_get2 hu I g ry rd h
  · subst e1 e3
    cases (show w = Value.ref b from ry)
    obtain ⟨hd, dd⟩ := dt_empty I.hok e
    exact call_meetsIn PySem.F.slot_dict_get dd.typeIs PySem.F.entry_dict_get (PySem.F.args_dict_get_3 _ _ _) (meetsH_dict_get_default (tupleKind (mixKind X.prog X.w)) a b hd r) ⟨tupleKind_room_in1 hu, k, [], key_of I.hok e2, dd, h _ _ (I.tok _) rd⟩
end
end Pk

set_option maxRecDepth 100000
/-! Pk5: comparisons. -/
namespace Pk
open PySem L2 PySem.W

section
variable {g : Gx} {l : Lx} {u : Vw} {K : PySem.W.Frag}
/-- the value behind a number is data -/
theorem dp_deref (r : HR g l u) {x : Val} {v : V} (h : RepB l u x v) (d : (derefV u.h x).data = true) : Dp K u.H v (toD (derefV u.h x)) := by
  cases x with
  | ref id =>
    obtain ⟨a, e1, e2⟩ := h
    obtain ⟨o, h3, h4, h5⟩ := r.at e2
    unfold derefV at d ⊢
    dsimp only at d ⊢
    rw [h3] at d ⊢
    cases o with
    | lst k ys =>
      obtain ⟨vs, h6, h7⟩ := h5
      rw [e1]
      exact .lst (SqL.of h6) (RepVs.dp ys vs h7 d)
    | dct k ys => exact Bool.noConfusion d
    | ins c fs => exact Bool.noConfusion d
  | _ => exact h.dp d
def rC2 (g : Gx) (l : Lx) (f : Hv → Val → Val → Option Bool) : R2 := fun x y H Q => ∃ W σ u vx vy, u.H = H ∧ HR g l u ∧ RepB l u vx x ∧ RepB l u vy y ∧ Run g l W σ (RepV l) Q u (liftB (f u.h vx vy) u.h)
end
def Cmp.op : Cmp → CmpOp
  | .eq => .Eq
  | .ne => .NotEq
  | .lt => .Lt
  | .le => .LtE
  | .gt => .Gt
  | .ge => .GtE
  | .inn => .In
  | .notin => .NotIn
  | .isN => .Is
  | .notN => .IsNot
  | .deq => .Eq
  | .dne => .NotEq
theorem anyE_eq (x : Val) : ∀ ys : List Val, x.data = true → datas ys = true → anyE x ys = (toDs ys).any fun z => PyData.eqv z (toD x)
  | [], _, _ => rfl
  | y :: ys, h, k => by
    have k : (y.data && datas ys) = true := k
    rw [Bool.and_eq_true] at k
    show (y.eqv x || anyE x ys) = (PyData.eqv (toD y) (toD x) || _)
    rw [toD_eqv y x k.1 h, anyE_eq x ys h k.2]
theorem eqV_some {x y : Val} {b : Bool} (h : eqV x y = some b) : x.data = true ∧ y.data = true ∧ x.dep ≤ 40 ∧ y.dep ≤ 40 ∧ x.eqv y = b := by
  unfold eqV at h
  split at h
  · rename_i q
    simp only [Bool.and_eq_true, decide_eq_true_eq] at q
    exact ⟨q.1.1.1, q.1.1.2, q.1.2, q.2, Option.some.inj h⟩
  · cases h
theorem ltV_some {x y : Val} {b : Bool} (h : ltV x y = some b) : x.data = true ∧ y.data = true ∧ x.alike y = true ∧ x.dep ≤ 40 ∧ y.dep ≤ 40 ∧ x.lt y = b := by
  unfold ltV at h
  split at h
  · rename_i q
    simp only [Bool.and_eq_true, decide_eq_true_eq] at q
    exact ⟨q.1.1.1.1, q.1.1.1.2, q.1.1.2, q.1.2, q.2, Option.some.inj h⟩
  · cases h
theorem memV_some {x : Val} {xs : List Val} {b : Bool} (h : memV x xs = some b) : x.data = true ∧ datas xs = true ∧ x.dep ≤ 40 ∧ deps xs ≤ 40 ∧ anyE x xs = b := by
  unfold memV at h
  split at h
  · rename_i q
    simp only [Bool.and_eq_true, decide_eq_true_eq] at q
    exact ⟨q.1.1.1, q.1.1.2, q.1.2, q.2, Option.some.inj h⟩
  · cases h
theorem dget_isSome {l : Lx} {u : Vw} {x : Option Val} {o : Option V} (h : RepO l u x o) : o.isSome = x.isSome := by
  cases x with
  | none => rw [show o = none from h]; rfl
  | some x => obtain ⟨v, e, _⟩ := h; rw [e]; rfl

section
variable {g : Gx} {l : Lx} {X : Cx} {W : WX}
theorem opt_map_not {o : Option Bool} {b : Bool} (h : o.map (!·) = some b) : o = some (!b) := by
  cases o with
  | none => cases h
  | some c => cases h; simp
theorem liftB_some {W : WX} {σ : St} {u : Vw} {Q : VK} {o : Option Bool} (h : Run g l W σ (RepV l) Q u (liftB o u.h)) (r : HR g l u) : ∃ b, o = some b ∧ Q (.bl b) u.H := by
  cases o with
  | none => exact (Run.bad h).elim
  | some b => exact ⟨b, rfl, Run.here h rfl r rfl⟩
theorem seqOf_notData {h : Hv} {x : Val} {xs : List Val} (e : seqOf h x = some xs) : True := trivial
/-- y in x -/
theorem in_run {pins : List (Addr × Obj)} {s : Shared} {σ : St} {u : Vw} {x y : V} {vx vy : Val} {v w : Value} {b : Bool} (hu : X.A.units + 65 < cLine) (I : Inv X pins σ u.H s) (hr : HR g l u) (bx : RepB l u vx x) (by' : RepB l u vy y) (rx : RelV x v) (ry : RelV y w)
    (h : inV u.h vx vy = some b) : (∀ (Q : Value → Shared → Prop), (∀ s', Inv X pins σ u.H s' → Q (.bool b) s') → wpAny (model X.prog X.w) X.A (compareOp .In v w) Q X.xe s) ∧ ∀ (Q : Value → Shared → Prop), (∀ s', Inv X pins σ u.H s' → Q (.bool (!b)) s') → wpAny (model X.prog X.w) X.A (compareOp .NotIn v w) Q X.xe s := by
  unfold inV at h
  split at h
  · rename_i xs e
    obtain ⟨h1, h2, h3, h4, h5⟩ := memV_some h
    obtain ⟨a, vs, e1, e2, e3⟩ := seqOf_rep hr by' e
    obtain ⟨as, r1⟩ := Dp.reads I (toD vx) x v (bx.dp h1) rx
    have hd : X.A.units + 1 + min (PyData.depthAll (toDs xs)) (toD vx).depth < cLine := by
      rw [toDs_dep, toD_dep]; omega
    rw [← h5, anyE_eq vx xs h1 h2]
    rcases e2 with e2 | e2
    · obtain ⟨bs, r2⟩ := Dp.reads I (.list (toDs xs)) y w (by rw [e1]; exact .lst (SqL.of e2) (RepVs.dp xs vs e3 h2)) ry
      exact ⟨fun Q q => SeqAt.in_list_data r2 r1 (toDs_plain xs) (toD_plain vx) hd (q s I), fun Q q => SeqAt.notIn_list_data r2 r1 (toDs_plain xs) (toD_plain vx) hd (q s I)⟩
    · obtain ⟨bs, r2⟩ := Dp.reads I (.tuple (toDs xs)) y w (by rw [e1]; exact .tup (SqT.of e2) (RepVs.dp xs vs e3 h2)) ry
      exact ⟨fun Q q => SeqAt.in_tuple_data r2 r1 (toDs_plain xs) (toD_plain vx) hd (q s I), fun Q q => SeqAt.notIn_tuple_data r2 r1 (toDs_plain xs) (toD_plain vx) hd (q s I)⟩
  · split at h
    · rename_i kvs e
      split at h
      · rename_i hk
        cases h
        obtain ⟨a, e1, e2⟩ := dctOf_rep hr by' e
        obtain ⟨o, e3, e4⟩ := dct_get e2 hk bx
        subst e1
        cases (show w = Value.ref a from ry)
        rw [← dget_isSome e4]
        exact ⟨fun Q q => x_in (by omega) I e3 rx q, fun Q q => x_notIn (by omega) I e3 rx q⟩
      · cases h
    · split at h
      · rename_i a b _ _
        cases h
        refine ⟨fun Q q => ?_, fun Q q => ?_⟩
        · exact thn (op_in_str pins s σ _ x y v w (fun z H => z = .bl (subText a b) ∧ H = u.H) I rx ry ⟨a, b, bx, by', rfl, rfl⟩) fun z s' ⟨z1, H', I', r', e1, e2⟩ => by
            subst e1 e2
            cases (show z = Value.bool _ from r')
            exact q s' I'
        · exact thn (op_notin_str pins s σ _ x y v w (fun z H => z = .bl (!subText a b) ∧ H = u.H) I rx ry ⟨a, b, bx, by', rfl, rfl⟩) fun z s' ⟨z1, H', I', r', e1, e2⟩ => by
            subst e1 e2
            cases (show z = Value.bool _ from r')
            exact q s' I'
      · cases h

theorem sub_hits {pins : List (Addr × Obj)} {s : Shared} {σ : St} {u : Vw} {A : Around} (hu : A.units + 64 < cLine) (I : Inv X pins σ u.H s) {kb : List (Val × Val)} {lb : List (Key × V)} {vb : List (Key × Value)} (rb : KV lb vb) (qb : RepK l u kb lb) :
    ∀ {ka : List (Val × Val)} {la : List (Key × V)} {va : List (Key × Value)} {b : Bool}, RepK l u ka la → KV la va → subD ka kb = some b → PySem.W.KeqHits A s vb va b
  | [], _, va, b, qa, ra, h => by
    rw [show _ = [] from qa] at ra
    cases ra
    cases h
    exact .nil
  | (k, x) :: r, _, va, b, ⟨q, v, t, e, h1, h2, h3⟩, ra, h => by
    subst e
    cases ra with
    | @cons _ p _ ps hp ht =>
      obtain ⟨p1, pv⟩ := p
      obtain ⟨e1, e2⟩ := hp
      have e1 : q = p1 := e1
      subst e1
      have gg := RepK.get h1 qb
      have vv := rb.val q
      unfold subD at h
      cases hg : dget kb k with
      | none =>
        rw [hg] at h gg
        cases h
        rw [show valV lb q = none from gg] at vv
        refine .miss ?_
        cases z : valueAt vb q with
        | none => rfl
        | some w => rw [z] at vv; exact (show False from vv).elim
      | some w =>
        rw [hg] at h gg
        obtain ⟨w', f1, f2⟩ := gg
        rw [f1] at vv
        obtain ⟨y, hy, ry⟩ := vv.some_of
        dsimp only at h
        split at h
        · rename_i d
          simp only [Bool.and_eq_true, decide_eq_true_eq] at d
          cases hs : subD r kb with
          | none => rw [hs] at h; cases h
          | some c =>
            rw [hs] at h
            have h : (x.eqv w && c) = b := Option.some.inj h
            subst h
            obtain ⟨as, r1⟩ := Dp.reads I (toD x) v pv (RepV.dp x v h2 d.1.1.1) e2
            obtain ⟨bs, r2⟩ := Dp.reads I (toD w) w' y (RepV.dp w w' f2 d.1.1.2) ry
            have q1 := PySem.SeqAt.eqAt_plain (toD x) (toD w) A s pv y as bs r1 r2 (toD_plain x) (toD_plain w) (by rw [toD_dep, toD_dep]; omega)
            rw [toD_eqv x w d.1.1.1 d.1.1.2] at q1
            exact .hit hy q1 (sub_hits hu I rb qb h3 ht hs)
        · cases h
theorem DctR.leaf {u : Vw} {a : Addr} {kvs : List (Val × Val)} (h : DctR l u a kvs) (k : (kvs.all fun p => p.1.leafK) = true) : ∃ ks, Rd u.H a (.dK ks) ∧ RepK l u kvs ks := by
  rcases h with h | ⟨ks, _, h0, h2⟩
  · exact h
  · cases kvs with
    | nil => exact absurd rfl h0
    | cons p r =>
      obtain ⟨q, v, s, _, f, _⟩ := h2
      rw [List.all_cons, Bool.and_eq_true] at k
      rw [leafK_not k.1] at f
      cases f
theorem eqD_run {pins : List (Addr × Obj)} {s : Shared} {σ : St} {u : Vw} {x y : V} {vx vy : Val} {v w : Value} {b : Bool} (hu : X.A.units + 65 < cLine) (I : Inv X pins σ u.H s) (hr : HR g l u) (bx : RepB l u vx x) (by' : RepB l u vy y) (rx : RelV x v) (ry : RelV y w)
    (h : eqD u.h vx vy = some b) : (∀ (Q : Value → Shared → Prop), (∀ s', Inv X pins σ u.H s' → Q (.bool b) s') → wpAny (model X.prog X.w) X.A (compareOp .Eq v w) Q X.xe s) ∧ ∀ (Q : Value → Shared → Prop), (∀ s', Inv X pins σ u.H s' → Q (.bool (!b)) s') → wpAny (model X.prog X.w) X.A (compareOp .NotEq v w) Q X.xe s := by
  unfold eqD at h
  split at h
  · rename_i ka kb ea eb
    split at h
    · rename_i hk
      rw [Bool.and_eq_true] at hk
      obtain ⟨a, e1, e2⟩ := dctOf_rep hr bx ea
      obtain ⟨c, f1, f2⟩ := dctOf_rep hr by' eb
      obtain ⟨la, e3, e4⟩ := e2.leaf hk.1
      obtain ⟨lb, f3, f4⟩ := f2.leaf hk.2
      subst e1 f1
      cases (show v = Value.ref a from rx)
      cases (show w = Value.ref c from ry)
      obtain ⟨_, ya, va, ra, da⟩ := dk_rd I.hok e3
      obtain ⟨_, yb, vb, rb, db⟩ := dk_rd I.hok f3
      have l1 : va.length = ka.length := by rw [RepK.length e4, ← ra.length]
      have l2 : vb.length = kb.length := by rw [RepK.length f4, ← rb.length]
      split at h
      · rename_i hl
        have hh : va.length = vb.length := by rw [l1, l2, hl]
        have hits : va.length = vb.length → PySem.W.KeqHits X.A.in1 s vb va b := fun _ => sub_hits (by show X.A.units + 1 + 64 < cLine; omega) I rb f4 e4 ra h
        refine ⟨fun Q q => PySem.W.keq_eq ya yb da db (by omega) hits ?_, fun Q q => PySem.W.keq_ne ya yb da db (by omega) hits ?_⟩
        · rw [show (va.length == vb.length && b) = b by rw [hh]; simp]; exact q s I
        · rw [show (va.length == vb.length && b) = b by rw [hh]; simp]; exact q s I
      · rename_i hl
        cases h
        have hn : ¬ va.length = vb.length := by rw [l1, l2]; exact hl
        have hits : va.length = vb.length → PySem.W.KeqHits X.A.in1 s vb va true := fun z => absurd z hn
        refine ⟨fun Q q => PySem.W.keq_eq ya yb da db (by omega) hits ?_, fun Q q => PySem.W.keq_ne ya yb da db (by omega) hits ?_⟩
        · rw [show (va.length == vb.length && true) = false by simp [hn]]; exact q s I
        · rw [show (va.length == vb.length && true) = false by simp [hn]]; exact q s I
    · cases h
  · cases h
theorem repB_isN {u : Vw} : ∀ {x : Val} {v : V}, RepB l u x v → decide (v = V.non) = x.isN
  | .non, _, h => by rw [show _ = V.non from h]; rfl
  | .bl _, _, h => by rw [show _ = V.bl _ from h]; rfl
  | .int _, _, h => by rw [show _ = V.int _ from h]; rfl
  | .str _, _, h => by rw [show _ = V.str _ from h]; rfl
  | .tup _, _, ⟨a, vs, e, _⟩ => by rw [e]; rfl
  | .lst _, _, ⟨a, vs, e, _⟩ => by rw [e]; rfl
  | .dct _, _, ⟨a, e, _⟩ => by rw [e]; rfl
  | .ref _, _, ⟨a, e, _⟩ => by rw [e]; rfl
  | .lam _, _, ⟨a, e, _⟩ => by rw [e]; rfl
/-- a comparison -/
theorem op_cmp (hu : X.A.units + 65 < cLine) : ∀ o : Cmp, OpR X (compareOp o.op) (rC2 g l fun h => opCmp h o) := by
  intro o pins s σ H x y v w Q I rx ry ⟨W, σ', u, vx, vy, e, hr, bx, by', h⟩
  subst e
  obtain ⟨b, hb, hq⟩ := liftB_some h hr
  have fin : ∀ s', Inv X pins σ u.H s' → EP X pins σ Q (.bool b) s' := fun s' I' => ⟨.bl b, u.H, I', rfl, hq⟩
  have rd : ∀ {z : Val} {t : V} {r : Value}, RepB l u z t → RelV t r → z.data = true → ∃ as, Reads s.heap r (toD z) as := fun {z t r} bz rz d => Dp.reads I (toD z) t r (bz.dp d) rz
  cases o with
  | eq =>
    obtain ⟨d1, d2, p1, p2, q⟩ := eqV_some (show eqV (derefV u.h vx) (derefV u.h vy) = some b from hb)
    obtain ⟨as, r1⟩ := Dp.reads I _ x v (dp_deref hr bx d1) rx
    obtain ⟨bs, r2⟩ := Dp.reads I _ y w (dp_deref hr by' d2) ry
    exact PySem.SeqAt.eq_plain r1 r2 (toD_plain _) (toD_plain _) (by rw [toD_dep, toD_dep]; omega) (by rw [toD_eqv _ _ d1 d2, q]; exact fin s I)
  | ne =>
    obtain ⟨d1, d2, p1, p2, q⟩ := eqV_some (opt_map_not (show (eqV (derefV u.h vx) (derefV u.h vy)).map (!·) = some b from hb))
    obtain ⟨as, r1⟩ := Dp.reads I _ x v (dp_deref hr bx d1) rx
    obtain ⟨bs, r2⟩ := Dp.reads I _ y w (dp_deref hr by' d2) ry
    exact PySem.SeqAt.ne_plain r1 r2 (toD_plain _) (toD_plain _) (by rw [toD_dep, toD_dep]; omega) (by rw [toD_eqv _ _ d1 d2, q, Bool.not_not]; exact fin s I)
  | lt =>
    obtain ⟨d1, d2, al, p1, p2, q⟩ := ltV_some (show ltV vx vy = some b from hb)
    obtain ⟨as, r1⟩ := rd bx rx d1
    obtain ⟨bs, r2⟩ := rd by' ry d2
    exact lt_data r1 r2 (toD_alike _ _ al) (alike_nn al) (by rw [toD_dep, toD_dep]; omega) (by rw [toD_lt _ _ d1 d2 al, q]; exact fin s I)
  | gt =>
    obtain ⟨d2, d1, al, p2, p1, q⟩ := ltV_some (show ltV vy vx = some b from hb)
    obtain ⟨as, r1⟩ := rd bx rx d1
    obtain ⟨bs, r2⟩ := rd by' ry d2
    have al' := (alike_comm (toD vx) (toD vy)).trans (toD_alike _ _ al)
    exact gt_data r1 r2 al' (ne_none_both ((alike_comm _ _).trans al') (alike_nn al)) (by rw [toD_dep, toD_dep]; omega) (by rw [toD_lt _ _ d2 d1 al, q]; exact fin s I)
  | le =>
    obtain ⟨d2, d1, al, p2, p1, q⟩ := ltV_some (opt_map_not (show (ltV vy vx).map (!·) = some b from hb))
    obtain ⟨as, r1⟩ := rd bx rx d1
    obtain ⟨bs, r2⟩ := rd by' ry d2
    have al' := (alike_comm (toD vx) (toD vy)).trans (toD_alike _ _ al)
    exact le_data r1 r2 al' (ne_none_both ((alike_comm _ _).trans al') (alike_nn al)) (by rw [toD_dep, toD_dep]; omega) (by rw [toD_lt _ _ d2 d1 al, q, Bool.not_not]; exact fin s I)
  | ge =>
    obtain ⟨d1, d2, al, p1, p2, q⟩ := ltV_some (opt_map_not (show (ltV vx vy).map (!·) = some b from hb))
    obtain ⟨as, r1⟩ := rd bx rx d1
    obtain ⟨bs, r2⟩ := rd by' ry d2
    exact ge_data r1 r2 (toD_alike _ _ al) (alike_nn al) (by rw [toD_dep, toD_dep]; omega) (by rw [toD_lt _ _ d1 d2 al, q, Bool.not_not]; exact fin s I)
  | inn => exact (in_run hu I hr bx by' rx ry (show inV u.h vx vy = some b from hb)).1 _ fin
  | notin =>
    refine (in_run hu I hr bx by' rx ry (opt_map_not (show (inV u.h vx vy).map (!·) = some b from hb))).2 _ fun s' I' => ?_
    rw [Bool.not_not]
    exact fin s' I'
  | deq => exact (eqD_run hu I hr bx by' rx ry (show eqD u.h vx vy = some b from hb)).1 _ fin
  | dne =>
    refine (eqD_run hu I hr bx by' rx ry (opt_map_not (show (eqD u.h vx vy).map (!·) = some b from hb))).2 _ fun s' I' => ?_
    rw [Bool.not_not]
    exact fin s' I'
  | isN =>
    have hb : opCmp u.h .isN vx vy = some b := hb
    cases vy <;> first | contradiction | skip
    have hb : vx.isN = b := Option.some.inj hb
    exact op_isN pins s σ _ x y v w Q I rx ry ⟨by', by rw [repB_isN bx, hb]; exact hq⟩
  | notN =>
    have hb : opCmp u.h .notN vx vy = some b := hb
    cases vy <;> first | contradiction | skip
    have hb : (!vx.isN) = b := Option.some.inj hb
    exact op_notN pins s σ _ x y v w Q I rx ry ⟨by', by rw [repB_isN bx, hb]; exact hq⟩
end
end Pk

set_option maxRecDepth 100000
/-! Pk6: rules for expressions and tests. -/
namespace Pk
open PySem L2 PySem.W

section
variable {g : Gx} {l : Lx} {X : Cx} {W : WX} {ea eb ec : Expr} {a b c : C} {pos : Pos}
theorem se_bin (o : Bin) (ha : SB g l X W ea a) (hb : SB g l X W eb b) : SE g l X W (.BinOp ea o.op eb pos) (cBin o a b) := by
  refine PE.weak (pe_op (op_bin (g := g) (l := l) o) ha hb) fun σ H Q ⟨z, u, fr, e1, e2, e3, e4⟩ => ?_
  rw [← e1]
  refine tE.first e2 e3 e4 fun u1 x v x1 r1 f1 rx h1 => ?_
  refine tE.first r1 f1 h1 fun u2 y w x2 r2 f2 ry h2 => ?_
  exact ⟨W, σ, u2, x, y, rfl, r2, RepB.ext x2 r1 rx, ry, h2⟩
theorem se_cmp (o : Cmp) (hu : X.A.units + 65 < cLine) (ha : SB g l X W ea a) (hb : SB g l X W eb b) (hm : behindInMarks o.op eb = false := by first | exact nomark _ | with_unfolding_all rfl) : SE g l X W (.Compare ea [o.op] [eb] pos) (cCmp o a b) := by
  refine PE.weak (pe_cmpR (op_cmp (g := g) (l := l) hu o) ha hb hm) fun σ H Q ⟨z, u, fr, e1, e2, e3, e4⟩ => ?_
  rw [← e1]
  refine tE.first e2 e3 e4 fun u1 x v x1 r1 f1 rx h1 => ?_
  refine tE.first r1 f1 h1 fun u2 y w x2 r2 f2 ry h2 => ?_
  exact ⟨W, σ, u2, x, y, rfl, r2, RepB.ext x2 r1 rx, ry, h2⟩
/-- a run as a test -/
theorem Run.test {σ : St} {u : Vw} {Q : Bool → Hp → Prop} {r : Res Val} (h : Run g l W σ repB Q u (toB r)) : Run g l W σ (RepV l) (fun v H1 => ∃ k, v = .bl k ∧ Q k H1) u r := by
  cases r with
  | ok x hh =>
    cases x with
    | bl k => exact fun u' e x r v rv => ⟨k, rv, h u' e x r k rfl⟩
    | _ => exact (Run.bad h).elim
  | exc c hh => exact h
  | bad => exact h
/-- an expression as a test -/
theorem st_val (h : SE g l X W ea a) (he : ∀ whole, isTrue ea X.env whole = (do let v ← whole; standAt ea.pos; holding [v] (truthy v)) := by intro _; rfl) : ST g l X W ea a :=
  PT.weak (pt_val h he) fun σ H Q ⟨z, u, fr, e1, e2, e3, e4⟩ => ⟨z, u, fr, e1, e2, e3, Run.test e4⟩
theorem st_cmp (o : Cmp) (hu : X.A.units + 65 < cLine) (ha : SB g l X W ea a) (hb : SB g l X W eb b) (hm : behindInMarks o.op eb = false := by first | exact nomark _ | with_unfolding_all rfl) : ST g l X W (.Compare ea [o.op] [eb] pos) (cCmp o a b) := by
  refine PT.weak (pt_cmpR (op_cmp (g := g) (l := l) hu o) ha hb hm) fun σ H Q ⟨z, u, fr, e1, e2, e3, e4⟩ => ?_
  have e4 := Run.test e4
  rw [← e1]
  refine tE.first e2 e3 e4 fun u1 x v x1 r1 f1 rx h1 => ?_
  refine tE.first r1 f1 h1 fun u2 y w x2 r2 f2 ry h2 => ?_
  exact ⟨W, σ, u2, x, y, rfl, r2, RepB.ext x2 r1 rx, ry, h2⟩
theorem chainR (o p : Cmp) {r3 : CmpOp} {σ : St} {H : Hp} {Q : VK} (h : tE g l W (RepV l) (cChain o p a b c) σ H Q) :
    tChain (rC2 g l fun h => opCmp h o) (rC2 g l fun h => opCmp h p) (tE g l W (RepB l) a) (tE g l W (RepB l) b) (tE g l W (RepB l) c) σ H Q := by
  obtain ⟨z, u, fr, e1, e2, e3, e4⟩ := h
  rw [← e1]
  refine tE.first e2 e3 e4 fun u1 x v x1 r1 f1 rx h1 => ?_
  refine tE.first r1 f1 h1 fun u2 y w x2 r2 f2 ry h2 => ?_
  cases hb : opCmp u2.h o x y with
  | none => rw [hb] at h2; exact (Run.bad h2).elim
  | some k =>
    refine ⟨W, σ, u2, x, y, rfl, r2, RepB.ext x2 r1 rx, ry, ?_⟩
    show Run g l W σ (RepV l) _ u2 (liftB (opCmp u2.h o x y) u2.h)
    rw [hb]
    show Run g l W σ (RepV l) _ u2 (.ok (.bl k) u2.h)
    rw [hb] at h2
    intro u3 e5 x3 r3 v3 rv3
    refine ⟨k, rv3, ?_⟩
    cases k with
    | false =>
      rw [if_neg (by decide)]
      exact Run.at_ h2 x3 e5 r3 rfl
    | true =>
      rw [if_pos rfl]
      dsimp only at h2
      have h2 : Run g l W σ (RepV l) Q u3 ((c fr u3.h).bind fun z h3 => liftB (opCmp h3 p y z) h3) := by
        rw [e5]
        exact Run.mono x3 h2
      refine tE.first r3 (f2.ext x3 r2) h2 fun u4 t w4 x4 r4 f4 rt h4 => ?_
      exact ⟨W, σ, u4, y, t, rfl, r4, RepB.ext x4 r3 (RepB.ext x3 r2 ry), rt, h4⟩
theorem se_chain (o p : Cmp) (hu : X.A.units + 65 < cLine) (ha : SB g l X W ea a) (hb : SB g l X W eb b) (hc : SB g l X W ec c) (hm : lastMarks [o.op, p.op] [eb, ec] = false := by with_unfolding_all rfl) :
    SE g l X W (.Compare ea [o.op, p.op] [eb, ec] pos) (cChain o p a b c) :=
  PE.weak (pe_chain (op_cmp (g := g) (l := l) hu o) (op_cmp (g := g) (l := l) hu p) ha hb hc hm) fun σ H Q h => chainR o p (r3 := p.op) h
theorem st_chain (o p : Cmp) (hu : X.A.units + 65 < cLine) (ha : SB g l X W ea a) (hb : SB g l X W eb b) (hc : SB g l X W ec c) (hm : lastMarks [o.op, p.op] [eb, ec] = false := by with_unfolding_all rfl) :
    ST g l X W (.Compare ea [o.op, p.op] [eb, ec] pos) (cChain o p a b c) :=
  PT.weak (pt_chain (op_cmp (g := g) (l := l) hu o) (op_cmp (g := g) (l := l) hu p) ha hb hc hm) fun σ H Q ⟨z, u, fr, e1, e2, e3, e4⟩ => chainR o p (r3 := p.op) ⟨z, u, fr, e1, e2, e3, Run.test e4⟩

/-! ### and, or, not, if -/
theorem se_one {op} (h : SE g l X W ea a) : SE g l X W (.BoolOp op [ea] pos) a := pe_one h
theorem se_and {rest : List Expr} (ha : SE g l X W ea a) (hb : SE g l X W (.BoolOp .And (eb :: rest) pos) b) : SE g l X W (.BoolOp .And (ea :: eb :: rest) pos) (cAnd a b) := by
  refine PE.weak (pe_and ha hb) fun σ H Q ⟨z, u, fr, e1, e2, e3, e4⟩ => ?_
  rw [← e1]
  refine tE.first e2 e3 e4 fun u1 x v x1 r1 f1 rx h1 => ?_
  cases x with
  | bl k =>
    refine ⟨k, rx, ?_⟩
    cases k with
    | true => rw [if_pos rfl]; exact ⟨z, u1, fr, rfl, r1, f1, h1⟩
    | false => rw [if_neg (by decide)]; exact Run.here h1 rfl r1 rfl
  | _ => exact (Run.bad h1).elim
theorem se_or {rest : List Expr} (ha : SE g l X W ea a) (hb : SE g l X W (.BoolOp .Or (eb :: rest) pos) b) : SE g l X W (.BoolOp .Or (ea :: eb :: rest) pos) (cOr a b) := by
  refine PE.weak (pe_or ha hb) fun σ H Q ⟨z, u, fr, e1, e2, e3, e4⟩ => ?_
  rw [← e1]
  refine tE.first e2 e3 e4 fun u1 x v x1 r1 f1 rx h1 => ?_
  cases x with
  | bl k =>
    refine ⟨k, rx, ?_⟩
    cases k with
    | false => rw [if_neg (by decide)]; exact ⟨z, u1, fr, rfl, r1, f1, h1⟩
    | true => rw [if_pos rfl]; exact Run.here h1 rfl r1 rfl
  | _ => exact (Run.bad h1).elim
theorem toB_bind {k : Val → Hv → Res Val} : ∀ {r : Res Val}, toB (r.bind k) = r.bind fun x h => toB (k x h)
  | .ok _ _ => rfl
  | .exc _ _ => rfl
  | .bad => rfl
/-- the first part of a test, itself a test -/
theorem tT.first' {α' β' : Type} {rep' : Vw → α' → β' → Prop} {Q : β' → Hp → Prop} {Q' : Bool → Hp → Prop} {k : Val → Hv → Res α'} {z : Hp} {fr : Fr} {σ : St} {u : Vw} (hr : HR g l u) (hf : FR l z u fr σ)
    (h : Run g l W σ rep' Q u ((a fr u.h).bind k)) (hb : ∀ x h, (∀ q, x ≠ .bl q) → k x h = .bad) (hq : ∀ u1 b, Ext u u1 → HR g l u1 → FR l z u1 fr σ → Run g l W σ rep' Q u1 (k (.bl b) u1.h) → Q' b u1.H) : tT g l W a σ u.H Q' := by
  refine ⟨z, u, fr, rfl, hr, hf, ?_⟩
  cases e : a fr u.h with
  | ok x hh =>
    rw [e] at h
    cases x with
    | bl q =>
      intro u1 e1 x1 r1 v rv
      have rv : v = q := rv
      rw [rv]
      refine hq u1 q x1 r1 (hf.ext x1 hr) ?_
      rw [e1]
      exact Run.mono x1 h
    | _ =>
      have h : Run g l W σ rep' Q u (k _ hh) := h
      rw [hb _ _ (by intro q z; cases z)] at h
      exact (Run.bad h).elim
  | exc q hh => rw [e] at h; exact h
  | bad => rw [e] at h; exact h
abbrev SW (g : Gx) (l : Lx) (X : Cx) (W : WX) (e : Expr) (c : C) : Prop := PW X e (tT g l W c)
theorem sw_and1 (h : ST g l X W ea a) : SW g l X W (.BoolOp .And [ea] pos) a := pw_and1 h
theorem sw_or1 (h : ST g l X W ea a) : SW g l X W (.BoolOp .Or [ea] pos) a := pw_or1 h
theorem sw_and {rest : List Expr} (ha : ST g l X W ea a) (hb : SW g l X W (.BoolOp .And (eb :: rest) pos) b) : SW g l X W (.BoolOp .And (ea :: eb :: rest) pos) (cAnd a b) := by
  refine PW.weak (pw_and ha hb) fun σ H Q ⟨z, u, fr, e1, e2, e3, e4⟩ => ?_
  rw [← e1]
  have e4 : Run g l W σ repB Q u (toB ((a fr u.h).bind _)) := e4
  rw [toB_bind] at e4
  refine tT.first' e2 e3 e4 (fun x h n => by cases x with | bl q => exact absurd rfl (n q) | _ => rfl) fun u1 k x1 r1 f1 h1 => ?_
  cases k with
  | true => rw [if_pos rfl]; exact ⟨z, u1, fr, rfl, r1, f1, h1⟩
  | false => rw [if_neg (by decide)]; exact Run.here h1 rfl r1 rfl
theorem sw_or {rest : List Expr} (ha : ST g l X W ea a) (hb : SW g l X W (.BoolOp .Or (eb :: rest) pos) b) : SW g l X W (.BoolOp .Or (ea :: eb :: rest) pos) (cOr a b) := by
  refine PW.weak (pw_or ha hb) fun σ H Q ⟨z, u, fr, e1, e2, e3, e4⟩ => ?_
  rw [← e1]
  have e4 : Run g l W σ repB Q u (toB ((a fr u.h).bind _)) := e4
  rw [toB_bind] at e4
  refine tT.first' e2 e3 e4 (fun x h n => by cases x with | bl q => exact absurd rfl (n q) | _ => rfl) fun u1 k x1 r1 f1 h1 => ?_
  cases k with
  | false => rw [if_neg (by decide)]; exact ⟨z, u1, fr, rfl, r1, f1, h1⟩
  | true => rw [if_pos rfl]; exact Run.here h1 rfl r1 rfl
theorem st_bool (h : SW g l X W ea a) : ST g l X W ea a := PW.pt h
theorem st_not (ha : ST g l X W ea a) : ST g l X W (.UnaryOp .Not ea pos) (cNot a) := by
  refine PT.weak (pt_not ha) fun σ H Q ⟨z, u, fr, e1, e2, e3, e4⟩ => ?_
  rw [← e1]
  have e4 : Run g l W σ repB Q u (toB ((a fr u.h).bind _)) := e4
  rw [toB_bind] at e4
  refine tT.first' e2 e3 e4 (fun x h n => by cases x with | bl q => exact absurd rfl (n q) | _ => rfl) fun u1 k x1 r1 f1 h1 => ?_
  exact Run.here h1 rfl r1 rfl
theorem se_not (ha : SE g l X W ea a) : SE g l X W (.UnaryOp .Not ea pos) (cNot a) := by
  refine PE.weak (pe_not ha) fun σ H Q ⟨z, u, fr, e1, e2, e3, e4⟩ => ?_
  rw [← e1]
  refine tE.first e2 e3 e4 fun u1 x v x1 r1 f1 rx h1 => ?_
  cases x with
  | bl k => exact ⟨k, rx, Run.here h1 rfl r1 rfl⟩
  | _ => exact (Run.bad h1).elim
theorem se_neg (ha : SE g l X W ea a) : SE g l X W (.UnaryOp .USub ea pos) (cNeg a) := by
  refine PE.weak (pe_un un_neg ha) fun σ H Q ⟨z, u, fr, e1, e2, e3, e4⟩ => ?_
  rw [← e1]
  refine tE.first e2 e3 e4 fun u1 x v x1 r1 f1 rx h1 => ?_
  cases x with
  | int k => exact ⟨k, rx, Run.here h1 rfl r1 rfl⟩
  | _ => exact (Run.bad h1).elim
theorem se_if (hc : ST g l X W ec c) (ha : SE g l X W ea a) (hb : SE g l X W eb b) : SE g l X W (.IfExp ec ea eb pos) (cIf c a b) := by
  refine PE.weak (pe_ifExp hc ha hb) fun σ H Q ⟨z, u, fr, e1, e2, e3, e4⟩ => ?_
  rw [← e1]
  refine tT.first' e2 e3 e4 (fun x h n => by cases x with | bl q => exact absurd rfl (n q) | _ => rfl) fun u1 k x1 r1 f1 h1 => ?_
  cases k with
  | true => rw [if_pos rfl]; exact ⟨z, u1, fr, rfl, r1, f1, h1⟩
  | false => rw [if_neg (by decide)]; exact ⟨z, u1, fr, rfl, r1, f1, h1⟩
end
end Pk

set_option maxRecDepth 100000
/-! Pk7: subscripts, slices, attributes, calls of built-ins. -/
namespace Pk
open PySem PySem.Spec L2 PyProof.Rows

theorem atI_eq {α : Type} (xs : List α) (i : Int) : L2.atI xs i = Pk.atI xs i := by
  unfold L2.atI Pk.atI ixN
  by_cases h : 0 ≤ i
  · rw [if_pos h, if_pos h]
    by_cases h2 : i < (xs.length : Int)
    · rw [if_pos h2]; rfl
    · rw [if_neg h2]
      have : xs.length ≤ i.toNat := by omega
      simp [this]
  · rw [if_neg h, if_neg h]
    by_cases h2 : -(xs.length : Int) ≤ i
    · rw [if_pos h2, if_pos (by omega)]; rfl
    · rw [if_neg h2, if_neg (by omega)]; rfl
section
variable {g : Gx} {l : Lx} {X : Cx} {W : WX} {ea eb ec : Expr} {a b c : C} {pos p p2 : Pos}
theorem RepVs.atI {u : Vw} {xs : List Val} {vs : List V} {i : Int} {x : Val} (h : RepVs l u xs vs) (e : Pk.atI xs i = some x) : ∃ v, L2.atI vs i = some v ∧ RepV l u x v := by
  rw [atI_eq]
  unfold Pk.atI at e ⊢
  rw [← h.length]
  by_cases h1 : 0 ≤ i
  · rw [if_pos h1] at e ⊢
    exact RepVs.get h e
  · rw [if_neg h1] at e ⊢
    by_cases h2 : 0 ≤ i + (xs.length : Int)
    · rw [if_pos h2] at e ⊢
      exact RepVs.get h e
    · rw [if_neg h2] at e; cases e
theorem repO_get {u : Vw} {o : Option Val} {w : Option V} {x : Val} (h : RepO l u o w) (e : o = some x) : ∃ v, w = some v ∧ RepV l u x v := by
  subst e; exact h
theorem DGX.some {H : Hp} {a : Addr} {y : V} {v : V} (h : DGX H a y (some v)) : DGet H a y (some v) := h.elim id fun ⟨_, _, _, _, _, e⟩ => by cases e
/-- a[b] -/
theorem ix_any (hu : X.A.units + 1 < cLine) : IxR X (rB2 g l opIdx) := by
  intro value slice pins s σ H x y v w Q I rx ry ⟨W, σ', u, vx, vy, e, hr, bx, by', h⟩ hs
  subst e
  cases ho : opIdx u.h vx vy with
  | none => rw [ho] at h; exact (Run.bad h).elim
  | some z =>
    rw [ho] at h
    have fin : ∀ t, RepV l u z t → Q t u.H := fun t rt => Run.here h rfl hr rt
    have dct : ∀ kvs, dctOf u.h vx = some kvs → (if keyOk kvs vy = true then dget kvs vy else none) = some z → wpAny (model X.prog X.w) X.A (subscriptTail value slice v w) (EP X pins σ Q) X.xe s := fun kvs ek eg => by
      split at eg
      · rename_i hk
        obtain ⟨q, e1, e2⟩ := dctOf_rep hr bx ek
        obtain ⟨o, e3, e4⟩ := dct_get e2 hk by'
        obtain ⟨t, e5, e6⟩ := repO_get e4 eg
        subst e5 e1
        cases (show v = Value.ref q from rx)
        exact tail_any (ops := [.ref q, w]) (dict_typeIs I e3.some) PySem.F.slot_dict_getitem.lookup (d_getItem hu I e3.some ry fun w' s3 I3 rw' => ⟨t, u.H, I3, rw', fin t e6⟩) hs
      · cases eg
    unfold opIdx at ho
    split at ho
    · rename_i n
      split at ho
      · rename_i xs es
        obtain ⟨q, vs, e1, e2, e3⟩ := seqOf_rep hr bx es
        obtain ⟨t, e4, e5⟩ := e3.atI ho
        rcases e2 with e2 | e2
        · exact ix_list value slice pins s σ _ x y v w Q I rx ry ⟨q, vs, n, t, e1, by', SqL.of e2, e4, fin t e5⟩ hs
        · exact ix_tup value slice pins s σ _ x y v w Q I rx ry ⟨q, vs, n, t, e1, by', SqT.of e2, e4, fin t e5⟩ hs
      · rename_i hn
        split at ho
        · rename_i st
          split at ho
          · rename_i hb
            cases hc : Pk.atI st.cps.toList n with
            | none => rw [hc] at ho; cases ho
            | some c =>
              rw [hc] at ho
              cases ho
              exact ix_str value slice pins s σ _ x y v w Q I rx ry ⟨st, n, c, bx, by', le_line hb, by rw [atI_eq]; exact hc, fin _ rfl⟩ hs
          · cases ho
        · split at ho
          · rename_i kvs ek
            exact dct kvs ek ho
          · cases ho
    · split at ho
      · rename_i kvs ek
        exact dct kvs ek ho
      · cases ho
theorem se_idx (hu : X.A.units + 65 < cLine) (ha : SB g l X W ea a) (hb : SB g l X W eb b) (hs : PlainIx eb := by intro _ _; rfl) : SE g l X W (.Subscript ea eb pos) (cIdx a b) := by
  refine PE.weak (pe_ix (ix_any (g := g) (l := l) (by omega)) ha hb hs) fun σ H Q ⟨z, u, fr, e1, e2, e3, e4⟩ => ?_
  rw [← e1]
  refine tE.first e2 e3 e4 fun u1 x v x1 r1 f1 rx h1 => ?_
  refine tE.first r1 f1 h1 fun u2 y w x2 r2 f2 ry h2 => ?_
  exact ⟨W, σ, u2, x, y, rfl, r2, RepB.ext x2 r1 rx, ry, h2⟩

/-! ### slices -/
theorem clamp_eq (n d : Nat) (o : Option Int) : HT.sIx n d o = clampI n d o := by cases o <;> rfl
theorem cut_eq (vs : List V) (lo hi : Option Int) : cutV vs lo hi = sliceL vs lo hi := by
  unfold cutV sliceL
  rw [clamp_eq, clamp_eq]
theorem RepVs.cut {u : Vw} {xs : List Val} {vs : List V} (h : RepVs l u xs vs) (lo hi : Option Int) : RepVs l u (sliceL xs lo hi) (sliceL vs lo hi) := by
  unfold sliceL
  rw [h.length]
  exact RepVs.take _ (RepVs.drop _ h)
/-- the parts of a slice -/
inductive PartOk (g : Gx) (l : Lx) (X : Cx) (W : WX) : Option Expr → Option C → Prop
  | none : PartOk g l X W none none
  | some {e : Expr} {c : C} : SE g l X W e c → PartOk g l X W (some e) (some c)
def tP (g : Gx) (l : Lx) (W : WX) (o : Option C) : TO := fun σ H Q => ∃ z u fr, u.H = H ∧ HR g l u ∧ FR l z u fr σ ∧ Run g l W σ (fun _ a b => a = b) Q u (cOpt o fr u.h)
theorem PO.weak {e : Option Expr} {t t' : TO} (h : PO X e t) (w : ∀ σ H Q, t' σ H Q → t σ H Q) : PO X e t' := ⟨fun pins s σ H Q I q => h.run pins s σ H Q I (w σ H Q q)⟩
theorem PartOk.po {e : Option Expr} {o : Option C} (h : PartOk g l X W e o) : PO X e (tP g l W o) := by
  cases h with
  | none => exact PO.weak po_none fun σ H Q ⟨z, u, fr, e1, e2, e3, e4⟩ => by rw [← e1]; exact Run.here e4 rfl e2 rfl
  | some h =>
    refine PO.weak (po_some h) fun σ H Q ⟨z, u, fr, e1, e2, e3, e4⟩ => ?_
    rw [← e1]
    refine tE.first e2 e3 e4 fun u1 x v x1 r1 f1 rx h1 => ?_
    cases x with
    | int i => exact ⟨i, rx, Run.here h1 rfl r1 rfl⟩
    | _ => exact (Run.bad h1).elim
theorem tP.first {o : Option C} {σ : L2.St} {u : Vw} {z : Hp} {fr : Fr} {α' β' : Type} {rep' : Vw → α' → β' → Prop} {Q : β' → Hp → Prop} {Q' : Option Int → Hp → Prop} {k : Option Int → Hv → Res α'} (hr : HR g l u) (hf : FR l z u fr σ)
    (h : Run g l W σ rep' Q u ((cOpt o fr u.h).bind k)) (hq : ∀ u1 b, Ext u u1 → HR g l u1 → FR l z u1 fr σ → Run g l W σ rep' Q u1 (k b u1.h) → Q' b u1.H) : tP g l W o σ u.H Q' :=
  ⟨z, u, fr, rfl, hr, hf, Run.weak (Run.bind (rep := fun _ a b => a = b) h) (fun _ _ _ _ _ h => h) fun b _ ⟨u1, x, e1, e2, e3, e4, e5⟩ => e1 ▸ hq u1 b e2 e3 (hf.ext e2 hr) (by rw [← e4]; exact e5)⟩
def rSl (g : Gx) (l : Lx) (K : PySem.W.Frag) : V → Option Int → Option Int → Hp → VK → Prop := fun x lo hi H Q => rSlA K x lo hi H Q ∨ rSlL K x lo hi H Q
theorem se_sl {lo hi : Option Expr} {i j : Option C} (ha : SB g l X W ea a) (hl : PartOk g l X W lo i) (hh : PartOk g l X W hi j) : SE g l X W (.Subscript ea (.Slice lo hi none p2) pos) (cSl a i j) := by
  refine PE.weak (pe_slice (r := rSl g l X.K) (sl_tupA.or sl_list) ha hl.po hh.po) fun σ H Q ⟨z, u, fr, e1, e2, e3, e4⟩ => ?_
  rw [← e1]
  refine tE.first e2 e3 e4 fun u1 x v x1 r1 f1 rx h1 => ?_
  refine tP.first r1 f1 h1 fun u2 lo x2 r2 f2 h2 => ?_
  refine tP.first r2 f2 h2 fun u3 hi x3 r3 f3 h3 => ?_
  have rx3 := RepB.ext x3 r2 (RepB.ext x2 r1 rx)
  split at h3
  · rename_i xs
    obtain ⟨q, vs, e5, e6, e7⟩ := rx3
    refine Or.inl ⟨q, vs, e5, SqT.of e6, fun hw => ?_, fun _ => by rw [cut_eq]; exact newTup r3 (e7.cut _ _) h3⟩
    refine Run.here h3 rfl r3 ⟨q, vs, rfl, e6, ?_⟩
    rw [clamp_eq, clamp_eq, ← e7.length] at hw
    unfold sliceL
    rw [hw.1, hw.2, List.drop_zero, Nat.sub_zero, List.take_length]
    exact e7
  · split at h3
    · rename_i xs es
      obtain ⟨q, vs, e5, e6, e7⟩ := lstOf_rep r3 rx3 es
      exact Or.inr ⟨q, vs, e5, SqL.of e6, by rw [cut_eq]; exact newLst r3 (e7.cut _ _) h3⟩
    · exact (Run.bad h3).elim
theorem se_rev {p1 p2 p3 : Pos} {k} (ha : SB g l X W ea a) : SE g l X W (.Subscript ea (.Slice none none (some (.UnaryOp .USub (.Constant (.int 1) k p1) p2)) p3) pos) (cRev a) := by
  refine PE.weak (pe_revL ha) fun σ H Q ⟨z, u, fr, e1, e2, e3, e4⟩ => ?_
  rw [← e1]
  refine tE.first e2 e3 e4 fun u1 x v x1 r1 f1 rx h1 => ?_
  split at h1
  · rename_i xs es
    obtain ⟨q, vs, e5, e6, e7⟩ := lstOf_rep r1 rx es
    exact ⟨q, vs, e5, SqL.of e6, newLst r1 e7.reverse h1⟩
  · exact (Run.bad h1).elim

/-! ### attributes -/
/-- what is known of the classes -/
structure ClsOk (g : Gx) (K : PySem.W.Frag) : Prop where
  cls : ∀ c, Cls K (g.cls c)
  no : ∀ c f, f < g.nf → NoAttr K (g.cls c) (g.fld f)
theorem RepFs.get {u : Vw} {f : Nat} (hf : f < g.nf) : ∀ {fs : List (Nat × Val)} {fs' : List (Str × V)} {x : Val}, RepFs g l u fs fs' → fget fs f = some x → ∃ v, fs'.lookup (g.fld f) = some v ∧ RepV l u x v
  | [], _, x, _, e => by cases e
  | (k, y) :: r, _, x, ⟨v, s, e1, h0, h1, h2⟩, e => by
    rw [e1]
    unfold fget at e
    rw [List.find?_cons] at e
    by_cases q : k = f
    · subst q
      rw [show ((k, y).1 == k) = true by simp] at e
      have e : y = x := Option.some.inj e
      exact ⟨v, by rw [List.lookup_cons, show (g.fld k == g.fld k) = true by simp], e ▸ h1⟩
    · rw [show ((k, y).1 == f) = false by simp [q]] at e
      obtain ⟨w, e2, e3⟩ := RepFs.get hf h2 e
      have ne : ¬ g.fld f = g.fld k := fun z => q (g.fldInj f hf k h0 z).symm
      exact ⟨w, by rw [List.lookup_cons, show (g.fld f == g.fld k) = false by simp [ne]]; exact e2, e3⟩
theorem se_fld (f : Nat) {fx : Str} (k : ClsOk g X.K) (ha : SB g l X W ea a) (hf : f < g.nf := by decide) (hx : g.fld f = fx := by rfl) (hb : attributeBase ea fx X.env (eval ea X.env) = eval ea X.env := by rfl) : SE g l X W (.Attribute ea fx pos) (cFld a f) := by
  subst hx
  refine PE.weak (pe_fld ha hb) fun σ H Q ⟨z, u, fr, e1, e2, e3, e4⟩ => ?_
  rw [← e1]
  refine tE.first e2 e3 e4 fun u1 x v x1 r1 f1 rx h1 => ?_
  cases x with
  | ref id =>
    obtain ⟨q, e5, e6⟩ := rx
    obtain ⟨o, e7, e8, e9⟩ := r1.at e6
    dsimp only at h1
    rw [e7] at h1
    cases o with
    | ins c fs =>
      obtain ⟨dx, fs', e10, e11⟩ := e9
      dsimp only at h1
      cases hg : fget fs f with
      | none => rw [hg] at h1; exact (Run.bad h1).elim
      | some y =>
        rw [hg] at h1
        obtain ⟨w, e12, e13⟩ := RepFs.get hf e11 hg
        exact ⟨q, g.cls c, dx, fs', w, e5, e10, k.cls c, k.no c f hf, e12, Run.here h1 rfl r1 e13⟩
    | _ => exact (Run.bad h1).elim
  | _ => exact (Run.bad h1).elim
end
end Pk

set_option maxRecDepth 100000
/-! Pk8: built-in functions. -/
namespace Pk
open PySem PySem.Spec L2 PyProof.Rows

section
variable {g : Gx} {l : Lx} {X : Cx} {W : WX} {ea eb ec : Expr} {a b c : C} {pos p p2 : Pos} {x : Str}
/-- a built-in of one value -/
theorem se_b1 {id : String} {r : List V → Hp → VK → Prop} {k : Val → Hv → Res Val} (hc : CallR X (.builtin id) r) (hg : Gl X x) (hm : X.mg x = none) (hv : bootBuiltins x = some (.builtin id)) (hn : x ≠ "__name__") (hdb : (x == ("__debug__" : Str)) = false)
    (he : starEach [ea] X.env = (false, eval ea X.env) :: starEach [] X.env) (hpl : (backTo pos (starEach [] X.env)).any (·.1) = false) (ha : SB g l X W ea a)
    (hk : ∀ (σ : L2.St) (u : Vw) (x : Val) (v : V) (Q : VK), HR g l u → RepB l u x v → Run g l W σ (RepV l) Q u (k x u.h) → r [v] u.H Q) : SE g l X W (.Call (.Name x p) [ea] [] pos) (fun fr h => (a fr h).bind k) := by
  refine PE.weak (pe_callB hc hg hm hv (pa_cons ha pa_nil he) hn hdb he hpl) fun σ H Q ⟨z, u, fr, e1, e2, e3, e4⟩ => ?_
  rw [← e1]
  exact tE.first e2 e3 e4 fun u1 x v x1 r1 f1 rx h1 => hk σ u1 x v Q r1 rx h1
theorem se_t1 {id : String} {r : List V → Hp → VK → Prop} {k : Val → Hv → Res Val} (hc : CallR X (.type id) r) (hg : Gl X x) (hm : X.mg x = none) (hv : bootBuiltins x = some (.type id)) (hn : x ≠ "__name__") (hdb : (x == ("__debug__" : Str)) = false)
    (he : starEach [ea] X.env = (false, eval ea X.env) :: starEach [] X.env) (hpl : (backTo pos (starEach [] X.env)).any (·.1) = false) (ha : SB g l X W ea a)
    (hk : ∀ (σ : L2.St) (u : Vw) (x : Val) (v : V) (Q : VK), HR g l u → RepB l u x v → Run g l W σ (RepV l) Q u (k x u.h) → r [v] u.H Q) : SE g l X W (.Call (.Name x p) [ea] [] pos) (fun fr h => (a fr h).bind k) := by
  refine PE.weak (pe_callTy hc hg hm hv (pa_cons ha pa_nil he) hn hdb he hpl) fun σ H Q ⟨z, u, fr, e1, e2, e3, e4⟩ => ?_
  rw [← e1]
  exact tE.first e2 e3 e4 fun u1 x v x1 r1 f1 rx h1 => hk σ u1 x v Q r1 rx h1
/-- .. that makes a container -/
theorem sf_b1 {id : String} {r : List V → Hp → VK → Prop} {k : Val → Hv → Res Cont} (hc : CallR X (.builtin id) r) (hg : Gl X x) (hm : X.mg x = none) (hv : bootBuiltins x = some (.builtin id)) (hn : x ≠ "__name__") (hdb : (x == ("__debug__" : Str)) = false)
    (he : starEach [ea] X.env = (false, eval ea X.env) :: starEach [] X.env) (hpl : (backTo pos (starEach [] X.env)).any (·.1) = false) (ha : SB g l X W ea a)
    (hk : ∀ (σ : L2.St) (u0 u : Vw) (x : Val) (v : V) (Q : VK), Ext u0 u → HR g l u → RepB l u x v → Run g l W σ (RepN l u0) Q u (k x u.h) → r [v] u.H Q) : SF g l X W (.Call (.Name x p) [ea] [] pos) (fun fr h => (a fr h).bind k) := by
  refine PE.weak (pe_callB hc hg hm hv (pa_cons ha pa_nil he) hn hdb he hpl) fun σ H Q ⟨z, u, fr, e1, e2, e3, e4⟩ => ?_
  rw [← e1]
  exact tE.first e2 e3 e4 fun u1 x v x1 r1 f1 rx h1 => hk σ u u1 x v Q x1 r1 rx h1
theorem sf_t1 {id : String} {r : List V → Hp → VK → Prop} {k : Val → Hv → Res Cont} (hc : CallR X (.type id) r) (hg : Gl X x) (hm : X.mg x = none) (hv : bootBuiltins x = some (.type id)) (hn : x ≠ "__name__") (hdb : (x == ("__debug__" : Str)) = false)
    (he : starEach [ea] X.env = (false, eval ea X.env) :: starEach [] X.env) (hpl : (backTo pos (starEach [] X.env)).any (·.1) = false) (ha : SB g l X W ea a)
    (hk : ∀ (σ : L2.St) (u0 u : Vw) (x : Val) (v : V) (Q : VK), Ext u0 u → HR g l u → RepB l u x v → Run g l W σ (RepN l u0) Q u (k x u.h) → r [v] u.H Q) : SF g l X W (.Call (.Name x p) [ea] [] pos) (fun fr h => (a fr h).bind k) := by
  refine PE.weak (pe_callTy hc hg hm hv (pa_cons ha pa_nil he) hn hdb he hpl) fun σ H Q ⟨z, u, fr, e1, e2, e3, e4⟩ => ?_
  rw [← e1]
  exact tE.first e2 e3 e4 fun u1 x v x1 r1 f1 rx h1 => hk σ u u1 x v Q x1 r1 rx h1

/-! ### len -/
def rLenD : List V → Hp → VK → Prop := fun xs H Q => ∃ p, xs = [.ref p] ∧ ((∃ ks : List (Key × V), Rd H p (.dK ks) ∧ Q (.int ks.length) H) ∨ ∃ ks : List (List Key × V), Rd H p (.dT ks) ∧ Q (.int ks.length) H)
theorem call_lenD2 : CallR X (.builtin "len") rLenD := by
  intro pins s σ H xs us Q I r ⟨p, e, h⟩
  subst e
  obtain ⟨w, rfl, rx⟩ := vals1 r
  obtain rfl : w = .ref p := rx
  rcases h with ⟨ks, hp, q⟩ | ⟨ks, hp, q⟩
  · exact d_len I hp fun t s' I' => ⟨.int _, H, I', ⟨t, rfl⟩, q⟩
  · obtain ⟨z, hd, ys, rel, dd⟩ := dt_rd I.hok hp
    have hl : ks.length = ys.length := Paired.length rel
    refine call_len_dictH hd dd (by rw [← hl]; rw [sizeLine_eq] at z; omega) ?_
    rw [← hl]
    exact ⟨.int ((ks.length : Nat) : Int), H, I.tok _, ⟨_, rfl⟩, q⟩
def rLenA (K : PySem.W.Frag) : List V → Hp → VK → Prop := fun xs H Q => (∃ x n, xs = [x] ∧ LenV K x H n ∧ Q (.int n) H) ∨ rLenD xs H Q
theorem se_len (hg : Gl X "len" := by rfl) (hm : X.mg "len" = none) (ha : SB g l X W ea a) (he : starEach [ea] X.env = (false, eval ea X.env) :: starEach [] X.env := by rfl) (hpl : (backTo pos (starEach [] X.env)).any (·.1) = false := by rfl) :
    SE g l X W (.Call (.Name "len" p) [ea] [] pos) (cLen a) := by
  refine se_b1 (r := rLenA X.K) (call_len.or call_lenD2) hg hm boot_len (by decide) (by decide) he hpl ha fun σ u x v Q r rx h => ?_
  cases hl : lenV u.h x with
  | none => rw [hl] at h; exact (Run.bad h).elim
  | some n =>
    rw [hl] at h
    have q : Q (.int n) u.H := Run.here h rfl r rfl
    unfold lenV at hl
    split at hl
    · rename_i xs es
      obtain ⟨q1, vs, e1, e2, e3⟩ := seqOf_rep r rx es
      cases hl
      refine Or.inl ⟨v, _, rfl, ?_, q⟩
      rw [e1]
      exact e2.elim (fun e2 => Or.inl ⟨vs, SqL.of e2, e3.length⟩) fun e2 => Or.inr ⟨vs, SqT.of e2, e3.length⟩
    · split at hl
      · rename_i kvs ek
        cases hl
        obtain ⟨q1, e1, e2⟩ := dctOf_rep r rx ek
        refine Or.inr ⟨q1, by rw [e1], e2.elim (fun ⟨ks, h1, h2⟩ => .inl ⟨ks, h1, by rw [← RepK.length h2]; exact q⟩) fun ⟨ks, h1, h2⟩ => .inr ⟨ks, h1, by rw [← RepT.length h2.2]; exact q⟩⟩
      · split at hl
        · rename_i st _ _
          split at hl
          · rename_i hb
            cases hl
            refine Or.inl ⟨v, _, rfl, ?_, q⟩
            rw [show v = V.str st from rx]
            exact ⟨le_line hb, rfl⟩
          · cases hl
        · cases hl
theorem se_abs (hg : Gl X "abs" := by rfl) (hm : X.mg "abs" = none) (ha : SE g l X W ea a) (he : starEach [ea] X.env = (false, eval ea X.env) :: starEach [] X.env := by rfl) (hpl : (backTo pos (starEach [] X.env)).any (·.1) = false := by rfl) :
    SE g l X W (.Call (.Name "abs" p) [ea] [] pos) (cAbs a) := by
  refine se_b1 call_abs hg hm boot_abs (by decide) (by decide) he hpl ha.b fun σ u x v Q r rx h => ?_
  cases x with
  | int i => exact ⟨i, by rw [show v = V.int i from rx], Run.here h rfl r rfl⟩
  | _ => exact (Run.bad h).elim
theorem se_intc (hg : Gl X "int" := by rfl) (hm : X.mg "int" = none) (ha : SE g l X W ea a) (he : starEach [ea] X.env = (false, eval ea X.env) :: starEach [] X.env := by rfl) (hpl : (backTo pos (starEach [] X.env)).any (·.1) = false := by rfl) :
    SE g l X W (.Call (.Name "int" p) [ea] [] pos) (cInt a) := by
  refine se_t1 call_int1 hg hm PyProof.Rows.boot_int (by decide) (by decide) he hpl ha.b fun σ u x v Q r rx h => ?_
  cases x with
  | int i => exact Or.inl ⟨i, by rw [show v = V.int i from rx], Run.here h rfl r rfl⟩
  | bl k => exact Or.inr ⟨k, by rw [show v = V.bl k from rx], Run.here h rfl r rfl⟩
  | _ => exact (Run.bad h).elim
theorem se_strc (hg : Gl X "str" := by rfl) (hm : X.mg "str" = none) (ha : SE g l X W ea a) (he : starEach [ea] X.env = (false, eval ea X.env) :: starEach [] X.env := by rfl) (hpl : (backTo pos (starEach [] X.env)).any (·.1) = false := by rfl) :
    SE g l X W (.Call (.Name "str" p) [ea] [] pos) (cStr a) := by
  refine se_t1 call_str_int hg hm PyProof.Rows.boot_str (by decide) (by decide) he hpl ha.b fun σ u x v Q r rx h => ?_
  cases x with
  | int i =>
    dsimp only at h
    split at h
    · rename_i hz
      exact ⟨i, by rw [show v = V.int i from rx], hz, Run.here h rfl r rfl⟩
    · exact (Run.bad h).elim
  | _ => exact (Run.bad h).elim
theorem se_tupO (hg : Gl X "tuple" := by rfl) (hm : X.mg "tuple" = none) (ha : SB g l X W ea a) (he : starEach [ea] X.env = (false, eval ea X.env) :: starEach [] X.env := by rfl) (hpl : (backTo pos (starEach [] X.env)).any (·.1) = false := by rfl) :
    SE g l X W (.Call (.Name "tuple" p) [ea] [] pos) (cTupO a) := by
  refine se_t1 call_tuple_of hg hm PyProof.Rows.boot_tuple (by decide) (by decide) he hpl ha fun σ u x v Q r rx h => ?_
  cases hs : seqOf u.h x with
  | none => rw [hs] at h; exact (Run.bad h).elim
  | some xs =>
    rw [hs] at h
    obtain ⟨q, vs, e1, e2, e3⟩ := seqOf_rep r rx hs
    refine ⟨q, vs, by rw [e1], e2.elim (fun e2 => .inl ⟨SqL.of e2, newTup r e3 h⟩) fun e2 => .inr ⟨SqT.of e2, Run.here h rfl r ⟨q, vs, rfl, e2, e3⟩⟩⟩
/-- two values -/
theorem se_b2 {id : String} {r : List V → Hp → VK → Prop} {k : Val → Val → Hv → Res Val} (hc : CallR X (.builtin id) r) (hg : Gl X x) (hm : X.mg x = none) (hv : bootBuiltins x = some (.builtin id)) (hn : x ≠ "__name__") (hdb : (x == ("__debug__" : Str)) = false)
    (he : starEach [ea, eb] X.env = (false, eval ea X.env) :: starEach [eb] X.env) (he2 : starEach [eb] X.env = (false, eval eb X.env) :: starEach [] X.env) (hpl : (backTo pos (starEach [eb] X.env)).any (·.1) = false) (ha : SE g l X W ea a) (hb : SE g l X W eb b)
    (hk : ∀ (σ : L2.St) (u : Vw) (x y : Val) (v w : V) (Q : VK), HR g l u → RepV l u x v → RepV l u y w → Run g l W σ (RepV l) Q u (k x y u.h) → r [v, w] u.H Q) : SE g l X W (.Call (.Name x p) [ea, eb] [] pos) (fun fr h => (a fr h).bind fun x h1 => (b fr h1).bind fun y h2 => k x y h2) := by
  refine PE.weak (pe_callB hc hg hm hv (pa_cons ha (pa_cons hb pa_nil he2) he) hn hdb he hpl) fun σ H Q ⟨z, u, fr, e1, e2, e3, e4⟩ => ?_
  rw [← e1]
  refine tE.first e2 e3 e4 fun u1 x v x1 r1 f1 rx h1 => ?_
  exact tE.first r1 f1 h1 fun u2 y w x2 r2 f2 ry h2 => hk σ u2 x y v w Q r2 (rx.ext x2 r1) ry h2
theorem se_max2 (hc : X.calm = true) (hg : Gl X "max" := by rfl) (hm : X.mg "max" = none) (ha : SE g l X W ea a) (hb : SE g l X W eb b) (he : starEach [ea, eb] X.env = (false, eval ea X.env) :: starEach [eb] X.env := by rfl) (he2 : starEach [eb] X.env = (false, eval eb X.env) :: starEach [] X.env := by rfl) (hpl : (backTo pos (starEach [eb] X.env)).any (·.1) = false := by rfl) :
    SE g l X W (.Call (.Name "max" p) [ea, eb] [] pos) (cMax2 a b) := by
  refine se_b2 (k := fun x y h2 => match x, y with | .int i, .int j => .ok (.int (if j > i then j else i)) h2 | _, _ => .bad) (call_max2 hc) hg hm boot_max (by decide) (by decide) he he2 hpl ha hb fun σ u x y v w Q r rx ry h => ?_
  split at h
  · rename_i i j
    exact ⟨i, j, by rw [show v = V.int i from rx, show w = V.int j from ry], Run.here h rfl r rfl⟩
  · exact (Run.bad h).elim
theorem se_min2 (hc : X.calm = true) (hg : Gl X "min" := by rfl) (hm : X.mg "min" = none) (ha : SE g l X W ea a) (hb : SE g l X W eb b) (he : starEach [ea, eb] X.env = (false, eval ea X.env) :: starEach [eb] X.env := by rfl) (he2 : starEach [eb] X.env = (false, eval eb X.env) :: starEach [] X.env := by rfl) (hpl : (backTo pos (starEach [eb] X.env)).any (·.1) = false := by rfl) :
    SE g l X W (.Call (.Name "min" p) [ea, eb] [] pos) (cMin2 a b) := by
  refine se_b2 (k := fun x y h2 => match x, y with | .int i, .int j => .ok (.int (if j < i then j else i)) h2 | _, _ => .bad) (call_min2 hc) hg hm boot_min (by decide) (by decide) he he2 hpl ha hb fun σ u x y v w Q r rx ry h => ?_
  split at h
  · rename_i i j
    exact ⟨i, j, by rw [show v = V.int i from rx, show w = V.int j from ry], Run.here h rfl r rfl⟩
  · exact (Run.bad h).elim
theorem ints_rep {u : Vw} : ∀ {xs : List Val} {vs : List V} {ns : List Int}, intsOf xs = some ns → RepVs l u xs vs → vs = ns.map V.int
  | [], _, _, e, h => by cases e; exact h
  | x :: xs, _, ns, e, ⟨v, r, e1, h1, h2⟩ => by
    cases x with
    | int i =>
      unfold intsOf at e
      cases hi : intsOf xs with
      | none => rw [hi] at e; cases e
      | some ms =>
        rw [hi] at e
        cases e
        rw [e1, ints_rep hi h2, show v = V.int i from h1]; rfl
    | _ => cases e
theorem se_sumO (hc : X.calm = true) (hg : Gl X "sum" := by rfl) (hm : X.mg "sum" = none) (ha : SB g l X W ea a) (he : starEach [ea] X.env = (false, eval ea X.env) :: starEach [] X.env := by rfl) (hpl : (backTo pos (starEach [] X.env)).any (·.1) = false := by rfl) :
    SE g l X W (.Call (.Name "sum" p) [ea] [] pos) (cSumO a) := by
  refine se_b1 (cr_sum hc) hg hm boot_sum (by decide) (by decide) he hpl ha fun σ u x v Q r rx h => ?_
  cases hs : lstOf u.h x with
  | none => rw [hs] at h; exact (Run.bad h).elim
  | some xs =>
    rw [hs] at h
    obtain ⟨q, vs, e1, e2, e3⟩ := lstOf_rep r rx hs
    cases hi : intsOf xs with
    | none => dsimp only at h; rw [hi] at h; exact (Run.bad h).elim
    | some ns =>
      dsimp only at h
      rw [hi] at h
      exact ⟨q, ns, by rw [e1], SqL.of (by rw [e2, ints_rep hi e3]), Run.here h rfl r rfl⟩
end
end Pk

set_option maxRecDepth 100000
/-! Pk8s: sorted. -/
namespace Pk
open PySem PySem.Spec L2 PyProof.Rows PySem.W

section
variable {α : Type}
def insG (le : α → α → Bool) (x : α) : List α → List α
  | [] => [x]
  | y :: r => if le y x then y :: insG le x r else x :: y :: r
def sortG (le : α → α → Bool) : List α → List α → List α
  | acc, [] => acc
  | acc, x :: r => sortG le (insG le x acc) r
variable {le : α → α → Bool}
theorem mem_insG {x z : α} : ∀ {l : List α}, z ∈ insG le x l → z = x ∨ z ∈ l
  | [], h => by simpa [insG] using h
  | y :: r, h => by
    unfold insG at h
    split at h
    · rcases List.mem_cons.mp h with h | h
      · exact .inr (h ▸ List.mem_cons_self)
      · exact (mem_insG h).imp id (List.mem_cons_of_mem _)
    · exact List.mem_cons.mp h
theorem ins_pair (T : TotalLe le) (x : α) : ∀ {l : List α}, l.Pairwise (fun a b => le a b = true) → (insG le x l).Pairwise (fun a b => le a b = true)
  | [], _ => by simp [insG]
  | y :: r, h => by
    have h1 := List.pairwise_cons.mp h
    unfold insG
    split
    · rename_i c
      refine List.pairwise_cons.mpr ⟨fun z hz => ?_, ins_pair T x h1.2⟩
      rcases mem_insG hz with e | e
      · exact e ▸ c
      · exact h1.1 z e
    · rename_i c
      have c' : le x y = true := (T.total x y).elim id fun z => absurd z c
      refine List.pairwise_cons.mpr ⟨fun z hz => ?_, h⟩
      rcases List.mem_cons.mp hz with e | e
      · exact e ▸ c'
      · exact T.trans _ _ _ c' (h1.1 z e)
theorem ins_filter (T : TotalLe le) (x c : α) : ∀ {l : List α}, l.Pairwise (fun a b => le a b = true) → (insG le x l).filter (sameRank le c) = l.filter (sameRank le c) ++ [x].filter (sameRank le c)
  | [], _ => by simp [insG]
  | y :: r, h => by
    have h1 := List.pairwise_cons.mp h
    unfold insG
    split
    · rename_i q
      rw [List.filter_cons, List.filter_cons, ins_filter T x c h1.2]
      split <;> rfl
    · rename_i q
      cases hx : sameRank le c x with
      | false =>
        have hx' : ¬ sameRank le c x = true := by rw [hx]; decide
        rw [List.filter_cons_of_neg hx', List.filter_cons_of_neg (l := []) hx', List.filter_nil, List.append_nil]
      | true =>
        have none : ∀ z ∈ y :: r, ¬ sameRank le c z = true := fun z hz hs => by
          unfold sameRank at hs hx
          rw [Bool.and_eq_true] at hs hx
          have yz : le y z = true := by
            rcases List.mem_cons.mp hz with e | e
            · exact e ▸ T.refl y
            · exact h1.1 z e
          exact q (T.trans _ _ _ yz (T.trans _ _ _ (by first | exact hs.2 | exact hs.1) (by first | exact hx.1 | exact hx.2)))
        rw [List.filter_cons_of_pos hx, List.filter_cons_of_pos (l := []) hx, List.filter_eq_nil_iff.mpr none]
        rfl
theorem sortG_pair (T : TotalLe le) : ∀ {l acc : List α}, acc.Pairwise (fun a b => le a b = true) → (sortG le acc l).Pairwise (fun a b => le a b = true)
  | [], _, h => h
  | x :: r, _, h => sortG_pair T (l := r) (ins_pair T x h)
theorem sortG_filter (T : TotalLe le) (c : α) : ∀ {l acc : List α}, acc.Pairwise (fun a b => le a b = true) → (sortG le acc l).filter (sameRank le c) = acc.filter (sameRank le c) ++ l.filter (sameRank le c)
  | [], _, h => by simp [sortG]
  | x :: r, acc, h => by
    show (sortG le (insG le x acc) r).filter _ = _
    rw [sortG_filter T c (l := r) (ins_pair T x h), ins_filter T x c h, List.append_assoc, ← List.filter_append]
    rfl
theorem sortG_eq (T : TotalLe le) (l : List α) : sortG le [] l = l.mergeSort le :=
  sort_unique T (sortG_pair T List.Pairwise.nil) fun c => by rw [sortG_filter T c List.Pairwise.nil]; simp
end
theorem insV_eq (x : Val) : ∀ {l : List Val}, (∀ y ∈ l, x.lt y = !dataLe false toD y x) → insV x l = insG (dataLe false toD) x l
  | [], _ => rfl
  | y :: r, h => by
    unfold insV insG
    rw [h y List.mem_cons_self, insV_eq x fun z hz => h z (List.mem_cons_of_mem _ hz)]
    cases dataLe false toD y x <;> rfl
theorem sortV_eq : ∀ {l acc : List Val}, (∀ x ∈ acc ++ l, ∀ y ∈ acc ++ l, x.lt y = !dataLe false toD y x) → sortV acc l = sortG (dataLe false toD) acc l
  | [], _, _ => rfl
  | x :: r, acc, h => by
    show sortV (insV x acc) r = sortG _ (insG _ x acc) r
    rw [insV_eq x fun y hy => h x (by simp) y (List.mem_append_left _ hy)]
    refine sortV_eq fun p hp q hq => h p ?_ q ?_
    · rcases List.mem_append.mp hp with e | e
      · rcases mem_insG e with e | e
        · rw [e]; simp
        · exact List.mem_append_left _ e
      · exact List.mem_append_right _ (List.mem_cons_of_mem _ e)
    · rcases List.mem_append.mp hq with e | e
      · rcases mem_insG e with e | e
        · rw [e]; simp
        · exact List.mem_append_left _ e
      · exact List.mem_append_right _ (List.mem_cons_of_mem _ e)
theorem sortOk_at {xs : List Val} (h : sortOk xs = true) {x y : Val} (hx : x ∈ xs) (hy : y ∈ xs) : x.data = true ∧ y.data = true ∧ x.alike y = true ∧ x.dep ≤ 40 ∧ x.full = true := by
  have := List.all_eq_true.mp (List.all_eq_true.mp h x hx) y hy
  unfold pairOk at this
  simp only [Bool.and_eq_true, decide_eq_true_eq] at this
  exact ⟨this.1.1.1.1, this.1.1.1.2, this.1.1.2, this.1.2, this.2⟩
theorem sorted_eq {xs ys : List Val} (h : Pk.sorted xs = some ys) : sortOk xs = true ∧ xs.length ≤ big ∧ ys = xs.mergeSort (dataLe false toD) := by
  unfold Pk.sorted at h
  split at h
  · rename_i q
    refine ⟨q.1, q.2, ?_⟩
    rw [← Option.some.inj h, ← sortG_eq (le := dataLe false toD) (sortLe_total _ _ _), sortV_eq]
    · intro x hx y hy
      obtain ⟨h1, h2, h3, _⟩ := sortOk_at q.1 (by simpa using hx) (by simpa using hy)
      rw [dataLe_eq]
      show x.lt y = !(!dataLt (toD x) (toD y))
      rw [Bool.not_not, toD_lt x y h1 h2 h3]
  · cases h
section
variable {g : Gx} {l : Lx} {X : Cx} {W : WX} {ea eb ec : Expr} {a b c : C} {pos p p2 : Pos} {x : Str}
theorem each_zip {K : PySem.W.Frag} {u : Vw} {s : Shared} {pins : List (Addr × Obj)} {σ : L2.St} (I : Inv X pins σ u.H s) : ∀ {xs : List Val} {vs : List V} {us : List Value}, RepVs l u xs vs → Vals vs us → datas xs = true →
    EachIs (fun (v : Value) (b : Val × V) => RelV b.2 v) us (xs.zip vs) ∧ EachIs (fun (v : Value) (b : Val × V) => ∃ as, Reads s.heap v (toD b.1) as) us (xs.zip vs)
  | [], _, _, h, r, _ => by
    rw [show _ = [] from h] at r ⊢
    cases r
    exact ⟨.nil, .nil⟩
  | x :: xs, _, _, ⟨v, vs, e, h1, h2⟩, r, d => by
    subst e
    cases r with
    | cons r1 r2 =>
      have d : (x.data && datas xs) = true := d
      rw [Bool.and_eq_true] at d
      obtain ⟨q1, q2⟩ := each_zip (K := K) I h2 r2 d.2
      exact ⟨.cons r1 q1, .cons (Dp.reads I (toD x) v _ (RepV.dp x v h1 d.1) r1) q2⟩
theorem zip_fst : ∀ {xs : List Val} {vs : List V}, xs.length = vs.length → (xs.zip vs).map (·.1) = xs
  | [], [], _ => rfl
  | x :: xs, v :: vs, h => by rw [List.zip_cons_cons, List.map_cons, zip_fst (by simpa using h)]
  | [], _ :: _, h => by simp at h
  | _ :: _, [], h => by simp at h
theorem RepVs.zip_mem {u : Vw} : ∀ {xs : List Val} {vs : List V}, RepVs l u xs vs → ∀ p ∈ xs.zip vs, RepV l u p.1 p.2
  | [], _, _, p, hp => by simp at hp
  | x :: xs, _, ⟨v, vs, e, h1, h2⟩, p, hp => by
    subst e
    rw [List.zip_cons_cons] at hp
    rcases List.mem_cons.mp hp with e | e
    · rw [e]; exact h1
    · exact RepVs.zip_mem h2 p e
theorem RepVs.of_pairs {u : Vw} : ∀ {bs : List (Val × V)}, (∀ p ∈ bs, RepV l u p.1 p.2) → RepVs l u (bs.map (·.1)) (bs.map (·.2))
  | [], _ => rfl
  | p :: bs, h => ⟨p.2, bs.map (·.2), rfl, h p List.mem_cons_self, RepVs.of_pairs fun q hq => h q (List.mem_cons_of_mem _ hq)⟩
theorem vals_each : ∀ {bs : List (Val × V)} {us : List Value}, EachIs (fun (v : Value) (b : Val × V) => RelV b.2 v) us bs → Vals (bs.map (·.2)) us
  | _, _, .nil => .nil
  | _, _, .cons h r => .cons h (vals_each r)
theorem datas_all {xs : List Val} (h : ∀ x ∈ xs, x.data = true) : datas xs = true := by
  induction xs with
  | nil => rfl
  | cons x r ih =>
    show (x.data && datas r) = true
    rw [h x List.mem_cons_self, ih fun y hy => h y (List.mem_cons_of_mem _ hy)]; rfl
theorem alike_tup {x : Val} {ys : List Val} (h : x.alike (.tup ys) = true) : ∃ zs, x = .tup zs := by
  cases x <;> first | exact ⟨_, rfl⟩ | exact Bool.noConfusion h
def rSortV (g : Gx) (l : Lx) : List V → Hp → VK → Prop := fun vs H Q => ∃ (u : Vw) (a : Addr) (xs ys : List Val) (ws : List V), vs = [.ref a] ∧ u.H = H ∧ H a = some (.lst ws) ∧ RepVs l u xs ws ∧ Pk.sorted xs = some ys ∧
  ∀ (zs : List V) (p : Addr), RepVs l u ys zs → H p = none → Q (.ref p) (upd H p (.lst zs))
theorem cr_sortV (hu : X.A.units + 65 < cLine) : CallR X (.builtin "sorted") (rSortV g l) := by
  intro pins s σ H vs us Q I r ⟨u, a, xs, ys, ws, e1, e2, e3, e4, e5, q⟩
  subst e1 e2
  obtain ⟨w, rfl, rx⟩ := vals1 r
  obtain rfl : w = .ref a := rx
  obtain ⟨its, rv, pl, hz⟩ := I.list (SqL.of (K := X.K) e3)
  obtain ⟨ok, hb, ey⟩ := sorted_eq e5
  have dt : ∀ x ∈ xs, x.data = true := fun x hx => (sortOk_at ok hx hx).1
  obtain ⟨q1, q2⟩ := each_zip (K := X.K) I e4 rv (datas_all dt)
  have fst : ∀ b ∈ xs.zip ws, b.1 ∈ xs := fun b hb => (List.of_mem_zip (show (b.1, b.2) ∈ xs.zip ws from hb)).1
  refine sorted_data (enc := fun b : Val × V => toD b.1) pl.isList q1 q2 ?_ ?_ ?_ (fun b hb => ?_) fun out ho eo => ?_
  · intro d hd d' hd'
    obtain ⟨b, m1, rfl⟩ := List.mem_map.mp hd
    obtain ⟨b', m2, rfl⟩ := List.mem_map.mp hd'
    exact toD_alike _ _ (sortOk_at ok (fst b m1) (fst b' m2)).2.2.1
  · by_cases ht : ∃ zs, Val.tup zs ∈ xs
    · refine Or.inl fun d hd => ?_
      obtain ⟨b, m1, rfl⟩ := List.mem_map.mp hd
      obtain ⟨zs, hz⟩ := ht
      obtain ⟨_, _, al, _, fl⟩ := sortOk_at ok (fst b m1) hz
      obtain ⟨ts, et⟩ := alike_tup al
      rw [et] at fl ⊢
      cases ts with
      | nil => exact Bool.noConfusion fl
      | cons t r => exact ⟨toD t, toDs r, rfl⟩
    · refine Or.inr fun d hd => ?_
      obtain ⟨b, m1, rfl⟩ := List.mem_map.mp hd
      refine ⟨alike_nn (sortOk_at ok (fst b m1) (fst b m1)).2.2.1, fun zs hz => ?_⟩
      obtain ⟨b1, b2⟩ := b
      have m1 := fst _ m1
      have hz : toD b1 = .tuple zs := hz
      have m1 : b1 ∈ xs := m1
      cases b1 with
      | tup ts => exact ht ⟨ts, m1⟩
      | _ => cases hz
  · rw [List.length_zip, e4.length, Nat.min_self]; exact hz
  · rw [toD_dep]
    have := (sortOk_at ok (fst b hb) (fst b hb)).2.2.2.1
    omega
  · have hl : ys.length = xs.length := by rw [ey, List.length_mergeSort]
    obtain ⟨c, he'⟩ := sortedAll_at s.heap its (List.toArray out)
    have hm : ((xs.zip ws).mergeSort (dataLe false fun b : Val × V => toD b.1)).map (·.1) = ys := by
      rw [ey, ← zip_fst e4.length, zip_fst e4.length]
      have := sort_maps (r := dataLe false fun b : Val × V => toD b.1) (s := dataLe false toD) (fun b : Val × V => b.1) (l := xs.zip ws) fun _ _ _ _ => rfl
      rw [this, zip_fst e4.length]
    have rep : RepVs l u ys (((xs.zip ws).mergeSort (dataLe false fun b : Val × V => toD b.1)).map (·.2)) := by
      rw [← hm]
      exact RepVs.of_pairs fun p hp => RepVs.zip_mem e4 p ((List.mem_mergeSort).mp hp)
    refine ⟨.ref (s.heap.objs.size + 1), upd u.H (s.heap.objs.size + 1) (.lst (((xs.zip ws).mergeSort (dataLe false fun b : Val × V => toD b.1)).map (·.2))), I.laid (t' := s.toks) (fun _ _ => sortedAll_old) (Nat.le_succ _) ⟨?_, out, c, vals_each eo, he'⟩, rfl, q _ _ rep (I.hok.fresh (Nat.le_succ _))⟩
    rw [← rep.length, hl]
    exact le_line hb
theorem newN_lst {u0 u : Vw} {W : WX} {σ : L2.St} {Q : VK} {xs : List Val} {vs : List V} (e : Ext u0 u) (r : HR g l u) (rx : RepVs l u xs vs) (h : Run g l W σ (RepN l u0) Q u (.ok (.l xs) u.h)) : ∀ p, u.H p = none → Q (.ref p) (upd u.H p (.lst vs)) := fun p hp => by
  obtain ⟨r2, x2, n2⟩ := repN_new (o := .lst vs) (c := .l xs) r hp fun u' x e' => ⟨vs, e', rx.ext x r⟩
  exact h.at_ x2 rfl r2 (n2.back e)
theorem sf_sortO (hu : X.A.units + 65 < cLine) (hg : Gl X "sorted" := by rfl) (hm : X.mg "sorted" = none) (ha : SB g l X W ea a) (he : starEach [ea] X.env = (false, eval ea X.env) :: starEach [] X.env := by rfl) (hpl : (backTo pos (starEach [] X.env)).any (·.1) = false := by rfl) :
    SF g l X W (.Call (.Name "sorted" p) [ea] [] pos) (fSortO a) := by
  refine sf_b1 (cr_sortV (g := g) (l := l) hu) hg hm boot_sorted (by decide) (by decide) he hpl ha fun σ u0 u x v Q x0 r rx h => ?_
  cases hs : lstOf u.h x with
  | none => rw [hs] at h; exact (Run.bad h).elim
  | some xs =>
    rw [hs] at h
    obtain ⟨q, vs, e1, e2, e3⟩ := lstOf_rep r rx hs
    cases hi : Pk.sorted xs with
    | none => dsimp only at h; rw [hi] at h; exact (Run.bad h).elim
    | some ys =>
      dsimp only at h
      rw [hi] at h
      exact ⟨u, q, xs, ys, vs, by rw [e1], rfl, e2, e3, hi, fun zs p rz hp => newN_lst x0 r rz h p hp⟩
end
end Pk

set_option maxRecDepth 100000
/-! Pk9: statements: what changes. -/
namespace Pk
open PySem L2

section
variable {g : Gx} {l : Lx} {u u' : Vw}
/-- one object that may change is another one now -/
theorem Sub.upd {a : Addr} {o o' : HO} {h' : Hv} (e : u.H a = some o) (m : isMut o) (f : ¬ u.F a) : Sub u ⟨u.ρ, u.F, upd u.H a o', h'⟩ where
  ρm := fun _ _ h => h
  Fm := fun _ h => h
  tup := fun b vs h => (upd_ne (fun z => by rw [z, e] at h; cases h; exact m)).trans h
  ext := fun b φ h => (upd_ne (fun z => by rw [z, e] at h; cases h; exact m)).trans h
  lst := fun b vs hf h => (upd_ne (fun (z : b = a) => f (z ▸ hf))).trans h
  dK := fun b ks hf ⟨o, h⟩ => ⟨o, (upd_ne (fun (z : b = a) => f (z ▸ hf))).trans h⟩
  dT := fun b ks hf ⟨o, h⟩ => ⟨o, (upd_ne (fun (z : b = a) => f (z ▸ hf))).trans h⟩
theorem tabs_upd {ts : List (Addr × Str)} {H : Hp} {a : Addr} {o o' : HO} (t : LamX.Tabs ts H) (e : H a = some o) (m : isMut o) : LamX.Tabs ts (upd H a o') := by
  intro x hx
  obtain ⟨ps, h1, h2, h3⟩ := t x hx
  refine ⟨ps, ?_, h2, fun pos cv hc => ?_⟩
  · rw [upd_ne (fun z => by rw [z, e] at h1; cases h1; exact m)]
    exact h1
  · obtain ⟨c, e1, e2⟩ := h3 pos cv hc
    refine ⟨c, e1, ?_⟩
    rw [upd_ne (fun z => by rw [z, e] at e2; cases e2; exact m)]
    exact e2
theorem gone_upd {H : Hp} {a b : Addr} {o o' : HO} (e : H a = some o) (m : isMut o) (h : gone (upd H a o') b) (m' : isMut o' := by assumption) : gone H b := by
  by_cases q : b = a
  · subst q
    obtain ⟨ps, z⟩ := h o' upd_same
    rw [z] at m'
    exact m'.elim
  · exact fun x hx => h x ((upd_ne q).trans hx)
theorem mut_tbl {o : HO} (m : isMut o) : ∀ ps, o ≠ .tbl ps := (isMut_cases m).2.2
/-- the numbered object id is written -/
theorem HR.put {id : Nat} {a : Addr} {ob ob' : Ob} {o o' : HO} (r : HR g l u) (hn : u.ρ id = some a) (hi : u.h[id]? = some ob) (hl : ¬ ob.locked) (e : u.H a = some o) (m : isMut o)
    (hb : ∀ w : Vw, Sub u w → w.H a = some o' → ObR g l w a ob') (m' : isMut o' := by trivial) : HR g l ⟨u.ρ, u.F, upd u.H a o', u.h.set id ob'⟩ ∧ Ext u ⟨u.ρ, u.F, upd u.H a o', u.h.set id ob'⟩ := by
  obtain ⟨_, _, nf, _⟩ := r.at hn
  have s : Sub u ⟨u.ρ, u.F, upd u.H a o', u.h.set id ob'⟩ := Sub.upd e m nf
  refine ⟨⟨fun j b h => by rw [List.length_set]; exact r.dom j b h, r.inj, fun j x h => ?_, fun b h => ?_, tabs_upd r.tab e m⟩, ⟨fun _ _ h => h, fun _ _ h => .inl h, fun _ h => h, fun _ h => .inl h, fun b x h n _ => (upd_ne (fun (z : b = a) => n id (z ▸ hn))).trans h, fun b h => ?_, fun j x b h k q => ?_, by rw [List.length_set]; exact Nat.le_refl _⟩⟩
  · by_cases q : j = id
    · subst q
      have hlt := (List.getElem?_eq_some_iff.mp hi).1
      rw [List.getElem?_set_self hlt] at h
      cases h
      exact ⟨a, hn, nf, hb _ s upd_same⟩
    · rw [List.getElem?_set_ne (Ne.symm q)] at h
      obtain ⟨b, h1, h2, h3⟩ := r.ob j x h
      exact ⟨b, h1, h2, h3.same s (upd_ne (fun (z : b = a) => q (r.inj j id b h1 (z ▸ hn))))⟩
  · obtain ⟨x, h1, h2⟩ := r.frz b h
    exact ⟨x, (upd_ne (fun (z : b = a) => nf (z ▸ h))).trans h1, h2⟩
  · exact gone_upd e m h
  · have nj : j ≠ id := fun z => by
      subst z
      rw [hi] at h
      cases h
      exact hl k
    exact ⟨(List.getElem?_set_ne (Ne.symm nj)).trans h, upd_ne (fun (z : b = a) => nj (r.inj j id b q (z ▸ hn)))⟩
/-- an own container is written -/
theorem HR.own {a : Addr} {o o' : HO} {z : Hp} (r : HR g l u) (nn : ∀ id, u.ρ id ≠ some a) (nf : ¬ u.F a) (nz : gone z a) (e : u.H a = some o) (m : isMut o) (op : isOpen o) (m' : isMut o') :
    HR g l ⟨u.ρ, u.F, upd u.H a o', u.h⟩ ∧ ExS z u ⟨u.ρ, u.F, upd u.H a o', u.h⟩ := by
  have s : Sub u ⟨u.ρ, u.F, upd u.H a o', u.h⟩ := Sub.upd e m nf
  refine ⟨⟨r.dom, r.inj, fun j x h => ?_, fun b h => ?_, tabs_upd r.tab e m⟩, ⟨fun _ _ h => h, fun _ _ h => .inl h, fun _ h => h, fun _ h => .inl h, fun b x h n _ c => (upd_ne (fun z => ?_)).trans h, fun b h => ?_, fun j x b h k q => ⟨h, upd_ne (fun (z : b = a) => nn j (z ▸ q))⟩, Nat.le_refl _⟩⟩
  · obtain ⟨b, h1, h2, h3⟩ := r.ob j x h
    exact ⟨b, h1, h2, h3.same s (upd_ne (fun (z : b = a) => nn j (z ▸ h1)))⟩
  · obtain ⟨x, h1, h2⟩ := r.frz b h
    exact ⟨x, (upd_ne (fun (z : b = a) => nf (z ▸ h))).trans h1, h2⟩
  · subst z
    rw [e] at h
    cases h
    rcases c with c | c | c
    · exact c nz
    · exact nf c
    · exact c op
  · exact gone_upd e m h

/-! ### the frame -/
theorem SlR.sub {s : Sl} {v : Option V} (sb : Sub u u') (h : SlR l u s v) (hs : s.isAc → ∀ a, v = some (.ref a) → u'.H a = u.H a ∧ (u'.F a → u.F a) ∧ ∀ id, u'.ρ id = some a → u.ρ id = some a) : SlR l u' s v := by
  cases s with
  | no => trivial
  | val x => obtain ⟨y, q1, q2⟩ := h; exact ⟨y, q1, RepV.sub sb _ _ q2⟩
  | acl k xs =>
    obtain ⟨a, vs, q1, q2, q3, q4, q5⟩ := h
    obtain ⟨e1, e2, e3⟩ := hs trivial a q1
    exact ⟨a, vs, q1, e1.trans q2, RepVs.sub sb _ _ q3, fun z => q4 (e2 z), fun id z => q5 id (e3 id z)⟩
  | acd k kvs =>
    cases k with
    | zero =>
      obtain ⟨a, q1, q2, q4, q5⟩ := h
      obtain ⟨e1, e2, e3⟩ := hs trivial a q1
      exact ⟨a, q1, q2.elim (fun ⟨ks, h1, h2⟩ => .inl ⟨ks, e1.trans h1, RepK.sub sb _ _ h2⟩) (fun ⟨ks, h1, h2⟩ => .inr ⟨ks, e1.trans h1, RepT1.sub sb _ _ h2⟩), fun z => q4 (e2 z), fun id z => q5 id (e3 id z)⟩
    | succ k =>
      obtain ⟨a, q1, q2, q4, q5⟩ := h
      obtain ⟨e1, e2, e3⟩ := hs trivial a q1
      exact ⟨a, q1, q2.elim (fun ⟨o, ks, h1, h2⟩ => .inl ⟨o, ks, e1.trans h1, RepK.sub sb _ _ h2⟩) (fun ⟨o, ks, h1, h2⟩ => .inr ⟨o, ks, e1.trans h1, RepT1.sub sb _ _ h2⟩), fun z => q4 (e2 z), fun id z => q5 id (e3 id z)⟩
theorem SlR.alive {s : Sl} {a : Addr} (h : SlR l u s (some (.ref a))) (k : s.isAc) : ¬ gone u.H a := by
  cases s with
  | no => exact k.elim
  | val x => exact k.elim
  | acl j xs => obtain ⟨b, vs, q1, q2, _⟩ := h; cases q1; exact not_gone q2
  | acd j kvs =>
    cases j with
    | zero =>
      obtain ⟨b, q1, q2, _⟩ := h
      cases q1
      rcases q2 with ⟨_, q, _⟩ | ⟨_, q, _⟩ <;> exact not_gone q
    | succ j =>
      obtain ⟨b, q1, q2, _⟩ := h
      cases q1
      rcases q2 with ⟨_, _, q, _⟩ | ⟨_, _, q, _⟩ <;> exact not_gone q
theorem SlR.ref {s : Sl} {v : Option V} (h : SlR l u s v) (k : s.isAc) : ∃ a, v = some (.ref a) := by
  cases s with
  | no => exact k.elim
  | val x => exact k.elim
  | acl j xs => obtain ⟨b, vs, q1, _⟩ := h; exact ⟨b, q1⟩
  | acd j kvs =>
    cases j with
    | zero => obtain ⟨b, q1, _⟩ := h; exact ⟨b, q1⟩
    | succ j => obtain ⟨b, q1, _⟩ := h; exact ⟨b, q1⟩
/-- a slot is set to a value -/
theorem FR.setV {z : Hp} {fr : Fr} {σ : St} {i : Nat} {x : Val} {v : V} (f : FR l z u fr σ) (rx : RepV l u x v) : FR l z u (fr.set i (.val x)) (σ.set i (some v)) where
  live := f.live
  len := by rw [List.length_set, List.length_set]; exact f.len
  own := fun j s a h1 k h2 => by
    by_cases q : i = j
    · subst q
      by_cases hl : i < fr.length
      · rw [List.getElem?_set_self hl] at h1; cases h1; exact k.elim
      · rw [List.getElem?_eq_none (by rw [List.length_set]; omega)] at h1; cases h1
    · rw [List.getElem?_set_ne q] at h1 h2
      exact f.own j s a h1 k h2
  sl := fun j s w h1 h2 => by
    by_cases q : i = j
    · subst q
      by_cases hl : i < fr.length
      · rw [List.getElem?_set_self hl] at h1
        rw [List.getElem?_set_self (by rw [← f.len]; exact hl)] at h2
        cases h1; cases h2
        exact ⟨v, rfl, rx⟩
      · rw [List.getElem?_eq_none (by rw [List.length_set]; omega)] at h1; cases h1
    · rw [List.getElem?_set_ne q] at h1 h2
      exact f.sl j s w h1 h2
  apart := fun j k s t w h1 h2 k1 k2 h3 h4 => by
    have out : ∀ {m : Nat} {s : Sl}, (fr.set i (.val x))[m]? = some s → s.isAc → i ≠ m := fun {m s} h k q => by
      subst q
      by_cases hl : i < fr.length
      · rw [List.getElem?_set_self hl] at h; cases h; exact k
      · rw [List.getElem?_eq_none (by rw [List.length_set]; omega)] at h; cases h
    have n1 := out h1 k1
    have n2 := out h2 k2
    rw [List.getElem?_set_ne n1] at h1 h3
    rw [List.getElem?_set_ne n2] at h2 h4
    exact f.apart j k s t w h1 h2 k1 k2 h3 h4
/-- a slot gets an own container -/
theorem FR.setO {z : Hp} {fr : Fr} {σ : St} {i : Nat} {s0 : Sl} {a : Addr} (f : FR l z u fr σ) (k0 : s0.isAc) (r0 : SlR l u s0 (some (.ref a))) (hz : gone z a) (hd : ∀ (j : Nat) s, j ≠ i → fr[j]? = some s → s.isAc → σ[j]? ≠ some (some (.ref a))) :
    FR l z u (fr.set i s0) (σ.set i (some (.ref a))) where
  live := f.live
  len := by rw [List.length_set, List.length_set]; exact f.len
  own := fun j s b h1 k h2 => by
    by_cases q : i = j
    · subst q
      by_cases hl : i < σ.length
      · rw [List.getElem?_set_self hl] at h2; cases h2; exact hz
      · rw [List.getElem?_eq_none (by rw [List.length_set]; omega)] at h2; cases h2
    · rw [List.getElem?_set_ne q] at h1 h2
      exact f.own j s b h1 k h2
  sl := fun j s w h1 h2 => by
    by_cases q : i = j
    · subst q
      by_cases hl : i < fr.length
      · rw [List.getElem?_set_self hl] at h1
        rw [List.getElem?_set_self (by rw [← f.len]; exact hl)] at h2
        cases h1; cases h2
        exact r0
      · rw [List.getElem?_eq_none (by rw [List.length_set]; omega)] at h1; cases h1
    · rw [List.getElem?_set_ne q] at h1 h2
      exact f.sl j s w h1 h2
  apart := fun j k s t w h1 h2 k1 k2 h3 h4 => by
    by_cases q1 : i = j <;> by_cases q2 : i = k
    · rw [← q1, ← q2]
    · subst q1
      rw [List.getElem?_set_ne q2] at h2 h4
      by_cases hl : i < σ.length
      · rw [List.getElem?_set_self hl] at h3
        cases h3
        exact absurd h4 (hd k t (Ne.symm q2) h2 k2)
      · rw [List.getElem?_eq_none (by rw [List.length_set]; omega)] at h3; cases h3
    · subst q2
      rw [List.getElem?_set_ne q1] at h1 h3
      by_cases hl : i < σ.length
      · rw [List.getElem?_set_self hl] at h4
        cases h4
        exact absurd h3 (hd j s (Ne.symm q1) h1 k1)
      · rw [List.getElem?_eq_none (by rw [List.length_set]; omega)] at h4; cases h4
    · rw [List.getElem?_set_ne q1] at h1 h3
      rw [List.getElem?_set_ne q2] at h2 h4
      exact f.apart j k s t w h1 h2 k1 k2 h3 h4
/-- the own container of slot j is written (the names stay) -/
theorem FR.wrote {z : Hp} {fr : Fr} {σ : St} {j : Nat} {s0 s1 : Sl} {a : Addr} {o o' : HO} (r : HR g l u) (f : FR l z u fr σ) (h0 : fr[j]? = some s0) (k0 : s0.isAc) (k1 : s1.isAc) (hv : σ[j]? = some (some (.ref a))) (e : u.H a = some o) (m : isMut o) (m' : isMut o') (nf : ¬ u.F a)
    (hs : SlR l ⟨u.ρ, u.F, upd u.H a o', u.h⟩ s1 (some (.ref a))) : FR l z ⟨u.ρ, u.F, upd u.H a o', u.h⟩ (fr.set j s1) σ := by
  have sb : Sub u ⟨u.ρ, u.F, upd u.H a o', u.h⟩ := Sub.upd e m nf
  have hl : j < fr.length := (List.getElem?_eq_some_iff.mp h0).1
  have old : ∀ {i : Nat} {s : Sl}, (fr.set j s1)[i]? = some s → s.isAc → ∃ s', fr[i]? = some s' ∧ s'.isAc := fun {i s} h k => by
    by_cases q : j = i
    · subst q; exact ⟨s0, h0, k0⟩
    · rw [List.getElem?_set_ne q] at h; exact ⟨s, h, k⟩
  refine ⟨fun b h => f.live b ?_, by rw [List.length_set]; exact f.len, fun i s b h1 k h2 => ?_, fun i s v h1 h2 => ?_, fun i k s t v h1 h2 q1 q2 h3 h4 => ?_⟩
  · exact gone_upd e m h
  · obtain ⟨s', e1, e2⟩ := old h1 k
    exact f.own i s' b e1 e2 h2
  · by_cases q : j = i
    · subst q
      rw [List.getElem?_set_self hl] at h1
      rw [hv] at h2
      cases h1; cases h2
      exact hs
    · rw [List.getElem?_set_ne q] at h1
      refine (f.sl i s v h1 h2).sub sb fun k b eb => ⟨upd_ne fun z => q ?_, id, fun _ => id⟩
      subst z eb
      exact f.apart j i s0 s _ h0 h1 k0 k hv h2
  · obtain ⟨s', e1, e2⟩ := old h1 q1
    obtain ⟨t', e3, e4⟩ := old h2 q2
    exact f.apart i k s' t' v e1 e3 e2 e4 h3 h4
end
end Pk

set_option maxRecDepth 100000
/-! Pk10: rules for statements. -/
namespace Pk
open PySem L2

section
variable (g : Gx) (l : Lx)
/-- what is wanted of a statement's end -/
def RunS (W : WX) (z : Hp) (D : Ends) (u : Vw) (r : Res Out) : Prop := match r with
  | .ok (.nx f2) h => ∀ u' σ', u'.h = h → ExS z u u' → HR g l u' → FR l z u' f2 σ' → D.nx σ' u'.H
  | .ok (.bk f2) h => ∀ u' σ', u'.h = h → ExS z u u' → HR g l u' → FR l z u' f2 σ' → D.bk σ' u'.H
  | .ok (.rt x) h => ∀ u', u'.h = h → ExS z u u' → HR g l u' → ∀ v, RepV l u' x v → D.rt v u'.H
  | .exc e h => ∀ u' σ', u'.h = h → ExS z u u' → HR g l u' → W (g.err e) none σ' u'.H
  | .bad => False
def tS (W : WX) (c : CS) : TS := fun D σ H => ∃ z u fr, u.H = H ∧ HR g l u ∧ FR l z u fr σ ∧ RunS g l W z D u (c fr u.h)
abbrev SS (X : Cx) (W : WX) (s : Stmt) (c : CS) : Prop := PS X s (tS g l W c)
abbrev SSs (X : Cx) (W : WX) (s : List Stmt) (c : CS) : Prop := PSs X s (tS g l W c)
end
section
variable {g : Gx} {l : Lx} {W : WX} {σ : St} {u u' : Vw} {z : Hp} {D : Ends}
theorem RunS.mono {r : Res Out} (e : ExS z u u') (h : RunS g l W z D u r) : RunS g l W z D u' r := by
  cases r with
  | ok x hh =>
    cases x with
    | nx f2 => exact fun u2 σ' q e' r' => h u2 σ' q (e.trans e') r'
    | bk f2 => exact fun u2 σ' q e' r' => h u2 σ' q (e.trans e') r'
    | rt x => exact fun u2 q e' r' => h u2 q (e.trans e') r'
  | exc c hh => exact fun u2 σ' q e' r' => h u2 σ' q (e.trans e') r'
  | bad => exact h
theorem RunS.bad (h : RunS g l W z D u .bad) : False := h
/-- an expression of a statement runs first -/
theorem RunS.bind {α β : Type} {rep : Vw → α → β → Prop} {r : Res α} {k : α → Hv → Res Out} (h : RunS g l W z D u (r.bind k)) :
    Run g l W σ rep (fun v H1 => ∃ u1 x, u1.H = H1 ∧ Ext u u1 ∧ HR g l u1 ∧ rep u1 x v ∧ RunS g l W z D u1 (k x u1.h)) u r := by
  cases r with
  | ok x hh => exact fun u1 q e r1 v rv => ⟨u1, x, rfl, e, r1, rv, by rw [q]; exact RunS.mono (e.s z) h⟩
  | exc c hh => exact fun u1 q e r1 => h u1 σ q (e.s z) r1
  | bad => exact h
theorem tE.firstS {rep : Vw → Val → V → Prop} {Q' : V → Hp → Prop} {c : C} {k : Val → Hv → Res Out} {fr : Fr} (hr : HR g l u) (hf : FR l z u fr σ)
    (h : RunS g l W z D u ((c fr u.h).bind k)) (hq : ∀ u1 x v, Ext u u1 → HR g l u1 → FR l z u1 fr σ → rep u1 x v → RunS g l W z D u1 (k x u1.h) → Q' v u1.H) : tE g l W rep c σ u.H Q' :=
  ⟨z, u, fr, rfl, hr, hf, Run.weak (RunS.bind h) (fun _ _ _ _ _ h => h) fun _ _ ⟨u1, x, e1, e2, e3, e4, e5⟩ => e1 ▸ hq u1 x _ e2 e3 (hf.ext e2 hr) e4 e5⟩
theorem tF.firstS {Q' : V → Hp → Prop} {c : CF} {k : Cont → Hv → Res Out} {fr : Fr} (hr : HR g l u) (hf : FR l z u fr σ)
    (h : RunS g l W z D u ((c fr u.h).bind k)) (hq : ∀ u1 x v, Ext u u1 → HR g l u1 → FR l z u1 fr σ → RepN l u u1 x v → RunS g l W z D u1 (k x u1.h) → Q' v u1.H) : tF g l W c σ u.H Q' :=
  ⟨z, u, fr, rfl, hr, hf, Run.weak (RunS.bind h) (fun _ _ _ _ _ h => h) fun _ _ ⟨u1, x, e1, e2, e3, e4, e5⟩ => e1 ▸ hq u1 x _ e2 e3 (hf.ext e2 hr) e4 e5⟩
theorem tA.firstS {Q' : List V → Hp → Prop} {c : CL} {k : List Val → Hv → Res Out} {fr : Fr} (hr : HR g l u) (hf : FR l z u fr σ)
    (h : RunS g l W z D u ((c fr u.h).bind k)) (hq : ∀ u1 x v, Ext u u1 → HR g l u1 → FR l z u1 fr σ → RepVs l u1 x v → RunS g l W z D u1 (k x u1.h) → Q' v u1.H) : tA g l W c σ u.H Q' :=
  ⟨z, u, fr, rfl, hr, hf, Run.weak (RunS.bind h) (fun _ _ _ _ _ h => h) fun _ _ ⟨u1, x, e1, e2, e3, e4, e5⟩ => e1 ▸ hq u1 x _ e2 e3 (hf.ext e2 hr) e4 e5⟩
/-- a test of a statement -/
theorem tT.firstS {Q' : Bool → Hp → Prop} {a : C} {k : Val → Hv → Res Out} {fr : Fr} (hr : HR g l u) (hf : FR l z u fr σ)
    (h : RunS g l W z D u ((a fr u.h).bind k)) (hb : ∀ x h, (∀ q, x ≠ .bl q) → k x h = .bad) (hq : ∀ u1 b, Ext u u1 → HR g l u1 → FR l z u1 fr σ → RunS g l W z D u1 (k (.bl b) u1.h) → Q' b u1.H) : tT g l W a σ u.H Q' := by
  refine ⟨z, u, fr, rfl, hr, hf, ?_⟩
  cases e : a fr u.h with
  | ok x hh =>
    rw [e] at h
    cases x with
    | bl q =>
      intro u1 e1 x1 r1 v rv
      have rv : v = q := rv
      rw [rv]
      refine hq u1 q x1 r1 (hf.ext x1 hr) ?_
      rw [e1]
      exact RunS.mono (x1.s z) h
    | _ =>
      have h : RunS g l W z D u (k _ hh) := h
      rw [hb _ _ (by intro q z; cases z)] at h
      exact (RunS.bad h).elim
  | exc q hh => rw [e] at h; exact fun u1 e1 x1 r1 => h u1 σ e1 (x1.s z) r1
  | bad => rw [e] at h; exact h
end

section
variable {g : Gx} {l : Lx} {X : Cx} {W : WX} {ea eb ec : Expr} {a b c : C} {pos pos' pos2 p p2 : Pos} {x : Str} {sa sb : CS} {st : Stmt} {rest : List Stmt}
theorem ss_nil : SSs g l X W [] sPass := PSs.weak pss_nil fun D σ H ⟨z, u, fr, e1, e2, e3, e4⟩ => by rw [← e1]; exact e4 u σ rfl (ExS.refl z u) e2 e3
theorem ss_one (h : SS g l X W st sa) : SSs g l X W [st] sa := pss_one h
theorem ss_cons (h : SS g l X W st sa) (k : SSs g l X W rest sb) : SSs g l X W (st :: rest) (sSeq sa sb) := by
  refine PSs.weak (pss_cons h k) fun D σ H ⟨z, u, fr, e1, e2, e3, e4⟩ => ⟨z, u, fr, e1, e2, e3, ?_⟩
  unfold sSeq at e4
  cases e : sa fr u.h with
  | ok x hh =>
    rw [e] at e4
    cases x with
    | nx f2 => exact fun u' σ' q x' r' f' => ⟨z, u', f2, rfl, r', f', by rw [q]; exact RunS.mono x' e4⟩
    | bk f2 => exact e4
    | rt x => exact e4
  | exc c hh => rw [e] at e4; exact e4
  | bad => rw [e] at e4; exact e4
theorem ss_pass : SS g l X W (.Pass pos) sPass := PS.weak ps_pass fun D σ H ⟨z, u, fr, e1, e2, e3, e4⟩ => by rw [← e1]; exact e4 u σ rfl (ExS.refl z u) e2 e3
theorem ss_brk : SS g l X W (.Break pos) sBrk := PS.weak ps_break fun D σ H ⟨z, u, fr, e1, e2, e3, e4⟩ => by rw [← e1]; exact e4 u σ rfl (ExS.refl z u) e2 e3
theorem ss_exp (ha : SE g l X W ea a) (hs : swapsWith ea none pos.line X.env = pure false := by rfl) : SS g l X W (.Expr ea pos) (sExp a) := by
  refine PS.weak (ps_expr ha hs) fun D σ H ⟨z, u, fr, e1, e2, e3, e4⟩ => ?_
  rw [← e1]
  exact tE.firstS e2 e3 e4 fun u1 x v x1 r1 f1 rx h1 => h1 u1 σ rfl (ExS.refl z u1) r1 f1
theorem ss_ret (ha : SE g l X W ea a) : SS g l X W (.Return (some ea) pos) (sRet a) := by
  refine PS.weak (ps_ret ha) fun D σ H ⟨z, u, fr, e1, e2, e3, e4⟩ => ?_
  rw [← e1]
  exact tE.firstS e2 e3 e4 fun u1 x v x1 r1 f1 rx h1 => h1 u1 rfl (ExS.refl z u1) r1 v rx
theorem ss_retN : SS g l X W (.Return none pos) sRetN := PS.weak ps_retN fun D σ H ⟨z, u, fr, e1, e2, e3, e4⟩ => by rw [← e1]; exact e4 u rfl (ExS.refl z u) e2 _ rfl
theorem ss_if {sts sts' : List Stmt} (hc : ST g l X W ec c) (ha : SSs g l X W sts sa) (hb : SSs g l X W sts' sb) : SS g l X W (.If ec sts sts' pos) (sIf c sa sb) := by
  refine PS.weak (ps_if hc ha hb) fun D σ H ⟨z, u, fr, e1, e2, e3, e4⟩ => ?_
  rw [← e1]
  refine tT.firstS e2 e3 e4 (fun x h n => by cases x with | bl q => exact absurd rfl (n q) | _ => rfl) fun u1 k x1 r1 f1 h1 => ?_
  cases k with
  | true => rw [if_pos rfl]; exact ⟨z, u1, fr, rfl, r1, f1, h1⟩
  | false => rw [if_neg (by decide)]; exact ⟨z, u1, fr, rfl, r1, f1, h1⟩
/-- raise X('m') -/
theorem ss_raise {k : Nat} {m : Str} {j : Nat} {C : Addr} {bmB : List Value} {B newId initId : String} (hc : X.calm = true) (tk : Takes X W) (ek : g.err k = .ref C) (F : ExcBaseFacts B newId initId bmB) (q : PySem.W.excIn X.K C bmB newId = true) (gC : X.mg x = some (.ref C)) (kC : PySem.W.keepIn X.K (.ref C) = true) (r : Raises X (.ref C))
    (hg : Gl X x := by rfl) (hdb : (x == ("__debug__" : Str)) = false := by decide) : SS g l X W (.Raise (some (.Call (.Name x p) [.Constant (.str m) j p2] [] pos)) none pos2) (sRaise k) := by
  refine PS.weak (ps_raise hc tk (pmk_own F q gC kC r hg hdb)) fun D σ H ⟨z, u, fr, e1, e2, e3, e4⟩ => ?_
  rw [← e1]
  have := e4 u σ rfl (ExS.refl z u) e2
  rw [ek] at this
  exact this
theorem ss_set (i : Nat) (hN : X.N.Nodup) (ha : SE g l X W ea a) (hi : X.N[i]? = some x := by rfl) (hx : Loc X.env.scope x := by first | exact Or.inl rfl | exact Or.inr rfl) (hs : swapsWith ea (some (.Name x pos')) pos.line X.env = pure false := by rfl) (hf : X.fn x = true ∨ X.env.scope.names.lookup x = some .local := by first | exact .inl rfl | exact .inr rfl) :
    SS g l X W (.Assign [.Name x pos'] ea pos) (sSet i a) := by
  refine PS.weak (ps_set hN hi hx ha hs hf) fun D σ H ⟨z, u, fr, e1, e2, e3, e4⟩ => ?_
  rw [← e1]
  exact tE.firstS e2 e3 e4 fun u1 x v x1 r1 f1 rx h1 => h1 u1 _ rfl (ExS.refl z u1) r1 (f1.setV rx)
/-- what the slot of a new container holds -/
theorem RepN.sl {u0 u1 : Vw} {a : Addr} {c : Cont} (n : RepN l u0 u1 c (.ref a)) : SlR l u1 c.sl (some (.ref a)) := by
  obtain ⟨b, e, h0, hF, hρ, hc⟩ := n
  cases e
  cases c with
  | l xs => obtain ⟨vs, h1, h2⟩ := hc; exact ⟨a, vs, rfl, h1, h2, hF, hρ⟩
  | d kvs => exact ⟨a, rfl, hc, hF, hρ⟩
theorem FR.fresh {z : Hp} {u0 u1 : Vw} {fr : Fr} {σ : St} {i : Nat} {c : Cont} {a : Addr} (f0 : FR l z u0 fr σ) (f : FR l z u1 fr σ) (n : RepN l u0 u1 c (.ref a)) : FR l z u1 (fr.set i c.sl) (σ.set i (some (.ref a))) := by
  have sl := n.sl
  obtain ⟨b, e, h0, hF, hρ, hc⟩ := n
  cases e
  refine f.setO (by cases c <;> trivial) sl (f0.live a h0) fun j s _ h1 k h2 => ?_
  exact (f0.sl j s _ h1 h2).alive k h0
theorem ss_own (i : Nat) {fa : CF} (hN : X.N.Nodup) (ha : SF g l X W ea fa) (hi : X.N[i]? = some x := by rfl) (hx : Loc X.env.scope x := by first | exact Or.inl rfl | exact Or.inr rfl) (hs : swapsWith ea (some (.Name x pos')) pos.line X.env = pure false := by rfl) (hf : X.fn x = true ∨ X.env.scope.names.lookup x = some .local := by first | exact .inl rfl | exact .inr rfl) :
    SS g l X W (.Assign [.Name x pos'] ea pos) (sOwn i fa) := by
  refine PS.weak (ps_set hN hi hx ha hs hf) fun D σ H ⟨z, u, fr, e1, e2, e3, e4⟩ => ?_
  rw [← e1]
  refine tF.firstS e2 e3 e4 fun u1 x v x1 r1 f1 rx h1 => ?_
  obtain ⟨a, e, _⟩ := id rx
  subst e
  exact h1 u1 _ rfl (ExS.refl z u1) r1 (FR.fresh e3 f1 rx)
theorem fget_len {f : Nat} {v : Val} : ∀ fs : List (Nat × Val), (fput f v fs).length ≤ fs.length + 1
  | [] => by simp [fput]
  | (k, y) :: r => by
    unfold fput
    split
    · simp
    · have := fget_len (f := f) (v := v) r
      simp only [List.length_cons]
      omega
theorem RepFs.length {u : Vw} : ∀ {fs : List (Nat × Val)} {fs' : List (Str × V)}, RepFs g l u fs fs' → fs'.length = fs.length
  | [], _, h => by rw [show _ = [] from h]; rfl
  | (k, y) :: r, _, ⟨v, s, e, _, _, h2⟩ => by rw [e, List.length_cons, List.length_cons, RepFs.length h2]
theorem RepFs.put {u : Vw} {f : Nat} {y : Val} {v : V} (hf : f < g.nf) (ry : RepV l u y v) : ∀ {fs : List (Nat × Val)} {fs' : List (Str × V)}, RepFs g l u fs fs' → RepFs g l u (fput f y fs) (putF (g.fld f) v fs')
  | [], _, h => by rw [show _ = [] from h]; exact ⟨v, [], rfl, hf, ry, rfl⟩
  | (k, x) :: r, _, ⟨w, s, e, h0, h1, h2⟩ => by
    rw [e]
    unfold fput
    by_cases q : k = f
    · subst q
      rw [if_pos rfl]
      refine ⟨v, s, ?_, h0, ry, h2⟩
      unfold putF
      rw [if_pos rfl]
    · rw [if_neg q]
      refine ⟨w, _, ?_, h0, h1, RepFs.put hf ry h2⟩
      have ne : ¬ g.fld k = g.fld f := fun z => q (g.fldInj k h0 f hf z)
      rw [putF, if_neg ne]
theorem ss_fld (f : Nat) {fx : Str} (k : ClsOk g X.K) (ha : SE g l X W ea a) (hv : SE g l X W eb b) (hf : f < g.nf := by decide) (hx : g.fld f = fx := by rfl) (hs : swapsWith eb (some (.Attribute ea fx pos')) pos.line X.env = pure false := by rfl) :
    SS g l X W (.Assign [.Attribute ea fx pos'] eb pos) (sFld a f b) := by
  subst hx
  refine PS.weak (L2.ps_fld ha hv hs) fun D σ H ⟨z, u, fr, e1, e2, e3, e4⟩ => ?_
  rw [← e1]
  refine tE.firstS e2 e3 e4 fun u1 y v x1 r1 f1 ry h1 => ?_
  refine tE.firstS r1 f1 h1 fun u2 x w x2 r2 f2 rx h2 => ?_
  cases x with
  | ref id =>
    obtain ⟨q, e5, e6⟩ := rx
    obtain ⟨o, e7, e8, e9⟩ := r2.at e6
    dsimp only at h2
    rw [e7] at h2
    cases o with
    | ins c fs =>
      obtain ⟨dx, fs', e10, e11⟩ := e9
      dsimp only at h2
      split at h2
      · rename_i hl
        obtain ⟨r3, x3⟩ := r2.put (o' := .ins (g.cls c) dx (putF (g.fld f) v fs')) (ob' := .ins c (fput f y fs)) e6 e7 (fun k => k) e10 trivial fun w' s' q' => ⟨dx, _, q', RepFs.put hf (RepV.sub s' _ _ (ry.ext x2 r1)) (RepFs.sub s' _ _ e11)⟩
        refine ⟨q, g.cls c, dx, fs', e5, e10, k.cls c, k.no c f hf, by rw [RepFs.length e11]; omega, ?_⟩
        exact h2 _ _ rfl (x3.s z) r3 (f2.ext x3 r2)
      · exact (RunS.bad h2).elim
    | _ => exact (RunS.bad h2).elim
  | _ => exact (RunS.bad h2).elim
end
end Pk

set_option maxRecDepth 100000
/-! Pk11: stores, appends, targets, loops. -/
namespace Pk
open PySem L2

section
variable {g : Gx} {l : Lx} {X : Cx} {W : WX} {pins : List (Addr × Obj)} {σ : St} {s : Shared} {u : Vw} {A : Around}
/-- an empty dict may be one of either kind of keys -/
theorem inv_dKT {H : Hp} {a : Addr} (I : Inv X pins σ H s) (e : H a = some (.dK [])) : Inv X pins σ (upd H a (.dT [])) s := by
  obtain ⟨hd, o, es, ep, h1, h2, h3, h4, h5, h6⟩ := dt_empty I.hok (.inl e)
  have := d_write (a := a) (t' := s.toks) (h' := s.heap) (ob := .dT []) I (by rw [e]; trivial) ⟨rfl, fun _ _ => rfl⟩ ⟨o, h1⟩ ⟨Nat.zero_le _, hd, [], .nil, o, es, ep, h1, h2, h3, h4, h6⟩
  exact this
theorem putK_ne {κ : Type} [DecidableEq κ] (kvs : List (κ × V)) (k : κ) (v : V) : putK kvs k v ≠ [] := by
  unfold putK
  split
  · cases kvs with
    | nil => rename_i h; exact absurd h (by simp)
    | cons p r => simp
  · simp
theorem dput_ne (kvs : List (Val × Val)) (k v : Val) : dput kvs k v ≠ [] := by
  unfold dput
  split
  · cases kvs with
    | nil => rename_i h; exact absurd h (by simp)
    | cons p r => simp
  · simp
/-- a[i] = v, by the object -/
theorem box_set {a : Addr} {c c' : Cont} {i v : Val} {y w : V} {iv wv : Value} (hu : X.A.units + 65 < cLine) (I : Inv X pins σ u.H s) (hc : ContR l u a c) (ri : RepB l u i y) (rv : RepV l u v w) (ry : RelV y iv) (rw' : RelV w wv) (hs : setC c i v = some c') :
    wpAny (model X.prog X.w) X.A (setItem (.ref a) iv wv) (fun _ s' => ∃ o o', u.H a = some o ∧ isMut o ∧ isOpen o ∧ isMut o' ∧ Inv X pins σ (upd u.H a o') s' ∧ ∀ t : Vw, Sub u t → t.H a = some o' → ContR l t a c') X.xe s := by
  cases c with
  | l xs =>
    cases i with
    | int n =>
      unfold setC at hs
      dsimp only at hs
      split at hs
      · rename_i hn
        cases hs
        obtain ⟨vs, h1, h2⟩ := hc
        have e : ixN vs.length n = some n.toNat := by
          unfold ixN
          rw [if_pos hn.1, if_pos (by rw [← h2.length]; exact hn.2)]
        refine thn (set_list pins s σ u.H (.ref a) y w (.ref a) iv wv (fun H' => H' = upd u.H a (.lst (vs.set n.toNat w))) I rfl ry rw' ⟨a, vs, n, n.toNat, rfl, ri, h1, e, rfl⟩) fun _ s' ⟨H', I', e'⟩ => ?_
        subst e'
        exact ⟨_, _, h1, trivial, trivial, by exact trivial, I', fun t st et => ⟨_, et, RepVs.set _ (RepVs.sub st _ _ h2) (RepV.sub st _ _ rv)⟩⟩
      · cases hs
    | _ => cases hs
  | d kvs =>
    have hs : (if (keyOk kvs i && decide (kvs.length ≤ big)) = true then some (Cont.d (dput kvs i v)) else none) = some c' := by
      cases i <;> exact hs
    split at hs
    · rename_i hk
      cases hs
      rw [Bool.and_eq_true, decide_eq_true_eq] at hk
      obtain ⟨hk, hb⟩ := hk
      have hb' : ∀ {n : Nat}, kvs.length = n → n < sizeLine := fun e => by rw [← e, sizeLine_eq]; have : big = 1000000 := rfl; omega
      unfold keyOk at hk
      rw [Bool.or_eq_true, Bool.and_eq_true, Bool.and_eq_true] at hk
      rcases hk with ⟨k1, k2⟩ | ⟨k1, k2⟩
      · obtain ⟨q, e⟩ := keyV_leaf k1
        rcases hc with ⟨ks, h1, h2⟩ | ⟨ks, h1, h0, h2⟩
        · refine d_setItem (by omega) I (.inl ⟨ks, q, h1, kv_rep e (repB_leaf k1 ri), hb' (RepK.length h2), rfl⟩) ry rw' fun s' I' => ⟨_, _, h1, trivial, trivial, by exact trivial, I', fun t st et => .inl ⟨_, et, RepK.put e (RepV.sub st _ _ rv) (RepK.sub st _ _ h2)⟩⟩
        · cases kvs with
          | nil => exact absurd rfl h0
          | cons p r =>
            obtain ⟨q, v, s, _, f, _⟩ := h2
            rw [List.all_cons, Bool.and_eq_true] at k2
            rw [leafK_not k2.1] at f
            cases f
      · obtain ⟨q, e⟩ := keyT_of k1
        cases i with
        | tup xs =>
          obtain ⟨b, vs, e1, e2, e3⟩ := repB_tup k1 ri
          rw [kvs_rep (show keyVs xs = some q from e) e3] at e2
          rcases hc with ⟨ks, h1, h2⟩ | ⟨ks, h1, h0, h2⟩
          · cases kvs with
            | nil =>
              rw [show ks = [] from h2] at h1
              have ne : b ≠ a := fun z => by rw [z, h1] at e2; cases e2
              have I' := inv_dKT I h1
              refine d_setItem (by omega) I' (.inr ⟨[], q, b, upd_same, e1, by rw [upd_ne ne]; exact e2, hb' rfl, rfl⟩) ry rw' fun s' I2 => ?_
              rw [upd_upd] at I2
              exact ⟨_, _, h1, trivial, trivial, by exact trivial, I2, fun t st et => .inr ⟨_, et, dput_ne _ _ _, RepT.put (kvs := []) (ks := []) e (RepV.sub st _ _ rv) rfl⟩⟩
            | cons p r =>
              obtain ⟨q, v, s, _, f, _⟩ := h2
              rw [List.all_cons, Bool.and_eq_true] at k2
              rw [tupK_not k2.1] at f
              cases f
          · refine d_setItem (by omega) I (.inr ⟨ks, q, b, h1, e1, e2, hb' (RepT.length h2), rfl⟩) ry rw' fun s' I' => ⟨_, _, h1, trivial, trivial, by exact trivial, I', fun t st et => .inr ⟨_, et, dput_ne _ _ _, RepT.put e (RepV.sub st _ _ rv) (RepT.sub st _ _ h2)⟩⟩
        | _ => exact Bool.noConfusion k1
    · cases hs
theorem ContR.ob {t : Vw} {a : Addr} : ∀ {c : Cont}, ContR l t a c → ObR g l t a c.ob
  | .l _, h => h
  | .d _, h => h
theorem ObR.cont {t : Vw} {a : Addr} {ob : Ob} {c : Cont} (h : ObR g l t a ob) (e : contOf ob = some c) : ContR l t a c ∧ ¬ ob.locked := by
  cases ob with
  | lst k xs => cases k with | zero => cases e; exact ⟨h, fun z => z⟩ | succ k => cases e
  | dct k xs => cases k with | zero => cases e; exact ⟨h, fun z => z⟩ | succ k => cases e
  | ins c fs => cases e
theorem SlR.cont {t : Vw} {a : Addr} {sl : Sl} {c : Cont} (h : SlR l t sl (some (.ref a))) (e : contSl sl = some c) : ContR l t a c ∧ ¬ t.F a ∧ (∀ id, t.ρ id ≠ some a) ∧ sl.isAc := by
  cases sl with
  | no => cases e
  | val x => cases e
  | acl k xs =>
    cases k with
    | zero => cases e; obtain ⟨b, vs, e1, h1, h2, h3, h4⟩ := h; cases e1; exact ⟨⟨vs, h1, h2⟩, h3, h4, trivial⟩
    | succ k => cases e
  | acd k xs =>
    cases k with
    | zero => cases e; obtain ⟨b, e1, h1, h3, h4⟩ := h; cases e1; exact ⟨h1, h3, h4, trivial⟩
    | succ k => cases e
theorem ContR.slot {t : Vw} {a : Addr} (nf : ¬ t.F a) (nn : ∀ id, t.ρ id ≠ some a) : ∀ {c : Cont}, ContR l t a c → SlR l t c.sl (some (.ref a))
  | .l _, ⟨vs, h1, h2⟩ => ⟨a, vs, rfl, h1, h2, nf, nn⟩
  | .d _, h => ⟨a, rfl, h, nf, nn⟩
theorem sl_ac (c : Cont) : c.sl.isAc := by cases c <;> trivial
/-- a store to a numbered object -/
theorem num_set {id : Nat} {a : Addr} {i v : Val} {y w : V} {iv wv : Value} {h4 : Hv} (hu : X.A.units + 65 < cLine) (I : Inv X pins σ u.H s) (r : HR g l u) (hn : u.ρ id = some a) (ri : RepB l u i y) (rv : RepV l u v w) (ry : RelV y iv) (rw' : RelV w wv) (hs : setO u.h id i v = some h4) :
    wpAny (model X.prog X.w) X.A (setItem (.ref a) iv wv) (fun _ s' => ∃ u' : Vw, Ext u u' ∧ HR g l u' ∧ u'.h = h4 ∧ Inv X pins σ u'.H s') X.xe s := by
  obtain ⟨ob, e1, e2, e3⟩ := r.at hn
  unfold setO at hs
  rw [e1] at hs
  dsimp only at hs
  cases hc : contOf ob with
  | none => rw [hc] at hs; cases hs
  | some c =>
    rw [hc] at hs
    dsimp only at hs
    obtain ⟨c1, c2⟩ := e3.cont hc
    cases hq : setC c i v with
    | none => rw [hq] at hs; cases hs
    | some c' =>
      rw [hq] at hs
      cases hs
      refine thn (box_set hu I c1 ri rv ry rw' hq) fun _ s' ⟨o, o', h1, h2, h3, h5, I', hk⟩ => ?_
      obtain ⟨r3, x3⟩ := r.put (o' := o') (ob' := c'.ob) hn e1 c2 h1 h2 (fun t st et => (hk t st et).ob) h5
      exact ⟨_, x3, r3, rfl, I'⟩
/-- a store to an own container -/
theorem own_set {z : Hp} {fr f1 : Fr} {j : Nat} {i v : Val} {y w : V} {iv wv : Value} (hu : X.A.units + 65 < cLine) (I : Inv X pins σ u.H s) (r : HR g l u) (f : FR l z u fr σ) (ri : RepB l u i y) (rv : RepV l u v w) (ry : RelV y iv) (rw' : RelV w wv) (hs : setA fr j i v = some f1) :
    ∃ a, σ[j]? = some (some (.ref a)) ∧ wpAny (model X.prog X.w) X.A (setItem (.ref a) iv wv) (fun _ s' => ∃ u' : Vw, ExS z u u' ∧ HR g l u' ∧ u'.h = u.h ∧ FR l z u' f1 σ ∧ Inv X pins σ u'.H s') X.xe s := by
  unfold setA at hs
  cases hj : fr[j]? with
  | none => rw [hj] at hs; cases hs
  | some sl =>
    rw [hj] at hs
    dsimp only at hs
    cases hc : contSl sl with
    | none => rw [hc] at hs; cases hs
    | some c =>
      rw [hc] at hs
      dsimp only at hs
      cases hq : setC c i v with
      | none => rw [hq] at hs; cases hs
      | some c' =>
        rw [hq] at hs
        cases hs
        have hl : j < σ.length := by rw [← f.len]; exact (List.getElem?_eq_some_iff.mp hj).1
        have ej : σ[j]? = some σ[j] := by simp [hl]
        have sl0 := f.sl j sl σ[j] hj ej
        have ac : sl.isAc := by cases sl <;> first | trivial | cases hc
        obtain ⟨a, ea⟩ := sl0.ref ac
        rw [ea] at sl0 ej
        obtain ⟨c1, c2, c3, c4⟩ := sl0.cont hc
        have nz := f.own j sl a hj ac ej
        refine ⟨a, ej, thn (box_set hu I c1 ri rv ry rw' hq) fun _ s' ⟨o, o', h1, h2, h3, h5, I', hk⟩ => ?_⟩
        obtain ⟨r3, x3⟩ := r.own (o' := o') c3 c2 nz h1 h2 h3 h5
        have st : Sub u ⟨u.ρ, u.F, upd u.H a o', u.h⟩ := Sub.upd h1 h2 c2
        exact ⟨⟨u.ρ, u.F, upd u.H a o', u.h⟩, x3, r3, rfl, f.wrote r hj ac (sl_ac c') ej h1 h2 h5 c2 (ContR.slot (t := ⟨u.ρ, u.F, upd u.H a o', u.h⟩) c2 c3 (hk _ st upd_same)), I'⟩
end

section
variable {g : Gx} {l : Lx} {X : Cx} {W : WX} {ea eb ec : Expr} {a b c : C} {pos pos' pos2 p p2 : Pos} {x : Str} {sa sb : CS} {st : Stmt} {rest : List Stmt}
/-- an expression of a statement, run -/
theorem run_first {rep : Vw → Val → V → Prop} {k : Val → Hv → Res Out} {pins : List (Addr × Obj)} {s : Shared} {σ : St} {u : Vw} {z : Hp} {D : Ends} {fr : Fr} {Q : Value → Shared → Prop} (he : PE X ea (tE g l W rep a)) (I : Inv X pins σ u.H s) (hr : HR g l u) (hf : FR l z u fr σ)
    (h : RunS g l W z D u ((a fr u.h).bind k)) (hq : ∀ u1 x v w s1, Ext u u1 → HR g l u1 → FR l z u1 fr σ → rep u1 x v → RelV v w → Inv X pins σ u1.H s1 → RunS g l W z D u1 (k x u1.h) → Q w s1) : wpAny (model X.prog X.w) X.A (eval ea X.env) Q X.xe s := by
  refine thn (he.run pins s σ u.H (fun v H1 => ∃ u1 x, u1.H = H1 ∧ Ext u u1 ∧ HR g l u1 ∧ FR l z u1 fr σ ∧ rep u1 x v ∧ RunS g l W z D u1 (k x u1.h)) I (tE.firstS hr hf h fun u1 x v x1 r1 f1 rx h1 => ⟨u1, x, rfl, x1, r1, f1, rx, h1⟩)) fun w s1 ⟨v, H1, I1, rw1, u1, x, q1, x1, r1, f1, rv1, h1⟩ => ?_
  subst q1
  exact hq u1 x v w s1 x1 r1 f1 rv1 rw1 I1 h1
/-- an own container's name, looked up -/
theorem run_own (j : Nat) {pins : List (Addr × Obj)} {s : Shared} {σ : St} {u : Vw} {z : Hp} {fr : Fr} {Q : Value → Shared → Prop} (I : Inv X pins σ u.H s) (hf : FR l z u fr σ) (ho : isA fr j = true) (hN : X.N[j]? = some x) (hv : Vis X.env.scope x) (hd : (x == ("__debug__" : Str)) = false)
    (hcd : (x == ("__classdict__" : Str)) = false) (hq : ∀ q s1, σ[j]? = some (some (.ref q)) → Inv X pins σ u.H s1 → Q (.ref q) s1) : wpAny (model X.prog X.w) X.A (eval (.Name x p) X.env) Q X.xe s := by
  have key : ∃ q, σ[j]? = some (some (.ref q)) := by
    unfold isA at ho
    cases hj : fr[j]? with
    | none => rw [hj] at ho; cases ho
    | some sl =>
      have hl : j < σ.length := by rw [← hf.len]; exact (List.getElem?_eq_some_iff.mp hj).1
      have ej : σ[j]? = some σ[j] := by simp [hl]
      have ac : sl.isAc := by rw [hj] at ho; cases sl <;> first | trivial | cases ho
      obtain ⟨q, e⟩ := (hf.sl j sl σ[j] hj ej).ref ac
      exact ⟨q, by rw [ej, e]⟩
  obtain ⟨q, e⟩ := key
  refine thn ((pe_var (i := j) hN hv hd hcd).run pins s σ u.H (fun v H1 => v = .ref q ∧ H1 = u.H) I ⟨.ref q, e, rfl, rfl⟩) fun w s1 ⟨v, H1, I1, rw1, e1, e2⟩ => ?_
  subst e1 e2
  cases (show w = Value.ref q from rw1)
  exact hq q s1 e I1
/-- a[i] = e -/
theorem ss_sub (hu : X.A.units + 65 < cLine) (ha : SE g l X W ea a) (hb : SE g l X W eb b) (hv : SE g l X W ec c) (hs : swapsWith ec (some (.Subscript ea eb pos')) pos.line X.env = pure false := by rfl) : SS g l X W (.Assign [.Subscript ea eb pos'] ec pos) (sSub a b c) := by
  refine ⟨fun pins s σ H D I ⟨z, u, fr, e1, e2, e3, e4⟩ => ?_⟩
  rw [← e1] at I
  refine PySem.wpAny_Assign_Subscript (run_first hv I e2 e3 e4 fun u1 vx w wv s1 x1 r1 f1 rv1 rw1 I1 h1 => ?_) hs
  refine run_first ha I1 r1 f1 h1 fun u2 ox o ov s2 x2 r2 f2 rv2 ro I2 h2 => ?_
  refine run_first hb I2 r2 f2 h2 fun u3 ix y iv s3 x3 r3 f3 rv3 ry I3 h3 => ?_
  cases ox with
  | ref id =>
    obtain ⟨q, e5, e6⟩ := rv2.ext x3 r2
    subst e5
    cases (show ov = Value.ref q from ro)
    dsimp only at h3
    cases hso : setO u3.h id ix vx with
    | none => rw [hso] at h3; exact (RunS.bad h3).elim
    | some h4 =>
      rw [hso] at h3
      refine thn (num_set hu I3 r3 e6 (rv3.b r3) ((rv1.ext x2 r1).ext x3 r2) ry rw1 hso) fun _ s4 ⟨u4, x4, r4, e7, I4⟩ => ?_
      exact ⟨σ, u4.H, I4, h3 u4 σ e7 (x4.s z) r4 (f3.ext x4 r3)⟩
  | _ => exact (RunS.bad h3).elim
/-- x[i] = e, x an own container -/
theorem ss_subO (j : Nat) (hu : X.A.units + 65 < cLine) (hb : SE g l X W eb b) (hv : SE g l X W ec c) (hN : X.N[j]? = some x := by rfl) (hvis : Vis X.env.scope x := by first | exact Or.inl rfl | exact Or.inr (Or.inl rfl) | exact Or.inr (Or.inr rfl)) (hd : (x == ("__debug__" : Str)) = false := by decide)
    (hcd : (x == ("__classdict__" : Str)) = false := by decide) (hs : swapsWith ec (some (.Subscript (.Name x p) eb pos')) pos.line X.env = pure false := by rfl) : SS g l X W (.Assign [.Subscript (.Name x p) eb pos'] ec pos) (sSubO j b c) := by
  refine ⟨fun pins s σ H D I ⟨z, u, fr, e1, e2, e3, e4⟩ => ?_⟩
  rw [← e1] at I
  refine PySem.wpAny_Assign_Subscript (run_first hv I e2 e3 e4 fun u1 vx w wv s1 x1 r1 f1 rv1 rw1 I1 h1 => ?_) hs
  split at h1
  · rename_i ho
    refine run_own j I1 f1 ho hN hvis hd hcd fun q s2 eq I2 => ?_
    refine run_first hb I2 r1 f1 h1 fun u3 ix y iv s3 x3 r3 f3 rv3 ry I3 h3 => ?_
    cases hso : setA fr j ix vx with
    | none => rw [hso] at h3; exact (RunS.bad h3).elim
    | some f4 =>
      rw [hso] at h3
      obtain ⟨q', eq', hgo⟩ := own_set hu I3 r3 f3 (rv3.b r3) (rv1.ext x3 r1) ry rw1 hso
      rw [eq] at eq'
      cases eq'
      refine thn hgo fun _ s4 ⟨u4, x4, r4, e7, f5, I4⟩ => ?_
      exact ⟨σ, u4.H, I4, h3 u4 σ e7 x4 r4 f5⟩
  · exact (RunS.bad h1).elim
end
end Pk

set_option maxRecDepth 100000
/-! Pk12: appends, augmented names, targets, loops. -/
namespace Pk
open PySem L2

section
variable {g : Gx} {l : Lx} {X : Cx} {W : WX} {ea eb ec : Expr} {a b c : C} {pos pos' pos2 p p2 apos cpos : Pos} {x : Str} {sa sb : CS} {st : Stmt} {rest : List Stmt}
/-- a.append(e) -/
theorem ss_app (ha : SE g l X W ea a) (hb : SE g l X W eb b) (hbase : attributeBase ea "append" X.env (eval ea X.env) = eval ea X.env := by rfl)
    (hfew : ((backTo cpos (starEach (eb :: []) X.env)).all (fun x => !x.1) && (backToKw cpos (keywordEach [] X.env)).all (fun x => x.1.isSome) && decide ((eb :: []).length + ([] : List Keyword).length + (if ([] : List Keyword).isEmpty then 0 else 1) < 30)) = true := by rfl)
    (hline : (apos.endLine == cpos.line) = true := by rfl) (hs : starEach (eb :: []) X.env = (false, eval eb X.env) :: starEach [] X.env := by rfl) (hplain : (backTo cpos (starEach [] X.env)).any (·.1) = false := by rfl)
    (hsw : swapsWith (.Call (.Attribute ea "append" apos) [eb] [] cpos) none pos.line X.env = pure false := by rfl) : SS g l X W (.Expr (.Call (.Attribute ea "append" apos) [eb] [] cpos) pos) (sApp a b) := by
  refine PS.weak (ps_expr (pe_bm PySem.F.plainAttrs_list PySem.F.slot_list_append PySem.F.type_list_append mt_append ha (pa_cons hb pa_nil hs) hbase hfew hline hs hplain) hsw) fun D σ H ⟨z, u, fr, e1, e2, e3, e4⟩ => ?_
  rw [← e1]
  refine tE.firstS e2 e3 e4 fun u1 y v x1 r1 f1 ry h1 => ?_
  split at h1
  · exact (RunS.bad h1).elim
  · rename_i ys es
    obtain ⟨q, vs, e5, e6, e7⟩ := lstOf_rep r1 (ry.b r1) es
    refine ⟨by rw [e5]; exact .inl ⟨rfl, vs, SqL.of e6⟩, ?_⟩
    refine tE.firstS r1 f1 h1 fun u2 w t x2 r2 f2 rw' h2 => ?_
    cases y with
    | ref id =>
      obtain ⟨q', e8, e9⟩ := ry.ext x2 r1
      dsimp only at h2
      obtain ⟨o, k1, k2, k3⟩ := r2.at e9
      rw [k1] at h2
      cases o with
      | lst k xs =>
        cases k with
        | zero =>
          replace h2 : RunS g l W z D u2 (if xs.length ≤ big then .ok (.nx fr) (u2.h.set id (.lst 0 (xs ++ [w]))) else .bad) := h2
          split at h2
          · rename_i hb
            obtain ⟨ws, k4, k5⟩ := k3
            obtain ⟨r3, x3⟩ := r2.put (o' := .lst (ws ++ [t])) (ob' := .lst 0 (xs ++ [w])) e9 k1 (fun k => k) k4 trivial fun w' s' q' => ⟨_, q', RepVs.append (RepVs.sub s' _ _ k5) (RepVs.one (RepV.sub s' _ _ rw'))⟩
            exact ⟨q', ws, t, e8, rfl, k4, by rw [← k5.length, sizeLine_eq]; have : big = 1000000 := rfl; omega, h2 _ σ rfl (x3.s z) r3 (f2.ext x3 r2)⟩
          · exact (RunS.bad h2).elim
        | succ k => exact (RunS.bad h2).elim
      | _ => exact (RunS.bad h2).elim
    | _ => exact (RunS.bad h2).elim
/-- x.append(e), x an own list -/
theorem ss_appO (j : Nat) (hb : SE g l X W eb b) (hN : X.N[j]? = some x := by rfl) (hvis : Vis X.env.scope x := by first | exact Or.inl rfl | exact Or.inr (Or.inl rfl) | exact Or.inr (Or.inr rfl)) (hd : (x == ("__debug__" : Str)) = false := by decide) (hcd : (x == ("__classdict__" : Str)) = false := by decide)
    (hbase : attributeBase (.Name x p) "append" X.env (eval (.Name x p) X.env) = eval (.Name x p) X.env := by rfl)
    (hfew : ((backTo cpos (starEach (eb :: []) X.env)).all (fun x => !x.1) && (backToKw cpos (keywordEach [] X.env)).all (fun x => x.1.isSome) && decide ((eb :: []).length + ([] : List Keyword).length + (if ([] : List Keyword).isEmpty then 0 else 1) < 30)) = true := by rfl)
    (hline : (apos.endLine == cpos.line) = true := by rfl) (hs : starEach (eb :: []) X.env = (false, eval eb X.env) :: starEach [] X.env := by rfl) (hplain : (backTo cpos (starEach [] X.env)).any (·.1) = false := by rfl)
    (hsw : swapsWith (.Call (.Attribute (.Name x p) "append" apos) [eb] [] cpos) none pos.line X.env = pure false := by rfl) : SS g l X W (.Expr (.Call (.Attribute (.Name x p) "append" apos) [eb] [] cpos) pos) (sAppO j b) := by
  refine PS.weak (ps_expr (pe_bm PySem.F.plainAttrs_list PySem.F.slot_list_append PySem.F.type_list_append mt_append (pe_var (i := j) hN hvis hd hcd) (pa_cons hb pa_nil hs) hbase hfew hline hs hplain) hsw) fun D σ H ⟨z, u, fr, e1, e2, e3, e4⟩ => ?_
  rw [← e1]
  unfold sAppO at e4
  split at e4
  · rename_i ho
    unfold isL at ho
    cases hj : fr[j]? with
    | none => rw [hj] at ho; cases ho
    | some sl =>
      have hl : j < σ.length := by rw [← e3.len]; exact (List.getElem?_eq_some_iff.mp hj).1
      have ej : σ[j]? = some σ[j] := by simp [hl]
      cases sl with
      | no => rw [hj] at ho; cases ho
      | val y => rw [hj] at ho; cases ho
      | acd k kvs => rw [hj] at ho; cases ho
      | acl k xs =>
        have sl0 := e3.sl j _ σ[j] hj ej
        obtain ⟨q, vs, e5, e6, e7, nf, nn⟩ := sl0
        rw [e5] at ej
        refine ⟨.ref q, ej, .inl ⟨rfl, vs, SqL.of e6⟩, ?_⟩
        refine tE.firstS e2 e3 e4 fun u2 w t x2 r2 f2 rw' h2 => ?_
        rw [hj] at h2
        cases k with
        | zero =>
          replace h2 : RunS g l W z D u2 (if xs.length ≤ big then .ok (.nx (fr.set j (.acl 0 (xs ++ [w])))) u2.h else .bad) := h2
          split at h2
          · rename_i hb
            obtain ⟨q', ws, k5, k6, k7, nf2, nn2⟩ := f2.sl j _ _ hj ej
            cases k5
            obtain ⟨r3, x3⟩ := r2.own (o' := .lst (ws ++ [t])) nn2 nf2 (f2.own j _ q hj trivial ej) k6 trivial trivial trivial
            refine ⟨q, ws, t, rfl, rfl, k6, by rw [← k7.length, sizeLine_eq]; have : big = 1000000 := rfl; omega, ?_⟩
            have st : Sub u2 ⟨u2.ρ, u2.F, upd u2.H q (.lst (ws ++ [t])), u2.h⟩ := Sub.upd k6 trivial nf2
            exact h2 ⟨u2.ρ, u2.F, upd u2.H q (.lst (ws ++ [t])), u2.h⟩ σ rfl x3 r3 (f2.wrote r2 hj trivial trivial ej k6 trivial trivial nf2 ⟨q, _, rfl, upd_same, RepVs.append (RepVs.sub st _ _ k7) (RepVs.one (RepV.sub st _ _ rw')), nf2, nn2⟩)
          · exact (RunS.bad h2).elim
        | succ k => exact (RunS.bad h2).elim
  · exact (RunS.bad e4).elim
end
end Pk

set_option maxRecDepth 100000
/-! Pk13: what is walked; targets; for, while. -/
namespace Pk
open PySem L2

section
variable {g : Gx} {l : Lx} {u u2 : Vw}
/-- a list is walked: its number is locked -/
def lockV (u : Vw) (lk : Option Nat) : Vw := ⟨u.ρ, u.F, u.H, lockO u.h lk⟩
def unlockV (u : Vw) (lk : Option Nat) : Vw := ⟨u.ρ, u.F, u.H, unlockO u.h lk⟩
/-- what may be locked so: nothing, or a numbered list -/
def LkL (u : Vw) (lk : Option Nat) : Prop := match lk with
  | none => True
  | some id => ∃ k xs, u.h[id]? = some (.lst k xs)
theorem lock_at {h : Hv} {id j : Nat} : (lockOb h id)[j]? = if id = j then (h[j]?).map Ob.lk else h[j]? := by
  unfold lockOb
  rw [List.getElem?_modify]
  split <;> rename_i q
  · subst q; simp
  · simp [q]
theorem unlock_at {h : Hv} {id j : Nat} : (unlockOb h id)[j]? = if id = j then (h[j]?).map Ob.ulk else h[j]? := by
  unfold unlockOb
  rw [List.getElem?_modify]
  split <;> rename_i q
  · subst q; simp
  · simp [q]
theorem lock_len {h : Hv} {lk : Option Nat} : (lockO h lk).length = h.length := by
  cases lk with
  | none => rfl
  | some id => exact List.length_modify ..
theorem unlock_len {h : Hv} {lk : Option Nat} : (unlockO h lk).length = h.length := by
  cases lk with
  | none => rfl
  | some id => exact List.length_modify ..
theorem Sub.h {h' : Hv} : Sub u ⟨u.ρ, u.F, u.H, h'⟩ := ⟨fun _ _ h => h, fun _ h => h, fun _ _ h => h, fun _ _ h => h, fun _ _ _ h => h, fun _ _ _ h => h, fun _ _ _ h => h⟩
theorem HR.lock {lk : Option Nat} (r : HR g l u) (k : LkL u lk) : HR g l (lockV u lk) := by
  cases lk with
  | none => exact r
  | some id =>
    obtain ⟨n, xs, e⟩ := k
    refine ⟨fun j a h => by show j < (lockO u.h (some id)).length; rw [lock_len]; exact r.dom j a h, r.inj, fun j o h => ?_, r.frz, r.tab⟩
    have h : (lockOb u.h id)[j]? = some o := h
    rw [lock_at] at h
    split at h
    · rename_i q
      subst q
      rw [e] at h
      cases h
      obtain ⟨a, h1, h2, h3⟩ := r.ob id _ e
      exact ⟨a, h1, h2, h3.same Sub.h rfl⟩
    · obtain ⟨a, h1, h2, h3⟩ := r.ob j o h
      exact ⟨a, h1, h2, h3.same Sub.h rfl⟩
theorem HR.unlock {lk : Option Nat} (r : HR g l u) (k : LkL u lk) : HR g l (unlockV u lk) := by
  cases lk with
  | none => exact r
  | some id =>
    obtain ⟨n, xs, e⟩ := k
    refine ⟨fun j a h => by show j < (unlockO u.h (some id)).length; rw [unlock_len]; exact r.dom j a h, r.inj, fun j o h => ?_, r.frz, r.tab⟩
    have h : (unlockOb u.h id)[j]? = some o := h
    rw [unlock_at] at h
    split at h
    · rename_i q
      subst q
      rw [e] at h
      cases h
      obtain ⟨a, h1, h2, h3⟩ := r.ob id _ e
      exact ⟨a, h1, h2, h3.same Sub.h rfl⟩
    · obtain ⟨a, h1, h2, h3⟩ := r.ob j o h
      exact ⟨a, h1, h2, h3.same Sub.h rfl⟩
/-- the lock stands through what runs meanwhile -/
theorem lock_keep {lk : Option Nat} {R : Vw → Vw → Prop} (r : HR g l u) (k : LkL u lk) (hl : ∀ id o a, (lockV u lk).h[id]? = some o → o.locked → u.ρ id = some a → u2.h[id]? = some o ∧ u2.H a = u.H a) : LkL u2 lk ∧ ∀ id o a, u.h[id]? = some o → o.locked → u.ρ id = some a → (unlockV u2 lk).h[id]? = some o ∧ u2.H a = u.H a := by
  cases lk with
  | none => exact ⟨trivial, hl⟩
  | some id =>
    obtain ⟨n, xs, e⟩ := k
    obtain ⟨a0, h0, _, _⟩ := r.ob id _ e
    have hx := hl id (.lst (n + 1) xs) a0 (by show (lockOb u.h id)[id]? = _; rw [lock_at, if_pos rfl, e]; rfl) trivial h0
    refine ⟨⟨n + 1, xs, hx.1⟩, fun j o a h1 h2 h3 => ?_⟩
    show (unlockOb u2.h id)[j]? = some o ∧ _
    rw [unlock_at]
    by_cases q : id = j
    · subst q
      rw [e] at h1
      cases h1
      rw [if_pos rfl, hx.1]
      rw [h3] at h0
      cases h0
      exact ⟨rfl, hx.2⟩
    · rw [if_neg q]
      refine hl j o a ?_ h2 h3
      show (lockOb u.h id)[j]? = some o
      rw [lock_at, if_neg q]; exact h1
theorem Ext.unlock {lk : Option Nat} (r : HR g l u) (k : LkL u lk) (e : Ext (lockV u lk) u2) : LkL u2 lk ∧ Ext u (unlockV u2 lk) := by
  obtain ⟨h1, h2⟩ := lock_keep (R := Ext) r k e.lock
  exact ⟨h1, e.ρm, e.ρn, e.Fm, e.Fn, e.keep, e.live, h2, by
    have := e.len
    show u.h.length ≤ (unlockO u2.h lk).length
    rw [unlock_len]
    exact Nat.le_trans (by show u.h.length ≤ (lockO u.h lk).length; rw [lock_len]; exact Nat.le_refl _) this⟩
theorem ExS.unlock {z : Hp} {lk : Option Nat} (r : HR g l u) (k : LkL u lk) (e : ExS z (lockV u lk) u2) : LkL u2 lk ∧ ExS z u (unlockV u2 lk) := by
  obtain ⟨h1, h2⟩ := lock_keep (R := Ext) r k e.lock
  exact ⟨h1, e.ρm, e.ρn, e.Fm, e.Fn, e.keep, e.live, h2, by
    have := e.len
    show u.h.length ≤ (unlockO u2.h lk).length
    rw [unlock_len]
    exact Nat.le_trans (by show u.h.length ≤ (lockO u.h lk).length; rw [lock_len]; exact Nat.le_refl _) this⟩
theorem FR.h {z : Hp} {fr : Fr} {σ : St} {h' : Hv} (f : FR l z u fr σ) : FR l z ⟨u.ρ, u.F, u.H, h'⟩ fr σ := by
  refine ⟨f.live, f.len, f.own, fun i s v h1 h2 => (f.sl i s v h1 h2).sub Sub.h fun _ a _ => ⟨rfl, id, fun _ => id⟩, f.apart⟩

theorem ExS.sub {z : Hp} {u' : Vw} (x : ExS z u u') (r : HR g l u) : Sub u u' where
  ρm := x.ρm
  Fm := x.Fm
  tup := fun a vs e => x.keep a _ e (r.not_num e fun m => m) (fun ps q => by cases q) (.inr (.inr fun m => m))
  ext := fun a φ e => x.keep a _ e (r.not_num e fun m => m) (fun ps q => by cases q) (.inr (.inr fun m => m))
  lst := fun a vs f e => x.keep a _ e (r.frz_not f) (fun ps q => by cases q) (.inr (.inl f))
  dK := fun a ks f ⟨o, e⟩ => ⟨o, x.keep a _ e (r.frz_not f) (fun ps q => by cases q) (.inr (.inl f))⟩
  dT := fun a ks f ⟨o, e⟩ => ⟨o, x.keep a _ e (r.frz_not f) (fun ps q => by cases q) (.inr (.inl f))⟩

/-! ### sources -/
/-- the walk J gives the values xs, as long as Al holds -/
structure Src (g : Gx) (l : Lx) (J : It) (xs : List Val) (Al : Vw → Prop) : Prop where
  go : ∀ u i x, Al u → HR g l u → xs[i]? = some x → J.go i u.H
  yld : ∀ u i x v H', Al u → HR g l u → xs[i]? = some x → J.yld i u.H v H' → ∃ u' : Vw, u'.H = H' ∧ u'.h = u.h ∧ Ext u u' ∧ HR g l u' ∧ RepV l u' x v
  stop : ∀ u, Al u → HR g l u → J.stop xs.length u.H
  keep : ∀ u u', Al u → HR g l u → Ext u u' → Al u'
/-- .. through statements too -/
structure SrcS (g : Gx) (l : Lx) (J : It) (xs : List Val) (Al : Vw → Prop) : Prop extends Src g l J xs Al where
  keepS : ∀ z u u', Al u → HR g l u → ExS z u u' → Al u'
def SrcAt (S : It → List Val → (Vw → Prop) → Prop) (u : Vw) (J : It) (xs : List Val) (lk : Option Nat) : Prop := ∃ Al, S J xs Al ∧ LkL u lk ∧ Al (lockV u lk)
theorem src_lst {K : PySem.W.Frag} {a : Addr} {xs : List Val} {Al : Vw → Prop} (h : ∀ u, Al u → HR g l u → ∃ vs, u.H a = some (.lst vs) ∧ RepVs l u xs vs) (k : ∀ u u', Al u → HR g l u → Ext u u' → Al u') : Src g l (Itl K a) xs Al where
  go := fun u i x al r e => by
    obtain ⟨vs, h1, h2⟩ := h u al r
    obtain ⟨v, e1, _⟩ := h2.get e
    exact ⟨vs, v, SqL.of h1, e1⟩
  yld := fun u i x v H' al r e ⟨eH, hy⟩ => by
    obtain ⟨vs, h1, h2⟩ := h u al r
    obtain ⟨w, e1, e2⟩ := h2.get e
    have := hy vs (SqL.of h1)
    rw [e1] at this
    cases this
    exact ⟨u, eH.symm, rfl, Ext.refl u, r, e2⟩
  stop := fun u al r => by
    obtain ⟨vs, h1, h2⟩ := h u al r
    exact ⟨vs, SqL.of h1, by rw [h2.length]; exact Nat.le_refl _⟩
  keep := k
theorem src_tup {K : PySem.W.Frag} {a : Addr} {xs : List Val} {Al : Vw → Prop} (h : ∀ u, Al u → HR g l u → ∃ vs, u.H a = some (.tup vs) ∧ RepVs l u xs vs) (k : ∀ u u', Al u → HR g l u → Ext u u' → Al u') : Src g l (Itt K a) xs Al where
  go := fun u i x al r e => by
    obtain ⟨vs, h1, h2⟩ := h u al r
    obtain ⟨v, e1, _⟩ := h2.get e
    exact ⟨vs, v, SqT.of h1, e1⟩
  yld := fun u i x v H' al r e ⟨eH, hy⟩ => by
    obtain ⟨vs, h1, h2⟩ := h u al r
    obtain ⟨w, e1, e2⟩ := h2.get e
    have := hy vs (SqT.of h1)
    rw [e1] at this
    cases this
    exact ⟨u, eH.symm, rfl, Ext.refl u, r, e2⟩
  stop := fun u al r => by
    obtain ⟨vs, h1, h2⟩ := h u al r
    exact ⟨vs, SqT.of h1, by rw [h2.length]; exact Nat.le_refl _⟩
  keep := k
theorem src_rng {lo hi : Int} : SrcS g l (Itr lo (hi - lo).toNat) (rangeZ lo hi) (fun _ => True) where
  go := fun u i x _ r e => by
    have := (List.getElem?_eq_some_iff.mp e).1
    unfold rangeZ at this
    rw [List.length_map, List.length_range] at this
    exact this
  yld := fun u i x v H' _ r e ⟨eH, ev⟩ => by
    unfold rangeZ at e
    rw [List.getElem?_map] at e
    cases q : (List.range (hi - lo).toNat)[i]? with
    | none => rw [q] at e; cases e
    | some k =>
      rw [q] at e
      obtain ⟨h1, h2⟩ := List.getElem?_eq_some_iff.mp q
      rw [List.getElem_range] at h2
      subst h2
      cases e
      exact ⟨u, eH.symm, rfl, Ext.refl u, r, ev⟩
  stop := fun u _ r => by
    show _ ≤ _
    unfold rangeZ
    simp
  keep := fun _ _ _ _ _ => trivial
  keepS := fun _ _ _ _ _ _ => trivial
/-- a value that is a list or a tuple, walked by statements -/
theorem src_seq {K : PySem.W.Frag} {x : Val} {v : V} {xs : List Val} (r : HR g l u) (rx : RepV l u x v) (e : seqOf u.h x = some xs) :
    ∃ a, v = .ref a ∧ ((∃ vs, u.H a = some (.lst vs)) ∧ SrcAt (SrcS g l) u (Itl K a) xs (idOf x) ∨ (∃ vs, u.H a = some (.tup vs)) ∧ SrcAt (SrcS g l) u (Itt K a) xs (idOf x)) := by
  cases x with
  | tup ys =>
    obtain ⟨a, vs, e1, h1, h2⟩ := rx
    cases e
    refine ⟨a, e1, .inr ⟨⟨vs, h1⟩, fun w => ∃ vs, w.H a = some (.tup vs) ∧ RepVs l w xs vs, ⟨src_tup (fun u al _ => al) fun u u' ⟨vs, h1, h2⟩ r e => ⟨vs, e.keep a _ h1 (r.not_num h1 fun z => z) (fun ps z => by cases z), h2.ext e r⟩, fun z u u' ⟨vs, h1, h2⟩ r e => ?_⟩, trivial, vs, h1, h2⟩⟩
    refine ⟨vs, e.keep a _ h1 (r.not_num h1 fun z => z) (fun ps z => by cases z) (.inr (.inr fun z => z)), ?_⟩
    exact RepVs.sub (e.sub r) _ _ h2
  | lst ys =>
    obtain ⟨a, vs, e1, f, h1, h2⟩ := rx
    cases e
    refine ⟨a, e1, .inl ⟨⟨vs, h1⟩, fun w => w.F a ∧ ∃ vs, w.H a = some (.lst vs) ∧ RepVs l w xs vs, ⟨src_lst (fun u al _ => al.2) fun u u' ⟨f, vs, h1, h2⟩ r e => ⟨e.Fm a f, vs, e.keep a _ h1 (r.frz_not f) (fun ps z => by cases z), h2.ext e r⟩, fun z u u' ⟨f, vs, h1, h2⟩ r e => ?_⟩, trivial, f, vs, h1, h2⟩⟩
    exact ⟨e.Fm a f, vs, e.keep a _ h1 (r.frz_not f) (fun ps z => by cases z) (.inr (.inl f)), RepVs.sub (e.sub r) _ _ h2⟩
  | ref id =>
    obtain ⟨a, e1, e2⟩ := rx
    obtain ⟨o, h3, h4, h5⟩ := r.at e2
    unfold seqOf at e
    dsimp only at e
    rw [h3] at e
    cases o with
    | lst k ys =>
      cases e
      obtain ⟨vs, h6, h7⟩ := h5
      have al0 : ∀ w : Vw, (w.ρ id = some a ∧ ∃ k, w.h[id]? = some (.lst (k + 1) xs)) → HR g l w → ∃ vs, w.H a = some (.lst vs) ∧ RepVs l w xs vs := fun w ⟨h1, k, h2⟩ r => by
        obtain ⟨b, q1, _, q2⟩ := r.ob id _ h2
        rw [h1] at q1
        cases q1
        exact q2
      refine ⟨a, e1, .inl ⟨⟨vs, h6⟩, fun w => w.ρ id = some a ∧ ∃ k, w.h[id]? = some (.lst (k + 1) xs), ⟨src_lst al0 fun u u' ⟨h1, k, h2⟩ r e => ⟨e.ρm id a h1, k, (e.lock id _ a h2 trivial h1).1⟩, fun z u u' ⟨h1, k, h2⟩ r e => ⟨e.ρm id a h1, k, (e.lock id _ a h2 trivial h1).1⟩⟩, ⟨k, xs, h3⟩, e2, k, ?_⟩⟩
      show (lockOb u.h id)[id]? = _
      rw [lock_at, if_pos rfl, h3]; rfl
    | dct k ys => cases e
    | ins c fs => cases e
  | _ => cases e
end
end Pk

set_option maxRecDepth 100000
/-! Pk14: for, while. -/
namespace Pk
open PySem PySem.Spec PyProof.Rows L2
abbrev St := L2.St

section
variable (g : Gx) (l : Lx)
/-- a source -/
def RunI (W : WX) (σ : Pk.St) (S : It → List Val → (Vw → Prop) → Prop) (R : It → Hp → Prop) (u : Vw) (r : Res (List Val × Option Nat)) : Prop := match r with
  | .ok p h => ∀ u', u'.h = h → Ext u u' → HR g l u' → ∀ J, SrcAt S u' J p.1 p.2 → R J u'.H
  | .exc e h => ∀ u', u'.h = h → Ext u u' → HR g l u' → W (g.err e) none σ u'.H
  | .bad => False
def tI (W : WX) (S : It → List Val → (Vw → Prop) → Prop) (it : CI) : TI := fun σ H R => ∃ z u fr, u.H = H ∧ HR g l u ∧ FR l z u fr σ ∧ RunI g l W σ S R u (it fr u.h)
abbrev SI (X : Cx) (W : WX) (tg e : Expr) (it : CI) : Prop := PI X tg e (tI g l W (SrcS g l) it)
end
section
variable {g : Gx} {l : Lx} {X : Cx} {W : WX} {tg ea eb ec : Expr} {a b c : C} {pos pos' pos2 p p2 : Pos} {x : Str} {sa sb : CS} {st : Stmt} {rest : List Stmt}
theorem PI.weak {e : Expr} {t t' : TI} (h : PI X tg e t) (w : ∀ σ H R, t' σ H R → t σ H R) : PI X tg e t' := ⟨fun pins s σ H R I q => h.run pins s σ H R I (w σ H R q)⟩
/-- an expression of a source runs first -/
theorem tE.firstI {S : It → List Val → (Vw → Prop) → Prop} {R : It → Hp → Prop} {rep : Vw → Val → V → Prop} {Q' : V → Hp → Prop} {k : Val → Hv → Res (List Val × Option Nat)} {z : Hp} {fr : Fr} {σ : Pk.St} {u : Vw} (hr : HR g l u) (hf : FR l z u fr σ)
    (h : RunI g l W σ S R u ((a fr u.h).bind k)) (hq : ∀ u1 x v, Ext u u1 → HR g l u1 → FR l z u1 fr σ → rep u1 x v → RunI g l W σ S R u1 (k x u1.h) → Q' v u1.H) : tE g l W rep a σ u.H Q' := by
  refine ⟨z, u, fr, rfl, hr, hf, ?_⟩
  cases e : a fr u.h with
  | ok y hh =>
    rw [e] at h
    intro u1 e1 x1 r1 v rv
    refine hq u1 y v x1 r1 (hf.ext x1 hr) rv ?_
    rw [e1]
    have h : RunI g l W σ S R u (k y hh) := h
    cases q : k y hh with
    | ok p h2 => rw [q] at h; exact fun u2 e2 x2 r2 => h u2 e2 (x1.trans x2) r2
    | exc c h2 => rw [q] at h; exact fun u2 e2 x2 r2 => h u2 e2 (x1.trans x2) r2
    | bad => rw [q] at h; exact h
  | exc q hh => rw [e] at h; exact h
  | bad => rw [e] at h; exact h
theorem RunI.bad {S : It → List Val → (Vw → Prop) → Prop} {R : It → Hp → Prop} {σ : Pk.St} {u : Vw} (h : RunI g l W σ S R u .bad) : False := h
/-- a list or a tuple -/
theorem si_seq (ha : SE g l X W ea a) : SI g l X W tg ea (iSeq a) := by
  refine ⟨fun pins s σ H R I ⟨z, u, fr, e1, e2, e3, e4⟩ => ?_⟩
  rw [← e1] at I
  refine thn (ha.run pins s σ u.H (fun v H1 => ∃ u1 y, u1.H = H1 ∧ HR g l u1 ∧ RepV l u1 y v ∧ RunI g l W σ (SrcS g l) R u1 (match seqOf u1.h y with | some xs => .ok (xs, idOf y) u1.h | none => .bad)) I (tE.firstI e2 e3 e4 fun u1 y v x1 r1 f1 rx h1 => ⟨u1, y, rfl, r1, rx, h1⟩)) fun v s1 ⟨w, H1, I1, rw1, u1, y, q1, r1, rx, h1⟩ => ?_
  subst q1
  cases hs : seqOf u1.h y with
  | none => rw [hs] at h1; exact (RunI.bad h1).elim
  | some xs =>
    rw [hs] at h1
    obtain ⟨q, e5, ⟨⟨vs, k1⟩, k2⟩ | ⟨⟨vs, k1⟩, k2⟩⟩ := src_seq (K := X.K) r1 rx hs
    · subst e5
      cases (show v = Value.ref q from rw1)
      obtain ⟨its, rv, p, hz⟩ := I1.list (SqL.of k1)
      refine wpAny_pyIter_list p.isList ?_
      refine ⟨s1.heap.objs.size, [s1.heap.objs.size], _, _, u1.H, rfl, I1.kept (t' := s1.toks) fun b o e => Heap.get?_push_of_some _ e, turn_list q _, ⟨_, Heap.get?_push_size _ rfl, rfl, rfl⟩, fun b hb => ?_, h1 u1 rfl (Ext.refl u1) r1 _ k2⟩
      have e : b = s1.heap.objs.size := by simpa using hb
      subst e
      exact I1.fpOk (Nat.le_refl _) (I1.hok.fresh (Nat.le_refl _))
    · subst e5
      cases (show v = Value.ref q from rw1)
      obtain ⟨its, rv, p, hz⟩ := I1.tuple (SqT.of k1)
      refine wpAny_pyIter_tuple (show s1.heap.IsTuple q its.toArray from p) ?_
      refine ⟨s1.heap.objs.size, [s1.heap.objs.size], _, _, u1.H, rfl, I1.kept (t' := s1.toks) fun b o e => Heap.get?_push_of_some _ e, turn_tuple q _, ⟨_, Heap.get?_push_size _ rfl, rfl, rfl⟩, fun b hb => ?_, h1 u1 rfl (Ext.refl u1) r1 _ k2⟩
      have e : b = s1.heap.objs.size := by simpa using hb
      subst e
      exact I1.fpOk (Nat.le_refl _) (I1.hok.fresh (Nat.le_refl _))
theorem smallR_ok {i : Int} (h : smallR i = true) : -(2 ^ 62) ≤ i ∧ i < 2 ^ 62 := by
  unfold smallR at h
  rw [Bool.and_eq_true, decide_eq_true_eq, decide_eq_true_eq] at h
  omega
/-- range(b) -/
theorem si_rng1 (hg : Gl X "range" := by rfl) (hm : X.mg "range" = none) (ha : SE g l X W ea a) (hs : starEach [ea] X.env = [(false, eval ea X.env)] := by rfl) : SI g l X W tg (.Call (.Name "range" p) [ea] [] pos) (iRange (cK (.int 0)) a) := by
  refine PI.weak (pi_range1 hg hm (pa_cons ha pa_nil hs) hs) fun σ H R ⟨z, u, fr, e1, e2, e3, e4⟩ => ?_
  rw [← e1]
  have e4 : RunI g l W σ (SrcS g l) R u ((a fr u.h).bind fun y h2 => match Val.int 0, y with | .int i, .int j => if smallR i && smallR j then .ok (rangeZ i j, none) h2 else .bad | _, _ => .bad) := e4
  refine tE.firstI e2 e3 e4 fun u1 y v x1 r1 f1 ry h1 => ?_
  cases y with
  | int j =>
    dsimp only at h1
    split at h1
    · rename_i hb
      rw [Bool.and_eq_true] at hb
      obtain ⟨q1, q2⟩ := smallR_ok hb.2
      refine ⟨j, by rw [show v = V.int j from ry], q1, q2, ?_⟩
      have := h1 u1 rfl (Ext.refl u1) r1 (Itr 0 (j - 0).toNat) ⟨fun _ => True, src_rng, trivial, trivial⟩
      rw [Int.sub_zero] at this
      exact this
    · exact (RunI.bad h1).elim
  | _ => exact (RunI.bad h1).elim
/-- range(a, b) -/
theorem si_rng2 (hg : Gl X "range" := by rfl) (hm : X.mg "range" = none) (ha : SE g l X W ea a) (hb : SE g l X W eb b) (hs : starEach [ea, eb] X.env = [(false, eval ea X.env), (false, eval eb X.env)] := by rfl) (hs2 : starEach [eb] X.env = [(false, eval eb X.env)] := by rfl) :
    SI g l X W tg (.Call (.Name "range" p) [ea, eb] [] pos) (iRange a b) := by
  refine PI.weak (pi_range2 hg hm (pa_cons ha (pa_cons hb pa_nil hs2) (by rw [hs, hs2])) hs hs2) fun σ H R ⟨z, u, fr, e1, e2, e3, e4⟩ => ?_
  rw [← e1]
  refine tE.firstI e2 e3 e4 fun u1 y v x1 r1 f1 ry h1 => ?_
  refine tE.firstI r1 f1 h1 fun u2 t w x2 r2 f2 rt h2 => ?_
  cases y with
  | int i =>
    cases t with
    | int j =>
      dsimp only at h2
      split at h2
      · rename_i hb
        rw [Bool.and_eq_true] at hb
        refine ⟨i, j, by rw [show v = V.int i from ry, show w = V.int j from rt], ⟨(smallR_ok hb.1).1, (smallR_ok hb.1).2, (smallR_ok hb.2).1, (smallR_ok hb.2).2⟩, ?_⟩
        exact h2 u2 rfl (Ext.refl u2) r2 (Itr i (j - i).toNat) ⟨fun _ => True, src_rng, trivial, trivial⟩
      · exact (RunI.bad h2).elim
    | _ => exact (RunI.bad h2).elim
  | _ => exact (RunI.bad h2).elim

/-! ### targets -/
def gT (g : Gx) (l : Lx) (t : Tg) : TG := fun v σ H Q => ∃ z u fr y f1, u.H = H ∧ HR g l u ∧ FR l z u fr σ ∧ RepV l u y v ∧ t.bind y fr = some f1 ∧ ∀ σ', FR l z u f1 σ' → wipe σ' t.ixs = wipe σ t.ixs → Q σ' u.H
def gB (g : Gx) (l : Lx) (is : List Nat) : TGs := fun vs σ H Q => ∃ z u fr ys f1, u.H = H ∧ HR g l u ∧ FR l z u fr σ ∧ RepVs l u ys vs ∧ bindAll is ys fr = some f1 ∧ ∀ σ', FR l z u f1 σ' → wipe σ' is = wipe σ is → Q σ' u.H
theorem PG.weak {e : Expr} {t t' : TG} (h : PG X e t) (w : ∀ v σ H Q, t' v σ H Q → t v σ H Q) : PG X e t' := ⟨fun pins s σ H v u Q I r q => h.run pins s σ H v u Q I r (w v σ H Q q)⟩
theorem PGs.weak {e : List Expr} {t t' : TGs} (h : PGs X e t) (w : ∀ v σ H Q, t' v σ H Q → t v σ H Q) : PGs X e t' := ⟨fun pins s σ H v u Q I r q => h.run pins s σ H v u Q I r (w v σ H Q q)⟩
theorem wipe_set (i : Nat) (x : Option V) : ∀ (vs : List Nat) (σ : Pk.St), (wipe (σ.set i x) vs).set i none = (wipe σ vs).set i none
  | [], σ => by show (σ.set i x).set i none = σ.set i none; rw [List.set_set]
  | v :: vs, σ => by
    show ((wipe (σ.set i x) vs).set v none).set i none = ((wipe σ vs).set v none).set i none
    by_cases q : v = i
    · subst q
      rw [List.set_set, List.set_set, wipe_set v x vs σ]
    · rw [List.set_comm _ _ q, List.set_comm _ _ q, wipe_set i x vs σ]
theorem tg_n (i : Nat) (hN : X.N.Nodup) (hi : X.N[i]? = some x := by rfl) (hx : Loc X.env.scope x := by first | exact Or.inl rfl | exact Or.inr rfl) (hf : X.fn x = true ∨ X.env.scope.names.lookup x = some .local := by first | exact .inl rfl | exact .inr rfl) : PG X (.Name x pos) (gT g l (.n i)) :=
  PG.weak (pg_name hN hi hx hf) fun v σ H Q ⟨z, u, fr, y, f1, e1, e2, e3, e4, e5, e6⟩ => by
    cases e5
    have := e6 _ (e3.setV e4) (wipe_set i _ [] _)
    rw [e1] at this
    exact this
theorem tgs_nil : PGs X [] (gB g l []) := PGs.weak pgs_nil fun v σ H Q ⟨z, u, fr, ys, f1, e1, e2, e3, e4, e5, e6⟩ => by
  cases ys with
  | nil =>
    cases e5
    have := e6 σ e3 rfl
    rw [e1] at this
    exact ⟨e4, this⟩
  | cons y r => cases e5
theorem tgs_cons (i : Nat) {es : List Expr} {is : List Nat} (h : PGs X es (gB g l is)) (hN : X.N.Nodup) (hi : X.N[i]? = some x := by rfl) (hx : Loc X.env.scope x := by first | exact Or.inl rfl | exact Or.inr rfl) (hf : X.fn x = true ∨ X.env.scope.names.lookup x = some .local := by first | exact .inl rfl | exact .inr rfl)
    (hs : (assignEach (.Name x pos :: es) X.env).map (·.2) = assign (.Name x pos) X.env :: (assignEach es X.env).map (·.2) := by rfl) : PGs X (.Name x pos :: es) (gB g l (i :: is)) :=
  PGs.weak (pgs_cons (pg_name hN hi hx hf) h hs) fun v σ H Q ⟨z, u, fr, ys, f1, e1, e2, e3, e4, e5, e6⟩ => by
    cases ys with
    | nil => cases e5
    | cons y r =>
      obtain ⟨w, vs, q1, q2, q3⟩ := e4
      refine ⟨w, vs, q1, ?_⟩
      refine ⟨z, u, fr.set i (.val y), r, f1, e1, e2, e3.setV q2, q3, e5, fun σ' f' hw => e6 σ' f' ?_⟩
      show (wipe σ' is).set i none = (wipe σ is).set i none
      rw [hw, wipe_set]
theorem tg_t {es : List Expr} {k : Nat} {is : List Nat} {n : Nat} (hc : X.calm = true) (h : PGs X es (gB g l is)) (hn : (assignEach es X.env).length = n := by rfl) (hst : (assignEach es X.env).findIdx? (·.1) = none := by rfl) (hl : is.length = n := by rfl) : PG X (.Tuple es k pos) (gT g l (.t is)) :=
  PG.weak (pg_tup hc h hn hst) fun v σ H Q ⟨z, u, fr, y, f1, e1, e2, e3, e4, e5, e6⟩ => by
    cases y with
    | tup ys =>
      obtain ⟨q, vs, q1, q2, q3⟩ := e4
      have len : ∀ {is : List Nat} {ys : List Val} {fr f1 : Fr}, bindAll is ys fr = some f1 → ys.length = is.length := by
        intro is
        induction is with
        | nil => intro ys fr f1 h; cases ys with | nil => rfl | cons _ _ => cases h
        | cons i is ih =>
          intro ys fr f1 h
          cases ys with
          | nil => cases h
          | cons y r => rw [List.length_cons, List.length_cons, ih (show bindAll is r _ = some f1 from h)]
      refine ⟨q, vs, q1, SqT.of (by rw [← e1]; exact q2), by rw [← q3.length, len e5, hl], z, u, fr, ys, f1, e1, e2, e3, q3, e5, e6⟩
    | _ => cases e5

/-! ### for -/
/-- the ends of a loop's body, the loop's own lock taken back -/
theorem for_ends {z : Hp} {D : Ends} {u : Vw} {lk : Option Nat} {r : Res Out} (hr : HR g l u) (hk : LkL u lk) (h : RunS g l W z D u (match r with
  | .ok (.nx f2) h2 => .ok (.nx f2) (unlockO h2 lk)
  | .ok (.bk f2) h2 => .ok (.nx f2) (unlockO h2 lk)
  | .ok (.rt v) h2 => .ok (.rt v) (unlockO h2 lk)
  | .exc c h2 => .exc c (unlockO h2 lk)
  | .bad => .bad)) : RunS g l W z { nx := D.nx, rt := D.rt, bk := D.nx } (lockV u lk) r := by
  cases r with
  | ok x hh =>
    cases x with
    | nx f2 => exact fun u' σ' e x' r' f' => let ⟨k', x2⟩ := x'.unlock hr hk; h (unlockV u' lk) σ' (by show unlockO u'.h lk = _; rw [e]) x2 (r'.unlock k') f'.h
    | bk f2 => exact fun u' σ' e x' r' f' => let ⟨k', x2⟩ := x'.unlock hr hk; h (unlockV u' lk) σ' (by show unlockO u'.h lk = _; rw [e]) x2 (r'.unlock k') f'.h
    | rt v => exact fun u' e x' r' v rv => let ⟨k', x2⟩ := x'.unlock hr hk; h (unlockV u' lk) (by show unlockO u'.h lk = _; rw [e]) x2 (r'.unlock k') v (RepV.sub Sub.h _ _ rv)
  | exc c hh => exact fun u' σ' e x' r' => let ⟨k', x2⟩ := x'.unlock hr hk; h (unlockV u' lk) σ' (by show unlockO u'.h lk = _; rw [e]) x2 (r'.unlock k')
  | bad => exact h
theorem ss_for {body : List Stmt} {it : CI} {t : Tg} (hp : PassesOwn (model X.prog X.w) X.A X.env X.xe) (hc : X.calm = true) (hi : SI g l X W tg ea it) (hg : PG X tg (gT g l t)) (hb : SSs g l X W body sb)
    (hs : ∀ x, foldedSetIterable ea X.env x = pure x := by intro _; rfl) : SS g l X W (.For tg ea body [] pos) (sFor t it sb) := by
  refine PS.weak (ps_for hp hc hi hg hb hs) fun D σ H ⟨z, u, fr, e1, e2, e3, e4⟩ => ⟨z, u, fr, e1, e2, e3, ?_⟩
  have e4 : RunS g l W z D u ((it fr u.h).bind _) := e4
  cases hit : it fr u.h with
  | exc c hh => rw [hit] at e4; exact fun u1 e x r => e4 u1 σ e (x.s z) r
  | bad => rw [hit] at e4; exact e4
  | ok q hh =>
    obtain ⟨xs, lk⟩ := q
    rw [hit] at e4
    intro u1 eh x1 r1 J ⟨Al, hS, hk, hal⟩
    have f1 := e3.ext x1 e2
    have h1 := for_ends (lk := lk) r1 hk (RunS.mono (x1.s z) (by rw [← eh] at e4; exact e4))
    -- the invariant
    refine ⟨fun i m σ H => ∃ v fv, v.H = H ∧ HR g l v ∧ FR l z v fv σ ∧ Al v ∧ m = xs.length - i ∧ i ≤ xs.length ∧ RunS g l W z { nx := D.nx, rt := D.rt, bk := D.nx } v (forL t sb (xs.drop i) fv v.h), ⟨xs.length, lockV u1 lk, fr, rfl, r1.lock hk, f1.h, hal, by simp, Nat.zero_le _, h1⟩, ?_⟩
    rintro i m σ' H' ⟨v, fv, rfl, r, f, al, rfl, hi, h⟩
    by_cases hlt : i < xs.length
    · have ei : xs[i]? = some xs[i] := by simp [hlt]
      rw [List.drop_eq_getElem_cons hlt] at h
      refine .inr ⟨hS.go v i _ al r ei, fun σ2 H2 => ∃ m', m' < xs.length - i ∧ ∃ w fw, w.H = H2 ∧ HR g l w ∧ FR l z w fw σ2 ∧ Al w ∧ m' = xs.length - (i + 1) ∧ i + 1 ≤ xs.length ∧ RunS g l W z { nx := D.nx, rt := D.rt, bk := D.nx } w (forL t sb (xs.drop (i + 1)) fw w.h), fun σ2 H2 h => h, fun y H2 hy => ?_⟩
      obtain ⟨w, rfl, ew, xw, rw', ry⟩ := hS.yld v i _ y H2 al r ei hy
      have fw := f.ext xw r
      have alw := hS.keep v w al r xw
      have h : RunS g l W z { nx := D.nx, rt := D.rt, bk := D.nx } w (forL t sb (xs[i] :: xs.drop (i + 1)) fv w.h) := by rw [ew]; exact RunS.mono (xw.s z) h
      unfold forL at h
      cases hb : t.bind xs[i] fv with
      | none => rw [hb] at h; exact (RunS.bad h).elim
      | some f2 =>
        rw [hb] at h
        refine ⟨z, w, fv, xs[i], f2, rfl, rw', fw, ry, hb, fun σ3 f3 _ => ⟨z, w, f2, rfl, rw', f3, ?_⟩⟩
        have h : RunS g l W z { nx := D.nx, rt := D.rt, bk := D.nx } w ((sb f2 w.h).bind fun o h1 => match o with | .nx f3 => forL t sb (xs.drop (i + 1)) f3 h1 | o => .ok o h1) := h
        cases hsb : sb f2 w.h with
        | exc c hh => rw [hsb] at h; exact h
        | bad => rw [hsb] at h; exact h
        | ok o hh =>
          rw [hsb] at h
          cases o with
          | bk f4 => exact h
          | rt y => exact h
          | nx f4 => exact fun w2 σ4 eh2 x4 r4 f4' => ⟨_, by omega, w2, f4, rfl, r4, f4', hS.keepS z w w2 alw rw' x4, rfl, hlt, by rw [eh2]; exact RunS.mono x4 h⟩
    · have ei : i = xs.length := by omega
      subst ei
      rw [List.drop_length] at h
      exact .inl ⟨hS.stop v al r, h v σ' rfl (ExS.refl z v) r f⟩
/-! ### while -/
theorem ss_while {body : List Stmt} {n : Nat} (hp : PassesOwn (model X.prog X.w) X.A X.env X.xe) (hc : ST g l X W ec c) (hb : SSs g l X W body sb) : SS g l X W (.While ec body [] pos) (sWhile c sb n) := by
  refine PS.weak (ps_while hp hc hb) fun D σ H ⟨z, u, fr, e1, e2, e3, e4⟩ => ?_
  refine ⟨fun m σ H => ∃ v fv, v.H = H ∧ HR g l v ∧ FR l z v fv σ ∧ RunS g l W z D v (sWhile c sb m fv v.h), ⟨n, u, fr, e1, e2, e3, e4⟩, ?_⟩
  rintro m σ' H' ⟨v, fv, rfl, r, f, h⟩
  cases m with
  | zero => exact (RunS.bad h).elim
  | succ m =>
    have h : RunS g l W z D v ((c fv v.h).bind _) := h
    refine tT.firstS r f h (fun x h n => by cases x with | bl q => exact absurd rfl (n q) | _ => rfl) fun u1 k x1 r1 f1 h1 => ?_
    cases k with
    | false => rw [if_neg (by decide)]; exact h1 u1 σ' rfl (ExS.refl z u1) r1 f1
    | true =>
      rw [if_pos rfl]
      refine ⟨fun σ2 H2 => ∃ m', m' < m + 1 ∧ ∃ v fv, v.H = H2 ∧ HR g l v ∧ FR l z v fv σ2 ∧ RunS g l W z D v (sWhile c sb m' fv v.h), fun σ2 H2 h => h, z, u1, fv, rfl, r1, f1, ?_⟩
      have h1 : RunS g l W z D u1 ((sb fv u1.h).bind fun o h2 => match o with | .nx f2 => sWhile c sb m f2 h2 | .bk f2 => .ok (.nx f2) h2 | .rt v => .ok (.rt v) h2) := h1
      cases hsb : sb fv u1.h with
      | exc q hh => rw [hsb] at h1; exact h1
      | bad => rw [hsb] at h1; exact h1
      | ok o hh =>
        rw [hsb] at h1
        cases o with
        | bk f4 => exact h1
        | rt y => exact h1
        | nx f4 => exact fun w2 σ4 eh2 x4 r4 f4' => ⟨m, Nat.lt_succ_self m, w2, f4, rfl, r4, f4', by rw [eh2]; exact RunS.mono x4 h1⟩
end
end Pk

set_option maxRecDepth 100000
/-! Pk15: more statements and expressions. -/
namespace Pk
open PySem PySem.Spec PyProof.Rows L2

section
variable {g : Gx} {l : Lx} {X : Cx} {W : WX} {tg ea eb ec : Expr} {a b c : C} {pos pos' pos2 p p2 apos cpos : Pos} {x : Str} {sa sb : CS} {st : Stmt} {rest : List Stmt}
/-- an own dict is frozen for good -/
theorem frzS {u : Vw} {z : Hp} {q : Addr} {o : HO} (r : HR g l u) (hq : u.H q = some o) (hm : isMut o) (hb : isBox o) (op : isOpen o) (nf : ¬ u.F q) (nn : ∀ id, u.ρ id ≠ some q) (gz : gone z q) (od : Obj) :
    Sub u ⟨u.ρ, fun b => u.F b ∨ b = q, upd u.H q (.frz od o), u.h⟩ ∧ ExS z u ⟨u.ρ, fun b => u.F b ∨ b = q, upd u.H q (.frz od o), u.h⟩ ∧ HR g l ⟨u.ρ, fun b => u.F b ∨ b = q, upd u.H q (.frz od o), u.h⟩ := by
  have nm := isMut_cases hm
  have ne : ∀ {b : Addr} {x : HO}, u.H b = some x → x ≠ o → b ≠ q := fun {b x} h n w => by rw [w, hq] at h; exact n (Option.some.inj h).symm
  have s : Sub u ⟨u.ρ, fun b => u.F b ∨ b = q, upd u.H q (.frz od o), u.h⟩ :=
    ⟨fun _ _ h => h, fun _ h => .inl h, fun b vs h => (upd_ne (ne h fun w => nm.1 _ w.symm)).trans h, fun b φ h => (upd_ne (ne h fun w => nm.2.1 _ w.symm)).trans h, fun b vs f h => (upd_ne (fun (w : b = q) => nf (w ▸ f))).trans h,
      fun b ks f ⟨o', h⟩ => ⟨o', (upd_ne (fun (w : b = q) => nf (w ▸ f))).trans h⟩, fun b ks f ⟨o', h⟩ => ⟨o', (upd_ne (fun (w : b = q) => nf (w ▸ f))).trans h⟩⟩
  have nr : ∀ {id : Nat} {b : Addr}, u.ρ id = some b → b ≠ q := fun {id b} h w => nn id (by rw [← w]; exact h)
  refine ⟨s, ⟨fun _ _ h => h, fun _ _ h => .inl h, fun _ h => .inl h, fun b h => h.elim .inl fun h => .inr (.inr (h ▸ gz)), fun b x h n m c => ?_, fun b h => ?_, fun id ob b h1 h2 h3 => ⟨h1, upd_ne (nr h3)⟩, Nat.le_refl _⟩, ⟨r.dom, r.inj, fun id ob h => ?_, fun b h => ?_, fun p hp => ?_⟩⟩
  · by_cases w : b = q
    · rw [w] at h c
      rw [hq] at h
      cases h
      exact (c.elim (fun c => c gz) fun c => c.elim nf fun c => c op).elim
    · exact (upd_ne w).trans h
  · intro x hx
    by_cases w : b = q
    · rw [w] at h
      obtain ⟨ps, e⟩ := h _ upd_same
      cases e
    · exact h x ((upd_ne w).trans hx)
  · obtain ⟨b, h1, h2, h3⟩ := r.ob id ob h
    exact ⟨b, h1, fun w => w.elim h2 (nr h1), h3.same s (upd_ne (nr h1))⟩
  · by_cases w : b = q
    · exact ⟨.frz od o, by rw [w]; exact upd_same, hb⟩
    · obtain ⟨x, h1, h2⟩ := r.frz b (h.resolve_right w)
      exact ⟨x, (upd_ne w).trans h1, h2⟩
  · obtain ⟨ps, h1, h2, h3⟩ := r.tab p hp
    refine ⟨ps, (upd_ne (ne h1 fun w => nm.2.2 _ w.symm)).trans h1, h2, fun pos cv hcv => ?_⟩
    obtain ⟨c, e1, e2⟩ := h3 pos cv hcv
    exact ⟨c, e1, s.ext _ _ e2⟩
/-- return x, x an own container -/
theorem ss_retA (j : Nat) (hN : X.N[j]? = some x := by rfl) (hvis : Vis X.env.scope x := by first | exact Or.inl rfl | exact Or.inr (Or.inl rfl) | exact Or.inr (Or.inr rfl)) (hd : (x == ("__debug__" : Str)) = false := by decide) (hcd : (x == ("__classdict__" : Str)) = false := by decide) :
    SS g l X W (.Return (some (.Name x p)) pos) (sRetA j) := by
  refine PS.weak (ps_post (ps_ret (pe_var (i := j) hN hvis hd hcd))) fun D σ H ⟨z, u, fr, e1, e2, e3, e4⟩ => ?_
  rw [← e1]
  have fin : ∀ {sl : Sl} {ct : Cont}, fr[j]? = some sl → contSl sl = some ct → RunS g l W z D u (.ok (.rt ct.val) u.h) → tVar j σ u.H fun v H1 => D.rt v H1 ∨ ∃ d o, H1 d = some o ∧ Mut (some o) ∧ ∀ od, D.rt v (upd H1 d (.frz od o)) := fun {sl ct} hj hc h => by
    have hl : j < σ.length := by rw [← e3.len]; exact (List.getElem?_eq_some_iff.mp hj).1
    have ej : σ[j]? = some σ[j] := by simp [hl]
    have ac : sl.isAc := by cases sl <;> first | trivial | cases hc
    have sl0 := e3.sl j sl σ[j] hj ej
    obtain ⟨q, eq⟩ := sl0.ref ac
    rw [eq] at sl0 ej
    obtain ⟨c1, c2, c3, _⟩ := sl0.cont hc
    have nz := e3.own j sl q hj ac ej
    refine ⟨.ref q, ej, ?_⟩
    cases ct with
    | l xs =>
      obtain ⟨vs, c4, c5⟩ := c1
      have sb : Sub u ⟨u.ρ, fun b => u.F b ∨ b = q, u.H, u.h⟩ := ⟨fun _ _ h => h, fun _ h => .inl h, fun _ _ h => h, fun _ _ h => h, fun _ _ _ h => h, fun _ _ _ h => h, fun _ _ _ h => h⟩
      refine .inl (h ⟨u.ρ, fun b => u.F b ∨ b = q, u.H, u.h⟩ rfl ⟨fun _ _ h => h, fun _ _ h => .inl h, fun _ h => .inl h, fun b h => h.elim .inl fun h => .inr (.inr (h ▸ nz)), fun _ _ h _ _ _ => h, fun _ h => h, fun _ _ _ h _ _ => ⟨h, rfl⟩, Nat.le_refl _⟩ ⟨e2.dom, e2.inj, fun id o h => ?_, fun b h => ?_, e2.tab⟩ _ ⟨q, vs, rfl, .inr rfl, c4, RepVs.sub sb _ _ c5⟩)
      · obtain ⟨b, h1, h2, h3⟩ := e2.ob id o h
        exact ⟨b, h1, fun z => z.elim h2 fun z => c3 id (z ▸ h1), h3.same sb rfl⟩
      · rcases h with h | h
        · exact e2.frz b h
        · subst h; exact ⟨_, c4, trivial⟩
    | d kvs =>
      rcases c1 with ⟨ks, c4, c5⟩ | ⟨ks, c4, c5⟩
      · refine .inr ⟨q, _, c4, trivial, fun od => ?_⟩
        obtain ⟨s, x, rr⟩ := frzS (z := z) e2 c4 trivial trivial trivial c2 c3 nz od
        exact h ⟨u.ρ, fun b => u.F b ∨ b = q, upd u.H q (.frz od (.dK ks)), u.h⟩ rfl x rr _ ⟨q, rfl, .inr rfl, .inl ⟨ks, ⟨od, upd_same⟩, RepK.sub s _ _ c5⟩⟩
      · refine .inr ⟨q, _, c4, trivial, fun od => ?_⟩
        obtain ⟨s, x, rr⟩ := frzS (z := z) e2 c4 trivial trivial trivial c2 c3 nz od
        exact h ⟨u.ρ, fun b => u.F b ∨ b = q, upd u.H q (.frz od (.dT ks)), u.h⟩ rfl x rr _ ⟨q, rfl, .inr rfl, .inr ⟨ks, ⟨od, upd_same⟩, c5.1, RepT.sub s _ _ c5.2⟩⟩
  unfold sRetA at e4
  split at e4
  · rename_i hj; exact fin hj rfl e4
  · rename_i hj; exact fin hj rfl e4
  · exact (RunS.bad e4).elim
/-- x op= e -/
def rA2 (g : Gx) (l : Lx) (o : Bin) : TIp := rB2 g l fun h => opAug h o
theorem ip_any : ∀ o : Bin, PIp X o.op (rA2 g l o) := by
  intro o pins s σ H x y v w Q I rx ry ⟨W, σ', u, vx, vy, e, hr, bx, by', h⟩
  subst e
  have h : Run g l W σ' (RepV l) Q u (lift (opAug u.h o vx vy) u.h) := h
  cases hq : opAug u.h o vx vy with
  | none => rw [hq] at h; exact (Run.bad h).elim
  | some z =>
    rw [hq] at h
    unfold opAug at hq
    split at hq
    · cases hq
      exact iop_add pins s σ _ _ _ _ _ Q I rx ry ⟨_, _, bx, by', Run.here h rfl hr rfl⟩
    · cases hq
      exact iop_sub pins s σ _ _ _ _ _ Q I rx ry ⟨_, _, bx, by', Run.here h rfl hr rfl⟩
    · split at hq
      · rename_i hb
        rw [Bool.or_eq_true] at hb
        cases hq
        exact iop_mul pins s σ _ _ _ _ _ Q I rx ry ⟨_, _, bx, by', hb.elim (fun z => .inl (smallZ_ok z)) (fun z => .inr (smallZ_ok z)), Run.here h rfl hr rfl⟩
      · cases hq
    · cases hq
theorem ss_aug (o : Bin) (i : Nat) (hN : X.N.Nodup) (ha : SB g l X W ea a) (hi : X.N[i]? = some x := by rfl) (hx : Loc X.env.scope x := by first | exact Or.inl rfl | exact Or.inr rfl) (hf : X.fn x = true ∨ X.env.scope.names.lookup x = some .local := by first | exact .inl rfl | exact .inr rfl) :
    SS g l X W (.AugAssign (.Name x pos') o.op ea pos) (sAug o i a) := by
  refine PS.weak (ps_aug hN hi hx ha (ip_any (g := g) (l := l) o) hf) fun D σ H ⟨z, u, fr, e1, e2, e3, e4⟩ => ?_
  rw [← e1]
  unfold sAug at e4
  split at e4
  · rename_i old hj
    have hl : i < σ.length := by rw [← e3.len]; exact (List.getElem?_eq_some_iff.mp hj).1
    obtain ⟨y, q1, q2⟩ := e3.sl i _ σ[i] hj (by simp [hl])
    refine ⟨y, by rw [List.getElem?_eq_getElem hl, q1], ?_⟩
    refine tE.firstS e2 e3 e4 fun u1 t w x1 r1 f1 rt h1 => ?_
    cases hq : opAug u1.h o old t with
    | none => rw [hq] at h1; exact (RunS.bad h1).elim
    | some r =>
      rw [hq] at h1
      refine ⟨W, σ, u1, old, t, rfl, r1, (q2.ext x1 e2).b r1, rt, ?_⟩
      show Run g l W σ (RepV l) _ u1 (lift (opAug u1.h o old t) u1.h)
      rw [hq]
      exact fun u2 eh x2 r2 v rv => h1 u2 _ eh (x2.s z) r2 ((f1.ext x2 r1).setV rv)
  · exact (RunS.bad e4).elim

/-! ### several at once -/
/-- an item: fresh since u0, alive at u1 -/
def ItP (l : Lx) (u0 u1 u : Vw) (s : Sl) (v : V) : Prop := match s with
  | .val x => RepV l u x v
  | s => s.isAc ∧ ∃ a, v = .ref a ∧ gone u0.H a ∧ ¬ gone u1.H a ∧ SlR l u s (some (.ref a))
def RepP (l : Lx) (u : Vw) : Vw → List (Nat × Sl) → List V → Prop
  | _, [], vs => vs = []
  | u0, (i, s) :: r, vs => ∃ v t u1, vs = v :: t ∧ Ext u0 u1 ∧ ItP l u0 u1 u s v ∧ RepP l u u1 r t
theorem ItP.ext {u0 u1 u u' : Vw} {s : Sl} {v : V} (h : ItP l u0 u1 u s v) (e : Ext u u') (r : HR g l u) : ItP l u0 u1 u' s v := by
  cases s with
  | val x => exact RepV.ext h e r
  | no => exact h.1.elim
  | acl k xs =>
    obtain ⟨_, q, e1, e2, e3, sl⟩ := h
    refine ⟨trivial, q, e1, e2, e3, ?_⟩
    obtain ⟨b, vs, q1, q2, q3, q4, q5⟩ := sl
    cases q1
    exact ⟨q, vs, rfl, e.keep q _ q2 q5 (fun ps z => by cases z), q3.ext e r, fun z => (e.Fn q z).elim q4 (not_gone q2), fun id z => (e.ρn id q z).elim (q5 id) (not_gone q2)⟩
  | acd k kvs =>
    obtain ⟨_, q, e1, e2, e3, sl⟩ := h
    refine ⟨trivial, q, e1, e2, e3, ?_⟩
    have al := sl.alive trivial
    have nn : (∀ id, u.ρ id ≠ some q) ∧ ¬ u.F q := by
      cases k with
      | zero => obtain ⟨b, q1, _, q4, q5⟩ := sl; cases q1; exact ⟨q5, q4⟩
      | succ k => obtain ⟨b, q1, _, q4, q5⟩ := sl; cases q1; exact ⟨q5, q4⟩
    refine sl.sub (e.sub r) fun _ b eb => ?_
    cases eb
    refine ⟨?_, fun z => (e.Fn q z).elim id fun z => absurd z al, fun id z => (e.ρn id q z).elim (fun z => z) fun z => absurd z al⟩
    cases ho : u.H q with
    | none => exact absurd (gone_none ho) al
    | some o =>
      refine e.keep q o ho nn.1 fun ps z => ?_
      subst z
      cases k with
      | zero => obtain ⟨b, q1, q2, _⟩ := sl; cases q1; rcases q2 with ⟨_, q, _⟩ | ⟨_, q, _⟩ <;> (rw [ho] at q; cases q)
      | succ k => obtain ⟨b, q1, q2, _⟩ := sl; cases q1; rcases q2 with ⟨_, _, q, _⟩ | ⟨_, _, q, _⟩ <;> (rw [ho] at q; cases q)
/-- all stored, one after another -/
theorem store_all {z : Hp} {u : Vw} : ∀ {ps : List (Nat × Sl)} {vs : List V} {u0 : Vw} {fr : Fr} {σ : Pk.St}, RepP l u u0 ps vs → FR l z u fr σ → (∀ a, gone u0.H a → gone z a) → (∀ (j : Nat) s b, fr[j]? = some s → s.isAc → σ[j]? = some (some (.ref b)) → ¬ gone u0.H b) →
    FR l z u (ps.foldl (fun f p => f.set p.1 p.2) fr) ((ps.zip vs).foldl (fun f p => f.set p.1.1 (some p.2)) σ)
  | [], _, _, _, _, h, f, _, _ => by rw [show _ = [] from h]; exact f
  | (i, s) :: r, _, u0, fr, σ, ⟨v, t, u1, e, x1, hi, hr⟩, f, lz, al => by
    subst e
    show FR l z u (r.foldl _ (fr.set i s)) ((r.zip t).foldl _ (σ.set i (some v)))
    have lz1 : ∀ a, gone u1.H a → gone z a := fun a h => lz a (x1.live a h)
    have al1 : ∀ (j : Nat) s b, fr[j]? = some s → s.isAc → σ[j]? = some (some (.ref b)) → ¬ gone u1.H b := fun j s b h1 k h2 q => al j s b h1 k h2 (x1.live b q)
    cases s with
    | val x =>
      refine store_all hr (f.setV hi) lz1 fun j s b h1 k h2 => ?_
      by_cases q : i = j
      · subst q
        by_cases hl : i < fr.length
        · rw [List.getElem?_set_self hl] at h1; cases h1; exact k.elim
        · rw [List.getElem?_eq_none (by rw [List.length_set]; omega)] at h1; cases h1
      · rw [List.getElem?_set_ne q] at h1 h2
        exact al1 j s b h1 k h2
    | no => exact hi.1.elim
    | acl k xs =>
      obtain ⟨_, q, e1, e2, e3, sl⟩ := hi
      subst e1
      refine store_all hr (f.setO trivial sl (lz q e2) fun j s _ h1 k h2 => absurd e2 (al j s q h1 k h2)) lz1 fun j s b h1 k h2 => ?_
      by_cases qq : i = j
      · subst qq
        by_cases hl : i < σ.length
        · rw [List.getElem?_set_self hl] at h2; cases h2; exact e3
        · rw [List.getElem?_eq_none (by rw [List.length_set]; omega)] at h2; cases h2
      · rw [List.getElem?_set_ne qq] at h1 h2
        exact al1 j s b h1 k h2
    | acd k xs =>
      obtain ⟨_, q, e1, e2, e3, sl⟩ := hi
      subst e1
      refine store_all hr (f.setO trivial sl (lz q e2) fun j s _ h1 k h2 => absurd e2 (al j s q h1 k h2)) lz1 fun j s b h1 k h2 => ?_
      by_cases qq : i = j
      · subst qq
        by_cases hl : i < σ.length
        · rw [List.getElem?_set_self hl] at h2; cases h2; exact e3
        · rw [List.getElem?_eq_none (by rw [List.length_set]; omega)] at h2; cases h2
      · rw [List.getElem?_set_ne qq] at h1 h2
        exact al1 j s b h1 k h2
/-- the values of a row of parts -/
def tPts (g : Gx) (l : Lx) (W : WX) (ps : List Pt) : TA := fun σ H Q => ∃ z u fr, u.H = H ∧ HR g l u ∧ FR l z u fr σ ∧ Run g l W σ (fun w => RepP l w u) Q u (parE ps fr u.h)
abbrev SP (g : Gx) (l : Lx) (X : Cx) (W : WX) (es : List Expr) (ps : List Pt) : Prop := PA X es (tPts g l W ps)
theorem sp_nil : SP g l X W [] [] := PA.weak pa_nil fun σ H Q ⟨z, u, fr, e1, e2, e3, e4⟩ => by rw [← e1]; exact Run.here e4 rfl e2 rfl
theorem RepP.ext {u u' : Vw} (e : Ext u u') (r : HR g l u) : ∀ {ps : List (Nat × Sl)} {vs : List V} {u0 : Vw}, RepP l u u0 ps vs → RepP l u' u0 ps vs
  | [], _, _, h => h
  | (i, s) :: ps, _, _, ⟨v, t, u1, h1, h2, h3, h4⟩ => ⟨v, t, u1, h1, h2, h3.ext e r, RepP.ext e r h4⟩
theorem sp_v (i : Nat) {es : List Expr} {ps : List Pt} (h : SE g l X W ea a) (hr : SP g l X W es ps) (hs : starEach (ea :: es) X.env = (false, eval ea X.env) :: starEach es X.env := by rfl) : SP g l X W (ea :: es) (.v i a :: ps) := by
  refine PA.weak (pa_cons h hr hs) fun σ H Q ⟨z, u, fr, e1, e2, e3, e4⟩ => ?_
  rw [← e1]
  have e4 : Run g l W σ (fun w => RepP l w u) Q u ((a fr u.h).bind fun x h1 => (parE ps fr h1).bind fun xs h2 => .ok ((i, .val x) :: xs) h2) := e4
  refine tE.first e2 e3 e4 fun u1 y v x1 r1 f1 ry h1 => ?_
  refine ⟨z, u1, fr, rfl, r1, f1, Run.weak (Run.bind0 (rep := fun w => RepP l w u1) h1) (fun _ _ _ _ _ h => h) fun vs H1 ⟨u2, ys, q1, x2, r2, q3, q4⟩ => ?_⟩
  rw [← q1]
  exact q4.at_ x2 rfl r2 ⟨v, vs, u1, rfl, x1, ry.ext x2 r1, q3⟩
theorem sp_o (i : Nat) {es : List Expr} {ps : List Pt} {f : CF} (h : SF g l X W ea f) (hr : SP g l X W es ps) (hs : starEach (ea :: es) X.env = (false, eval ea X.env) :: starEach es X.env := by rfl) : SP g l X W (ea :: es) (.o i f :: ps) := by
  refine PA.weak (pa_cons h hr hs) fun σ H Q ⟨z, u, fr, e1, e2, e3, e4⟩ => ?_
  rw [← e1]
  have e4 : Run g l W σ (fun w => RepP l w u) Q u ((f fr u.h).bind fun x h1 => (parE ps fr h1).bind fun xs h2 => .ok ((i, x.sl) :: xs) h2) := e4
  refine ⟨z, u, fr, rfl, e2, e3, Run.weak (Run.bind (rep := RepN l u) e4) (fun _ _ _ _ _ h => h) fun v H1 ⟨u1, y, q0, x1, r1, ry, h1⟩ => ?_⟩
  rw [← q0]
  refine ⟨z, u1, fr, rfl, r1, e3.ext x1 e2, Run.weak (Run.bind0 (rep := fun w => RepP l w u1) h1) (fun _ _ _ _ _ h => h) fun vs H1 ⟨u2, ys, q1, x2, r2, q3, q4⟩ => ?_⟩
  rw [← q1]
  have sl : ∃ q, v = .ref q ∧ gone u.H q ∧ SlR l u1 y.sl (some (.ref q)) := by
    obtain ⟨q, e, h0, _⟩ := id ry
    subst e
    exact ⟨q, rfl, h0, ry.sl⟩
  obtain ⟨q, e, h0, s1⟩ := sl
  have it : ItP l u u1 u1 y.sl v := by
    cases y with
    | l xs => exact ⟨trivial, q, e, h0, s1.alive trivial, s1⟩
    | d xs => exact ⟨trivial, q, e, h0, s1.alive trivial, s1⟩
  exact q4.at_ x2 rfl r2 ⟨v, vs, u1, rfl, x1, it.ext x2 r1, q3⟩
theorem tP.firstS {ps : List Pt} {k : List (Nat × Sl) → Hv → Res Out} {σ : Pk.St} {u : Vw} {z : Hp} {D : Ends} {fr : Fr} {Q' : List V → Hp → Prop} (hr : HR g l u) (hf : FR l z u fr σ)
    (h : RunS g l W z D u ((parE ps fr u.h).bind k)) (hq : ∀ u1 x v, Ext u u1 → HR g l u1 → FR l z u1 fr σ → RepP l u1 u x v → RunS g l W z D u1 (k x u1.h) → Q' v u1.H) : tPts g l W ps σ u.H Q' :=
  ⟨z, u, fr, rfl, hr, hf, Run.weak (RunS.bind h) (fun _ _ _ _ _ h => h) fun _ _ ⟨u1, x, e1, e2, e3, e4, e5⟩ => e1 ▸ hq u1 x _ e2 e3 (hf.ext e2 hr) e4 e5⟩
theorem parE_idx : ∀ {ps : List Pt} {fr : Fr} {h h' : Hv} {xs : List (Nat × Sl)}, parE ps fr h = .ok xs h' → xs.map (·.1) = ps.map (fun p => match p with | .v i _ => i | .o i _ => i)
  | [], _, _, _, _, e => by cases e; rfl
  | .v i c :: r, fr, h, _, _, e => by
    unfold parE at e
    cases q : c fr h with
    | ok x h1 =>
      rw [q] at e
      have e : (parE r fr h1).bind _ = _ := e
      cases q2 : parE r fr h1 with
      | ok xs h2 => rw [q2] at e; cases e; rw [List.map_cons, List.map_cons, parE_idx q2]
      | exc _ _ => rw [q2] at e; cases e
      | bad => rw [q2] at e; cases e
    | exc _ _ => rw [q] at e; cases e
    | bad => rw [q] at e; cases e
  | .o i c :: r, fr, h, _, _, e => by
    unfold parE at e
    cases q : c fr h with
    | ok x h1 =>
      rw [q] at e
      have e : (parE r fr h1).bind _ = _ := e
      cases q2 : parE r fr h1 with
      | ok xs h2 => rw [q2] at e; cases e; rw [List.map_cons, List.map_cons, parE_idx q2]
      | exc _ _ => rw [q2] at e; cases e
      | bad => rw [q2] at e; cases e
    | exc _ _ => rw [q] at e; cases e
    | bad => rw [q] at e; cases e
end
end Pk

set_option maxRecDepth 100000
/-! Pk16: a, b = x, y; unpacking; get, count, index, f-strings. -/
namespace Pk
open PySem PySem.Spec PyProof.Rows L2

section
variable {g : Gx} {l : Lx} {X : Cx} {W : WX} {tg ea eb ec : Expr} {a b c : C} {pos pos' pos2 p p2 px py pz pt apos cpos : Pos} {x y : Str} {sa sb : CS} {st : Stmt} {rest : List Stmt}
def Pt.ix : Pt → Nat
  | .v i _ => i
  | .o i _ => i
theorem tP.first2 {ps : List Pt} {σ : Pk.St} {u : Vw} {z : Hp} {D : Ends} {fr : Fr} {Q' : List V → Hp → Prop} (hr : HR g l u) (hf : FR l z u fr σ)
    (h : RunS g l W z D u (sPar ps fr u.h)) (hq : ∀ (u1 : Vw) (xs : List (Nat × Sl)) (vs : List V), Ext u u1 → HR g l u1 → FR l z u1 (xs.foldl (fun f p => f.set p.1 p.2) fr) ((xs.zip vs).foldl (fun f p => f.set p.1.1 (some p.2)) σ) → xs.map (·.1) = ps.map Pt.ix → xs.length = vs.length → RunS g l W z D u1 (.ok (.nx (xs.foldl (fun f p => f.set p.1 p.2) fr)) u1.h) → Q' vs u1.H) : tPts g l W ps σ u.H Q' := by
  have h : RunS g l W z D u ((parE ps fr u.h).bind fun xs h1 => .ok (.nx (xs.foldl (fun f p => f.set p.1 p.2) fr)) h1) := h
  refine ⟨z, u, fr, rfl, hr, hf, ?_⟩
  cases e : parE ps fr u.h with
  | exc c hh => rw [e] at h; exact fun u1 e1 x1 r1 => h u1 σ e1 (x1.s z) r1
  | bad => rw [e] at h; exact h
  | ok xs hh =>
    rw [e] at h
    intro u1 e1 x1 r1 vs rv
    have len : ∀ {u0 : Vw} {xs : List (Nat × Sl)} {vs : List V}, RepP l u1 u0 xs vs → xs.length = vs.length := by
      intro u0 xs
      induction xs generalizing u0 with
      | nil => intro vs h; rw [show vs = [] from h]; rfl
      | cons p r ih => obtain ⟨i, s⟩ := p; intro vs ⟨v, t, w, h1, _, _, h2⟩; rw [h1, List.length_cons, List.length_cons, ih h2]
    have ix : xs.map (·.1) = ps.map Pt.ix := by
      rw [parE_idx e]
      rfl
    refine hq u1 xs vs x1 r1 (store_all rv (hf.ext x1 hr) hf.live fun j s b h1 k h2 => (hf.sl j s _ h1 h2).alive k) ix (len rv) ?_
    rw [e1]
    exact RunS.mono (x1.s z) h
/-- two plain local names -/
theorem ss_par2 {p1 p2 : Pt} {i j : Nat} {kt k2 pt2} (hc : X.calm = true) (hN : X.N.Nodup) (ha : SP g l X W [ea, eb] [p1, p2]) (hp : [p1, p2].map Pt.ix = [i, j] := by rfl) (hij : i ≠ j := by decide) (hi : X.N[i]? = some x := by rfl) (hj : X.N[j]? = some y := by rfl)
    (hx : X.env.scope.names.lookup x = some .local := by rfl) (hy : X.env.scope.names.lookup y = some .local := by rfl)
    (hw : swappedStores [.Tuple [.Name x px, .Name y py] kt pt] (.Tuple [ea, eb] k2 pt2) X.env = pure (some [x, y]) := by rfl)
    (hs : swapsWithSole [.Tuple [.Name x px, .Name y py] kt pt] (.Tuple [ea, eb] k2 pt2) pos.line X.env = pure false := by rfl) :
    SS g l X W (.Assign [.Tuple [.Name x px, .Name y py] kt pt] (.Tuple [ea, eb] k2 pt2) pos) (sPar [p1, p2]) := by
  refine PS.weak (ps_par hc hN hi hj hij hx hy ha hw hs) fun D σ H ⟨z, u, fr, e1, e2, e3, e4⟩ => ?_
  rw [← e1]
  refine tP.first2 e2 e3 e4 fun u1 xs vs x1 r1 f1 ix len h1 => ?_
  rw [hp] at ix
  match xs, vs, ix, len with
  | [(i', s1), (j', s2)], [v, w], ix, _ =>
    have e1 : i' = i := by simpa using (List.cons.inj ix).1
    have e2 : j' = j := by simpa using (List.cons.inj (List.cons.inj ix).2).1
    subst e1 e2
    exact ⟨v, w, rfl, h1 u1 _ rfl (ExS.refl z u1) r1 f1⟩
theorem ss_par3 {p1 p2 p3 : Pt} {zz : Str} {i j k : Nat} {kt k2 pt2} (hc : X.calm = true) (hN : X.N.Nodup) (ha : SP g l X W [ea, eb, ec] [p1, p2, p3]) (hp : [p1, p2, p3].map Pt.ix = [i, j, k] := by rfl) (hij : i ≠ j := by decide) (hik : i ≠ k := by decide) (hjk : j ≠ k := by decide) (hi : X.N[i]? = some x := by rfl) (hj : X.N[j]? = some y := by rfl) (hk : X.N[k]? = some zz := by rfl)
    (hx : X.env.scope.names.lookup x = some .local := by rfl) (hy : X.env.scope.names.lookup y = some .local := by rfl) (hz : X.env.scope.names.lookup zz = some .local := by rfl)
    (hw : swappedStores [.Tuple [.Name x px, .Name y py, .Name zz pz] kt pt] (.Tuple [ea, eb, ec] k2 pt2) X.env = pure (some [x, y, zz]) := by rfl)
    (hs : swapsWithSole [.Tuple [.Name x px, .Name y py, .Name zz pz] kt pt] (.Tuple [ea, eb, ec] k2 pt2) pos.line X.env = pure false := by rfl) :
    SS g l X W (.Assign [.Tuple [.Name x px, .Name y py, .Name zz pz] kt pt] (.Tuple [ea, eb, ec] k2 pt2) pos) (sPar [p1, p2, p3]) := by
  refine PS.weak (L2.ps_par3 hc hN hi hj hk hij hik hjk hx hy hz ha hw hs) fun D σ H ⟨z, u, fr, e1, e2, e3, e4⟩ => ?_
  rw [← e1]
  refine tP.first2 e2 e3 e4 fun u1 xs vs x1 r1 f1 ix len h1 => ?_
  rw [hp] at ix
  match xs, vs, ix, len with
  | [(i', s1), (j', s2), (k', s3)], [v, w, t], ix, _ =>
    have e1 : i' = i := by simpa using (List.cons.inj ix).1
    have e2 : j' = j := by simpa using (List.cons.inj (List.cons.inj ix).2).1
    have e3 : k' = k := by simpa using (List.cons.inj (List.cons.inj (List.cons.inj ix).2).2).1
    subst e1 e2 e3
    exact ⟨v, w, t, rfl, h1 u1 _ rfl (ExS.refl z u1) r1 f1⟩
/-- names, stored from the left -/
def gSets (is : List Nat) : TGs := fun vs σ H Q => vs.length = is.length ∧ Q ((is.zip vs).foldl (fun f p => f.set p.1 (some p.2)) σ) H
theorem gs_nil : PGs X [] (gSets []) := PGs.weak pgs_nil fun v σ H Q ⟨e, h⟩ => by
  cases v with
  | nil => exact ⟨rfl, h⟩
  | cons _ _ => cases e
theorem gs_cons (i : Nat) {es : List Expr} {is : List Nat} (h : PGs X es (gSets is)) (hN : X.N.Nodup) (hi : X.N[i]? = some x := by rfl) (hx : Loc X.env.scope x := by first | exact Or.inl rfl | exact Or.inr rfl) (hf : X.fn x = true ∨ X.env.scope.names.lookup x = some .local := by first | exact .inl rfl | exact .inr rfl)
    (hs : (assignEach (.Name x pos :: es) X.env).map (·.2) = assign (.Name x pos) X.env :: (assignEach es X.env).map (·.2) := by rfl) : PGs X (.Name x pos :: es) (gSets (i :: is)) :=
  PGs.weak (pgs_cons (pg_name hN hi hx hf) h hs) fun v σ H Q ⟨e, h⟩ => by
    cases v with
    | nil => cases e
    | cons w r => exact ⟨w, r, rfl, by simpa using e, h⟩
theorem zip_ix : ∀ {xs : List (Nat × Sl)} {is : List Nat} {vs : List V} {σ : Pk.St}, xs.map (·.1) = is → (is.zip vs).foldl (fun f p => f.set p.1 (some p.2)) σ = (xs.zip vs).foldl (fun f p => f.set p.1.1 (some p.2)) σ
  | [], _, _, _, e => by cases e; rfl
  | p :: r, _, [], _, e => by cases e; rfl
  | p :: r, _, v :: vs, σ, e => by
    cases e
    exact zip_ix (xs := r) rfl
/-- through a tuple -/
theorem ss_parT {ts es : List Expr} {is : List Nat} {ps : List Pt} {n : Nat} {kt k2 pt2} (hc : X.calm = true) (ha : SP g l X W es ps) (hg : PGs X ts (gSets is)) (hp : ps.map Pt.ix = is := by rfl) (hn : (assignEach ts X.env).length = n := by rfl) (hl : is.length = n := by rfl) (hb : n ≤ 100 := by decide) (hst : (assignEach ts X.env).findIdx? (·.1) = none := by rfl)
    (hs : swapsWithSole [.Tuple ts kt pt] (.Tuple es k2 pt2) pos.line X.env = pure false := by rfl) (hw : swappedStores [.Tuple ts kt pt] (.Tuple es k2 pt2) X.env = pure none := by rfl)
    (h1 : (assignEach [.Tuple ts kt pt] X.env).map (·.2) = [assign (.Tuple ts kt pt) X.env] := by rfl) : SS g l X W (.Assign [.Tuple ts kt pt] (.Tuple es k2 pt2) pos) (sPar ps) := by
  refine PS.weak (ps_asg (pe_tup ha) (pg_tup hc hg hn hst) hs hw h1) fun D σ H ⟨z, u, fr, e1, e2, e3, e4⟩ => ?_
  rw [← e1]
  refine tP.first2 e2 e3 e4 fun u1 xs vs x1 r1 f1 ix len h2 => ?_
  rw [hp] at ix
  have ln : vs.length = is.length := by rw [← len, ← ix, List.length_map]
  refine ⟨by rw [ln, hl, sizeLine_eq]; omega, fun q hq => ?_⟩
  obtain ⟨r2, x2⟩ := r1.new (o := .tup vs) hq
  refine ⟨q, vs, rfl, SqT.of upd_same, by rw [ln, hl], ln, ?_⟩
  rw [zip_ix ix]
  exact h2 ⟨u1.ρ, u1.F, upd u1.H q (.tup vs), u1.h⟩ _ rfl (x2.s z) r2 (f1.ext x2 r1)
/-! ### unpacking -/
def gU (K : PySem.W.Frag) (n : Nat) (t : TGs) : TG := fun v σ H Q => gTup K n t v σ H Q ∨ gUnl K n t v σ H Q
theorem ss_unp {ts : List Expr} {is : List Nat} {n : Nat} {kt} (hc : X.calm = true) (ha : SE g l X W ea a) (hg : PGs X ts (gB g l is)) (hn : (assignEach ts X.env).length = n := by rfl) (hl : is.length = n := by rfl) (hst : (assignEach ts X.env).findIdx? (·.1) = none := by rfl)
    (hs : swapsWithSole [.Tuple ts kt pt] ea pos.line X.env = pure false := by rfl) (hw : swappedStores [.Tuple ts kt pt] ea X.env = pure none := by rfl)
    (h1 : (assignEach [.Tuple ts kt pt] X.env).map (·.2) = [assign (.Tuple ts kt pt) X.env] := by rfl) : SS g l X W (.Assign [.Tuple ts kt pt] ea pos) (sUnp is a) := by
  have hG : PG X (.Tuple ts kt pt) (gU X.K n (gB g l is)) := ⟨fun pins s σ H v u Q I r h => h.elim ((pg_tup hc hg hn hst).run pins s σ H v u Q I r) ((pg_unl hc hg hn hst).run pins s σ H v u Q I r)⟩
  refine PS.weak (ps_asg ha hG hs hw h1) fun D σ H ⟨z, u, fr, e1, e2, e3, e4⟩ => ?_
  rw [← e1]
  refine tE.firstS e2 e3 e4 fun u1 y v x1 r1 f1 ry h2 => ?_
  have len : ∀ {is : List Nat} {ys : List Val} {fr f1 : Fr}, bindAll is ys fr = some f1 → ys.length = is.length := by
    intro is
    induction is with
    | nil => intro ys fr f1 h; cases ys with | nil => rfl | cons _ _ => cases h
    | cons i is ih =>
      intro ys fr f1 h
      cases ys with
      | nil => cases h
      | cons y r => rw [List.length_cons, List.length_cons, ih (show bindAll is r _ = some f1 from h)]
  cases hq : seqOf u1.h y with
  | none => rw [hq] at h2; exact (RunS.bad h2).elim
  | some xs =>
    rw [hq] at h2
    cases hb : bindAll is xs fr with
    | none => dsimp only at h2; rw [hb] at h2; exact (RunS.bad h2).elim
    | some f2 =>
      dsimp only at h2
      rw [hb] at h2
      obtain ⟨q, vs, e5, e6, e7⟩ := seqOf_rep r1 (ry.b r1) hq
      have ln : vs.length = n := by rw [← e7.length, len hb, hl]
      have fin : gB g l is vs σ u1.H D.nx := ⟨z, u1, fr, xs, f2, rfl, r1, f1, e7, hb, fun σ' f' _ => h2 u1 σ' rfl (ExS.refl z u1) r1 f'⟩
      exact e6.elim (fun e6 => .inr ⟨q, vs, e5, SqL.of e6, ln, fin⟩) fun e6 => .inl ⟨q, vs, e5, SqT.of e6, ln, fin⟩

/-! ### d.get(k, x) -/
def tGetX (td ty tx : TE) : TE := fun σ H Q => td σ H fun x H1 => ∃ a, x = .ref a ∧ IsD H1 a ∧ ty σ H1 fun y H2 => tx σ H2 fun z H3 => ∃ o, DGX H3 a y o ∧ Q (o.getD z) H3
theorem pe_getX {o e f : Expr} {td ty tx : TE} (hu : X.A.units + 1 < cLine) (ho : PE X o td) (he : PE X e ty) (hf : PE X f tx) (m : M2 X o "get" apos e f cpos) : PE X (.Call (.Attribute o "get" apos) [e, f] [] cpos) (tGetX td ty tx) := by
  refine ⟨fun pins s σ H Q I h => ?_⟩
  refine wpAny_Call_method m.base m.few m.line PySem.F.plainAttrs_dict PySem.F.slot_dict_get PySem.F.type_dict_get (thn (ho.run pins s σ H _ I h) fun u s1 ⟨x, H1, I1, rx, a, ex, d, q1⟩ => ?_)
  subst ex
  obtain rfl : u = Value.ref a := rx
  obtain ⟨t1, t2, _⟩ := isD_at I1 d
  refine ⟨t1, t2, ?_⟩
  rw [m.trees]
  refine Calls.callWith_builtin rfl (Calls.evalArgs_plain (Calls.spliced_cons (thn (he.run pins s1 σ H1 _ I1 q1) fun iv s2 ⟨y, H2, I2, ry, q2⟩ =>
    Calls.spliced_cons (thn (hf.run pins s2 σ H2 _ I2 q2) fun fv s3 ⟨z, H3, I3, rz, ov, g, q3⟩ => Calls.spliced_nil ?_))))
  exact x_get2 hu I3 g ry rz fun w' s4 I4 rw' => ⟨_, H3, I4, rw', q3⟩
theorem DctR.isD {u : Vw} {q : Addr} {kvs : List (Val × Val)} (h : DctR l u q kvs) : IsD u.H q := h.elim (fun ⟨ks, h, _⟩ => .inl ⟨ks, h⟩) fun ⟨ks, h, _⟩ => .inr ⟨ks, h⟩
theorem se_get (hu : X.A.units + 65 < cLine) (ha : SB g l X W ea a) (hb : SE g l X W eb b) (hc : SE g l X W ec c) (m : M2 X ea "get" apos eb ec cpos := by exact ⟨rfl, rfl, rfl, rfl⟩) : SE g l X W (.Call (.Attribute ea "get" apos) [eb, ec] [] cpos) (cGet a b c) := by
  refine PE.weak (pe_getX (by omega) ha hb hc m) fun σ H Q ⟨z, u, fr, e1, e2, e3, e4⟩ => ?_
  rw [← e1]
  have e4 : Run g l W σ (RepV l) Q u ((a fr u.h).bind fun dv h1 => match dctOf h1 dv with | none => .bad | some _ => (b fr h1).bind fun kv h2 => (c fr h2).bind fun xv h3 => match dctOf h3 dv with | some kvs => if keyOk kvs kv then .ok ((dget kvs kv).getD xv) h3 else .bad | none => .bad) := e4
  refine tE.first e2 e3 e4 fun u1 dv v x1 r1 f1 rd h1 => ?_
  cases hd : dctOf u1.h dv with
  | none => rw [hd] at h1; exact (Run.bad h1).elim
  | some kv0 =>
    rw [hd] at h1
    obtain ⟨q, e5, e6⟩ := dctOf_rep r1 rd hd
    refine ⟨q, e5, e6.isD, ?_⟩
    refine tE.first r1 f1 h1 fun u2 kv w x2 r2 f2 rk h2 => ?_
    refine tE.first r2 f2 h2 fun u3 xv t x3 r3 f3 rt h3 => ?_
    have rd3 := RepB.ext x3 r2 (RepB.ext x2 r1 rd)
    have rk3 := RepB.ext x3 r2 (rk.b r2)
    cases hd3 : dctOf u3.h dv with
    | none => rw [hd3] at h3; exact (Run.bad h3).elim
    | some kvs =>
      rw [hd3] at h3
      dsimp only at h3
      split at h3
      · rename_i hk
        obtain ⟨q', e7, e8⟩ := dctOf_rep r3 rd3 hd3
        rw [e5] at e7
        cases e7
        obtain ⟨o, e9, e10⟩ := dct_get e8 hk rk3
        refine ⟨o, e9, ?_⟩
        cases ho : dget kvs kv with
        | none => rw [ho] at h3 e10; rw [show o = none from e10]; exact Run.here h3 rfl r3 rt
        | some y =>
          rw [ho] at h3 e10
          obtain ⟨y', q1, q2⟩ := e10
          rw [q1]
          exact Run.here h3 rfl r3 q2
      · exact (Run.bad h3).elim
end
end Pk

set_option maxRecDepth 100000
/-! Pk17: count, f-strings. -/
namespace Pk
open PySem PySem.Spec PyProof.Rows L2

section
variable {g : Gx} {l : Lx} {X : Cx} {W : WX} {tg ea eb ec : Expr} {a b c : C} {pos pos' pos2 p p2 px py pz pt apos cpos : Pos} {x y : Str} {sa sb : CS} {st : Stmt} {rest : List Stmt}
theorem looked_ok {x : Val} {xs : List Val} (h : looked x xs = true) : x.data = true ∧ datas xs = true ∧ x.dep ≤ 40 ∧ deps xs ≤ 40 := by
  unfold looked at h
  simp only [Bool.and_eq_true, decide_eq_true_eq] at h
  exact ⟨h.1.1.1, h.1.1.2, h.1.2, h.2⟩
theorem cntE_eq (x : Val) (hx : x.data = true) : ∀ xs : List Val, datas xs = true → cntE x xs = (toDs xs).countP fun d => PyData.eqv d (toD x)
  | [], _ => rfl
  | y :: r, h => by
    have h : (y.data && datas r) = true := h
    rw [Bool.and_eq_true] at h
    show (if y.eqv x then _ else _) = (toD y :: toDs r).countP _
    rw [List.countP_cons, cntE_eq x hx r h.2, toD_eqv y x h.1 hx]
    cases y.eqv x <;> simp
def rCntV (g : Gx) (l : Lx) : V → List V → Hp → VK → Prop := fun x xs H Q => ∃ (u : Vw) (q : Addr) (ws : List V) (y : V) (ys : List Val) (vy : Val), x = .ref q ∧ xs = [y] ∧ u.H = H ∧ H q = some (.lst ws) ∧ RepVs l u ys ws ∧ RepB l u vy y ∧ looked vy ys = true ∧ Q (.int (cntE vy ys : Nat)) H
theorem mt_cntV (hu : X.A.units + 65 < cLine) : MtR X "list.count" (rCntV g l) := by
  intro pins s σ H x xs v us Q I rx rxs ⟨u, q, ws, y, ys, vy, e1, e2, e3, e4, e5, e6, e7, hq⟩
  subst e1 e2 e3
  cases (show v = Value.ref q from rx)
  obtain ⟨w, rfl, ru⟩ := rxs.one
  obtain ⟨d1, d2, p1, p2⟩ := looked_ok e7
  obtain ⟨its, rv, ⟨⟨cls, dd, data, sl⟩, n, ho, hc, hdn, hd⟩, hlen⟩ := I.list (SqL.of (K := X.K) e4)
  simp only at hc hd
  subst hc hd
  obtain ⟨bs, r1⟩ := Dp.reads I (toD vy) y w (e6.dp d1) ru
  obtain ⟨as, r2⟩ := Dp.readsAll I (toDs ys) ws its (RepVs.dp ys ws e5 d2) rv
  refine call_meets PySem.F.slot_list_count ⟨_, ho, rfl⟩ PySem.F.entry_list_count (PySem.F.args_list_count_2 _ _)
    (SeqAt.list_countAt q its.toArray n dd sl w fun z => PyData.eqv (SeqAt.readOf s.heap z) (toD vy)) ⟨ho, SeqAt.items_plain (vs := its.toArray) (show ReadsAll s.heap its.toArray.toList (toDs ys) as from r2) r1 (toDs_plain ys) (toD_plain vy) (by rw [toDs_dep, toD_dep]; omega), ?_⟩
  have hm : its.map (SeqAt.readOf s.heap) = toDs ys := SeqAt.readsAll_map_plain (toDs ys) its as (toDs_plain ys) r2
  refine ⟨.int (cntE vy ys : Nat), u.H, I.tok _, ⟨s.toks, ?_⟩, hq⟩
  rw [cntE_eq vy d1 ys d2, ← hm, List.countP_map]
  rfl
theorem se_count (hu : X.A.units + 65 < cLine) (ha : SE g l X W ea a) (hb : SE g l X W eb b) (hbase : attributeBase ea "count" X.env (eval ea X.env) = eval ea X.env := by rfl)
    (hfew : ((backTo cpos (starEach (eb :: []) X.env)).all (fun x => !x.1) && (backToKw cpos (keywordEach [] X.env)).all (fun x => x.1.isSome) && decide ((eb :: []).length + ([] : List Keyword).length + (if ([] : List Keyword).isEmpty then 0 else 1) < 30)) = true := by rfl)
    (hline : (apos.endLine == cpos.line) = true := by rfl) (hs : starEach (eb :: []) X.env = (false, eval eb X.env) :: starEach [] X.env := by rfl) (hplain : (backTo cpos (starEach [] X.env)).any (·.1) = false := by rfl) :
    SE g l X W (.Call (.Attribute ea "count" apos) [eb] [] cpos) (cCount a b) := by
  refine PE.weak (pe_bm PySem.F.plainAttrs_list PySem.F.slot_list_count PySem.F.type_list_count (mt_cntV (g := g) (l := l) hu) ha (pa_cons hb pa_nil hs) hbase hfew hline hs hplain) fun σ H Q ⟨z, u, fr, e1, e2, e3, e4⟩ => ?_
  rw [← e1]
  refine tE.first e2 e3 e4 fun u1 av v x1 r1 f1 rd h1 => ?_
  cases hd : lstOf u1.h av with
  | none => rw [hd] at h1; exact (Run.bad h1).elim
  | some ys =>
    rw [hd] at h1
    obtain ⟨q, vs, e5, e6, e7⟩ := lstOf_rep r1 (rd.b r1) hd
    refine ⟨by rw [e5]; exact .inl ⟨rfl, vs, SqL.of e6⟩, ?_⟩
    refine tE.first r1 f1 h1 fun u2 xv w x2 r2 f2 rk h2 => ?_
    cases hd2 : lstOf u2.h av with
    | none => rw [hd2] at h2; exact (Run.bad h2).elim
    | some zs =>
      rw [hd2] at h2
      obtain ⟨q2, ws, k1, k2, k3⟩ := lstOf_rep r2 ((rd.ext x2 r1).b r2) hd2
      dsimp only at h2
      cases hc : cntV xv zs with
      | none => rw [hc] at h2; exact (Run.bad h2).elim
      | some n =>
        rw [hc] at h2
        unfold cntV at hc
        split at hc
        · rename_i hl
          cases hc
          exact ⟨u2, q2, ws, w, zs, xv, k1, rfl, rfl, k2, k3, rk.b r2, hl, Run.here h2 rfl r2 rfl⟩
        · cases hc

/-! ### f-strings -/
theorem se_fv (ha : SE g l X W ea a) : SE g l X W (.FormattedValue ea (-1) none pos) (cFv a) := by
  refine PE.weak (pe_fmt ha) fun σ H Q ⟨z, u, fr, e1, e2, e3, e4⟩ => ?_
  rw [← e1]
  refine tE.first e2 e3 e4 fun u1 y v x1 r1 f1 ry h1 => ?_
  cases y with
  | str t =>
    dsimp only at h1
    split at h1
    · rename_i hb
      exact .inl ⟨t, ry, le_line hb, Run.here h1 rfl r1 rfl⟩
    · exact (Run.bad h1).elim
  | int i =>
    dsimp only at h1
    split at h1
    · rename_i hb
      exact .inr ⟨i, ry, hb, Run.here h1 rfl r1 rfl⟩
    · exact (Run.bad h1).elim
  | _ => exact (Run.bad h1).elim
/-- the parts -/
inductive SJ (g : Gx) (l : Lx) (X : Cx) (W : WX) : List Expr → List C → Prop
  | nil : SJ g l X W [] []
  | cons {e : Expr} {c : C} {es : List Expr} {cs : List C} : SE g l X W e c → SJ g l X W es cs → SJ g l X W (e :: es) (c :: cs)
def tJ (g : Gx) (l : Lx) (W : WX) (cs : List C) : List TE := cs.map fun c => tE g l W (RepV l) c
theorem SJ.pj {es : List Expr} {cs : List C} (h : SJ g l X W es cs) : PJ X es (tJ g l W cs) := by
  induction h with
  | nil => exact .nil
  | cons h _ ih => exact .cons h ih
theorem fmt_run {σ : Pk.St} {Q : VK} : ∀ {cs : List C} {acc : Str} {z : Hp} {u : Vw} {fr : Fr}, HR g l u → FR l z u fr σ → Run g l W σ (RepV l) Q u (fmtL cs acc fr u.h) → tJs (tJ g l W cs) acc σ u.H fun out H1 => Q (.str out) H1
  | [], acc, z, u, fr, r, f, h => Run.here h rfl r rfl
  | c :: cs, acc, z, u, fr, r, f, h => by
    have h : Run g l W σ (RepV l) Q u ((c fr u.h).bind fun x h1 => match x with | .str y => if (acc ++ y).length ≤ big then fmtL cs (acc ++ y) fr h1 else .bad | _ => .bad) := h
    refine tE.first r f h fun u1 y v x1 r1 f1 ry h1 => ?_
    cases y with
    | str t =>
      dsimp only at h1
      split at h1
      · rename_i hb
        exact ⟨t, ry, le_line hb, fmt_run r1 f1 h1⟩
      · exact (Run.bad h1).elim
    | _ => exact (Run.bad h1).elim
theorem se_fmt {e1 e2 : Expr} {es : List Expr} {cs : List C} (h : SJ g l X W (e1 :: e2 :: es) cs) : SE g l X W (.JoinedStr (e1 :: e2 :: es) pos) (cFmt cs) :=
  PE.weak (pe_joined h.pj) fun σ H Q ⟨z, u, fr, q1, q2, q3, q4⟩ => by rw [← q1]; exact fmt_run q2 q3 q4
end
end Pk

set_option maxRecDepth 100000
/-! Pk18: list comprehensions of one clause. -/
namespace Pk
open PySem PySem.Spec PyProof.Rows L2

section
variable {g : Gx} {l : Lx} {u u1 v : Vw}
/-- what came after u1 is changed -/
theorem Ext.fresh {D : Addr} {o o' : HO} (e : Ext u1 v) (h0 : u1.H D = none) (hD : v.H D = some o) (nn : ∀ id, v.ρ id ≠ some D) : Ext u1 ⟨v.ρ, v.F, upd v.H D o', v.h⟩ where
  ρm := e.ρm
  ρn := e.ρn
  Fm := e.Fm
  Fn := e.Fn
  keep := fun a x h n m => (upd_ne (fun z => by rw [z, h0] at h; cases h)).trans (e.keep a x h n m)
  live := fun a h => by
    by_cases q : a = D
    · subst q; exact gone_none h0
    · exact e.live a fun x hx => h x ((upd_ne q).trans hx)
  lock := fun id x a h1 h2 h3 => by
    obtain ⟨h4, h5⟩ := e.lock id x a h1 h2 h3
    exact ⟨h4, (upd_ne (fun (z : a = D) => nn id (z ▸ e.ρm id a h3))).trans h5⟩
  len := e.len
theorem FR.wipe {z : Hp} {fr : Fr} {σ : Pk.St} (f : FR l z u fr σ) : ∀ vs : List Nat, FR l z u (wipeF fr vs) (wipe σ vs)
  | [] => f
  | i :: vs => by
    have f := FR.wipe f vs
    have out : ∀ {m : Nat} {s : Sl}, ((wipeF fr vs).set i .no)[m]? = some s → s.isAc → i ≠ m := fun {m s} h k q => by
      subst q
      by_cases hl : i < (wipeF fr vs).length
      · rw [List.getElem?_set_self hl] at h; cases h; exact k
      · rw [List.getElem?_eq_none (by rw [List.length_set]; omega)] at h; cases h
    refine ⟨f.live, ?_, fun j s a h1 k h2 => ?_, fun j s v h1 h2 => ?_, fun j k s t w h1 h2 k1 k2 h3 h4 => ?_⟩
    · show ((wipeF fr vs).set i .no).length = ((L2.wipe σ vs).set i none).length
      rw [List.length_set, List.length_set]; exact f.len
    · have n := out h1 k
      have h1 : ((wipeF fr vs).set i .no)[j]? = some s := h1
      have h2 : ((L2.wipe σ vs).set i none)[j]? = _ := h2
      rw [List.getElem?_set_ne n] at h1 h2
      exact f.own j s a h1 k h2
    · have h1 : ((wipeF fr vs).set i .no)[j]? = some s := h1
      have h2 : ((L2.wipe σ vs).set i none)[j]? = some v := h2
      by_cases q : i = j
      · subst q
        by_cases hl : i < (wipeF fr vs).length
        · rw [List.getElem?_set_self hl] at h1; cases h1; trivial
        · rw [List.getElem?_eq_none (by rw [List.length_set]; omega)] at h1; cases h1
      · rw [List.getElem?_set_ne q] at h1 h2
        exact f.sl j s v h1 h2
    · have n1 := out h1 k1
      have n2 := out h2 k2
      have h1 : ((wipeF fr vs).set i .no)[j]? = some s := h1
      have h2 : ((wipeF fr vs).set i .no)[k]? = some t := h2
      have h3 : ((L2.wipe σ vs).set i none)[j]? = some w := h3
      have h4 : ((L2.wipe σ vs).set i none)[k]? = some w := h4
      rw [List.getElem?_set_ne n1] at h1 h3
      rw [List.getElem?_set_ne n2] at h2 h4
      exact f.apart j k s t w h1 h2 k1 k2 h3 h4
theorem wipe_wipe : ∀ (vs : List Nat) (σ : Pk.St), L2.wipe (L2.wipe σ vs) vs = L2.wipe σ vs
  | [], _ => rfl
  | v :: r, σ => by
    show (L2.wipe ((L2.wipe σ r).set v none) r).set v none = (L2.wipe σ r).set v none
    rw [wipe_set, wipe_wipe r σ]
/-- no error is taken -/
def W0 : WX := fun _ _ _ _ => False
/-- the first part runs calmly; what follows is told of an earlier view -/
theorem Run.calm0 {α β α' β' : Type} {W : WX} {σ σ' : Pk.St} {rep : Vw → α → β → Prop} {rep' : Vw → α' → β' → Prop} {Q : β' → Hp → Prop} {r : Res α} {k : α → Hv → Res α'} (e : Ext u v) (h : Run g l W σ rep' Q u (r.calm.bind k)) :
    Run g l W0 σ' rep (fun w H1 => ∃ u1 x, u1.H = H1 ∧ Ext v u1 ∧ HR g l u1 ∧ rep u1 x w ∧ Run g l W σ rep' Q u (k x u1.h)) v r := by
  cases r with
  | ok x hh => exact fun u1 q e1 r1 w rv => ⟨u1, x, rfl, e1, r1, rv, by rw [q]; exact h⟩
  | exc c hh => exact (Run.bad h).elim
  | bad => exact h
end
section
variable {g : Gx} {l : Lx} {X : Cx} {W : WX} {tg ea eb ec elt iter : Expr} {a b c e : C} {pos pos' pos2 p p2 : Pos} {x : Str} {it : CI} {t : Tg} {cnd : Option C} {ifs : List Expr}
abbrev SIE (g : Gx) (l : Lx) (X : Cx) (W : WX) (tg e : Expr) (it : CI) : Prop := PI X tg e (tI g l W (Src g l) it)
theorem SI.toE (h : SI g l X W tg ea it) : SIE g l X W tg ea it := PI.weak h fun σ H R ⟨z, u, fr, e1, e2, e3, e4⟩ => by
  refine ⟨z, u, fr, e1, e2, e3, ?_⟩
  cases q : it fr u.h with
  | ok p hh => rw [q] at e4; exact fun u' h1 h2 h3 J ⟨Al, k1, k2⟩ => e4 u' h1 h2 h3 J ⟨Al, k1.toSrc, k2⟩
  | exc c hh => rw [q] at e4; exact e4
  | bad => rw [q] at e4; exact e4
/-- an own list, walked by an expression -/
theorem si_own (ha : SB g l X W ea a) : SIE g l X W tg ea (iSeq a) := by
  refine ⟨fun pins s σ H R I ⟨z, u, fr, e1, e2, e3, e4⟩ => ?_⟩
  rw [← e1] at I
  refine thn (ha.run pins s σ u.H (fun v H1 => ∃ u1 y, u1.H = H1 ∧ HR g l u1 ∧ RepB l u1 y v ∧ RunI g l W σ (Src g l) R u1 (match seqOf u1.h y with | some xs => .ok (xs, idOf y) u1.h | none => .bad)) I (tE.firstI e2 e3 e4 fun u1 y v x1 r1 f1 rx h1 => ⟨u1, y, rfl, r1, rx, h1⟩)) fun v s1 ⟨w, H1, I1, rw1, u1, y, q1, r1, rx, h1⟩ => ?_
  subst q1
  cases hs : seqOf u1.h y with
  | none => rw [hs] at h1; exact (RunI.bad h1).elim
  | some xs =>
    rw [hs] at h1
    have lst : ∀ q vs, w = .ref q → u1.H q = some (.lst vs) → SrcAt (Src g l) u1 (Itl X.K q) xs (idOf y) → wpAny (model X.prog X.w) X.A (pyIter v) (PIE X pins σ tg R) X.xe s1 := fun q vs e5 k1 k2 => by
      subst e5
      cases (show v = Value.ref q from rw1)
      obtain ⟨its, rv, p, hz⟩ := I1.list (SqL.of k1)
      refine wpAny_pyIter_list p.isList ?_
      refine ⟨s1.heap.objs.size, [s1.heap.objs.size], _, _, u1.H, rfl, I1.kept (t' := s1.toks) fun b o e => Heap.get?_push_of_some _ e, turn_list q _, ⟨_, Heap.get?_push_size _ rfl, rfl, rfl⟩, fun b hb => ?_, h1 u1 rfl (Ext.refl u1) r1 _ k2⟩
      have e : b = s1.heap.objs.size := by simpa using hb
      subst e
      exact I1.fpOk (Nat.le_refl _) (I1.hok.fresh (Nat.le_refl _))
    have oth : RepV l u1 y w → wpAny (model X.prog X.w) X.A (pyIter v) (PIE X pins σ tg R) X.xe s1 := fun rx => by
      obtain ⟨q, e5, ⟨⟨vs, k1⟩, Al, k2, k3⟩ | ⟨⟨vs, k1⟩, Al, k2, k3⟩⟩ := src_seq (K := X.K) r1 rx hs
      · exact lst q vs e5 k1 ⟨Al, k2.toSrc, k3⟩
      · subst e5
        cases (show v = Value.ref q from rw1)
        obtain ⟨its, rv, p, hz⟩ := I1.tuple (SqT.of k1)
        refine wpAny_pyIter_tuple (show s1.heap.IsTuple q its.toArray from p) ?_
        refine ⟨s1.heap.objs.size, [s1.heap.objs.size], _, _, u1.H, rfl, I1.kept (t' := s1.toks) fun b o e => Heap.get?_push_of_some _ e, turn_tuple q _, ⟨_, Heap.get?_push_size _ rfl, rfl, rfl⟩, fun b hb => ?_, h1 u1 rfl (Ext.refl u1) r1 _ ⟨Al, k2.toSrc, k3⟩⟩
        have e : b = s1.heap.objs.size := by simpa using hb
        subst e
        exact I1.fpOk (Nat.le_refl _) (I1.hok.fresh (Nat.le_refl _))
    cases y with
    | lst ys =>
      obtain ⟨q, vs, k1, k2, k3, k4⟩ := rx
      cases hs
      refine lst q vs k1 k2 ⟨fun w => (∀ id, w.ρ id ≠ some q) ∧ ∃ vs, w.H q = some (.lst vs) ∧ RepVs l w xs vs, src_lst (fun u al _ => al.2) (fun u u' ⟨n, vs, h1, h2⟩ r e => ⟨fun id z => (e.ρn id q z).elim (n id) (not_gone h1), vs, e.keep q _ h1 n (fun ps z => by cases z), h2.ext e r⟩), trivial, k4, vs, k2, k3⟩
    | dct kvs => cases hs
    | tup ys => exact oth rx
    | ref id => exact oth rx
    | non => cases hs
    | bl k => cases hs
    | int k => cases hs
    | str k => cases hs
    | lam k => cases hs
/-- a clause's test -/
def tC (g : Gx) (l : Lx) (cnd : Option C) : TT := match cnd with
  | none => tYes
  | some c => tT g l W0 c
/-- [e for x in it if c] -/
theorem comp_ends {u0 : Vw} {σ : Pk.St} {Q : VK} {lk : Option Nat} {r : Res (List Val)} (hr : HR g l u0) (hk : LkL u0 lk) {uS : Vw} (h : Run g l W σ (RepN l uS) Q u0 (r.calm.bind fun ys h2 => if ys.length ≤ big then .ok (.l ys) (unlockO h2 lk) else .bad)) :
    Run g l W0 σ (fun w ys v => ys.length ≤ big ∧ RepN l uS w (.l ys) v) Q (lockV u0 lk) r ∧ ∃ ys h2, r = .ok ys h2 ∧ ys.length ≤ big := by
  cases r with
  | exc c hh => exact (Run.bad h).elim
  | bad => exact (Run.bad h).elim
  | ok ys hh =>
    have h : Run g l W σ (RepN l uS) Q u0 (if ys.length ≤ big then .ok (.l ys) (unlockO hh lk) else .bad) := h
    split at h
    · rename_i hb
      refine ⟨fun u' e' x' r' v ⟨_, n⟩ => ?_, ys, hh, rfl, hb⟩
      obtain ⟨k', x2⟩ := x'.unlock hr hk
      refine h (unlockV u' lk) (by show unlockO u'.h lk = _; rw [e']) x2 (r'.unlock k') v ?_
      obtain ⟨q, e1, e2, e3, e4, e5⟩ := n
      exact ⟨q, e1, e2, e3, e4, e5.sub Sub.h rfl⟩
    · exact (Run.bad h).elim
theorem compL_len {fr : Fr} : ∀ {xs : List Val} {h h' : Hv} {ys : List Val}, compL t cnd e fr xs h = .ok ys h' → ys.length ≤ xs.length := by
  intro xs
  induction xs with
  | nil => intro h h' ys q; cases q; exact Nat.le_refl _
  | cons x xs ih =>
    intro h h' ys q
    unfold compL at q
    split at q
    · cases q
    · cases q1 : tstO cnd _ h with
      | exc _ _ => rw [q1] at q; cases q
      | bad => rw [q1] at q; cases q
      | ok b h1 =>
        rw [q1] at q
        cases b with
        | bl k =>
          cases k with
          | false => exact Nat.le_succ_of_le (ih q)
          | true =>
            rename_i f1 _
            have q : ((e f1 h1).calm.bind fun y h2 => (compL t cnd e fr xs h2).bind fun ys h3 => .ok (y :: ys) h3) = .ok ys h' := q
            cases q2 : (e f1 h1).calm with
            | exc _ _ => rw [q2] at q; cases q
            | bad => rw [q2] at q; cases q
            | ok y h2 =>
              rw [q2] at q
              have q : ((compL t cnd e fr xs h2).bind fun ys h3 => .ok (y :: ys) h3) = .ok ys h' := q
              cases q3 : compL t cnd e fr xs h2 with
              | exc _ _ => rw [q3] at q; cases q
              | bad => rw [q3] at q; cases q
              | ok zs h3 => rw [q3] at q; cases q; exact Nat.succ_le_succ (ih q3)
        | _ => cases q
/-- the rest of a row, one item made already -/
theorem Run.more {base : Vw} {σ : Pk.St} {Q : VK} {rep : List Val → Vw → V → Prop} {done : List Val} {y : Val} {r : Res (List Val)} (h : Run g l W0 σ (fun w ys v => rep (done ++ ys) w v) Q base (r.bind fun ys h3 => .ok (y :: ys) h3)) :
    Run g l W0 σ (fun w ys v => rep ((done ++ [y]) ++ ys) w v) Q base r := by
  cases r with
  | ok ys hh => exact fun u' e x' r' v hv => h u' e x' r' v (by have hv : rep ((done ++ [y]) ++ ys) u' v := hv; rw [List.append_assoc] at hv; exact hv)
  | exc c hh => exact h
  | bad => exact h
theorem lc_read {σ : Pk.St} {H : Hp} {Q : VK} (h : tF g l W (fComp t it cnd e) σ H Q) : tLc (tI g l W (Src g l) it) (gT g l t) (tC g l cnd) (tE g l W0 (RepV l) e) t.ixs σ H Q := by
  obtain ⟨z, u, fr, e1, e2, e3, e4⟩ := h
  refine ⟨z, u, fr, e1, e2, e3, ?_⟩
  have e4 : Run g l W σ (RepN l u) Q u ((it fr u.h).bind _) := e4
  cases hit : it fr u.h with
  | exc c hh => rw [hit] at e4; exact e4
  | bad => rw [hit] at e4; exact e4
  | ok q hh =>
    obtain ⟨xs, lk⟩ := q
    rw [hit] at e4
    intro u1 eh x1 r1 J ⟨Al, hS, hk, hal⟩ D hD
    have f1 : FR l z (lockV u1 lk) (wipeF fr t.ixs) (wipe σ t.ixs) := ((e3.ext x1 e2).wipe t.ixs).h
    have rb := r1.lock hk
    have e4 : Run g l W σ (RepN l u) Q u1 ((compL t cnd e (wipeF fr t.ixs) xs (lockV u1 lk).h).calm.bind fun ys h2 => if ys.length ≤ big then .ok (.l ys) (unlockO h2 lk) else .bad) := by
      have := Run.mono x1 e4
      rw [← eh] at this
      exact this
    obtain ⟨e4, elen⟩ := comp_ends r1 hk e4
    generalize hb : lockV u1 lk = b at f1 rb e4 elen hal
    have hD : b.H D = none := by rw [← hb]; exact hD
    have hH : u1.H = b.H := by rw [← hb]; rfl
    have hz : gone z D := f1.live D (gone_none hD)
    have h0 : gone u.H D := x1.live D (gone_none (by rw [hH]; exact hD))
    have nn : ∀ w : Vw, HR g l w → Ext b w → (∀ o, w.H D = some o → ∀ id, w.ρ id ≠ some D) → True := fun _ _ _ _ => trivial
    refine ⟨fun i m H => ∃ v acc done, v.H = H ∧ HR g l v ∧ Ext b v ∧ v.H D = some (.lst acc) ∧ RepVs l v done acc ∧ ¬ v.F D ∧ (∀ id, v.ρ id ≠ some D) ∧ m = xs.length - i ∧ i ≤ xs.length ∧ done.length ≤ i ∧
      (∃ ys h2, compL t cnd e (wipeF fr t.ixs) (xs.drop i) v.h = .ok ys h2 ∧ (done ++ ys).length ≤ big) ∧
      Run g l W0 σ (fun w ys vv => (done ++ ys).length ≤ big ∧ RepN l u w (.l (done ++ ys)) vv) Q b (compL t cnd e (wipeF fr t.ixs) (xs.drop i) v.h), ⟨xs.length, ?_⟩, ?_⟩
    · obtain ⟨r2, x2, n2⟩ := repN_new (l := l) (o := .lst []) (c := .l []) rb hD fun u' x e => ⟨[], e, rfl⟩
      obtain ⟨q, eq, _, nF, nR, _⟩ := n2
      cases eq
      exact ⟨⟨b.ρ, b.F, upd b.H D (.lst []), b.h⟩, [], [], by rw [hH], r2, x2, upd_same, rfl, nF, nR, by simp, Nat.zero_le _, Nat.zero_le _, elen, e4⟩
    · rintro i m H' ⟨v, acc, done, rfl, rv, xv, hDv, rd, nF, nR, rfl, hi, hdl, hln, h⟩
      have al := hS.keep b v hal rb xv
      by_cases hlt : i < xs.length
      · have ei : xs[i]? = some xs[i] := by simp [hlt]
        rw [List.drop_eq_getElem_cons hlt] at h hln
        refine .inr ⟨hS.go v i _ al rv ei, fun H2 => ∃ m', m' < xs.length - i ∧ ∃ v acc done, v.H = H2 ∧ HR g l v ∧ Ext b v ∧ v.H D = some (.lst acc) ∧ RepVs l v done acc ∧ ¬ v.F D ∧ (∀ id, v.ρ id ≠ some D) ∧ m' = xs.length - (i + 1) ∧ i + 1 ≤ xs.length ∧ done.length ≤ i + 1 ∧
            (∃ ys h2, compL t cnd e (wipeF fr t.ixs) (xs.drop (i + 1)) v.h = .ok ys h2 ∧ (done ++ ys).length ≤ big) ∧
            Run g l W0 σ (fun w ys vv => (done ++ ys).length ≤ big ∧ RepN l u w (.l (done ++ ys)) vv) Q b (compL t cnd e (wipeF fr t.ixs) (xs.drop (i + 1)) v.h), fun H2 h => h, fun yv H2 hy => ?_⟩
        obtain ⟨w, rfl, ew, xw, rw', ry⟩ := hS.yld v i _ yv H2 al rv ei hy
        have xbw := xv.trans xw
        have fw := f1.ext xbw rb
        rw [← ew] at h hln
        unfold compL at h hln
        cases hbd : t.bind xs[i] (wipeF fr t.ixs) with
        | none => rw [hbd] at h; exact (Run.bad h).elim
        | some f2 =>
          rw [hbd] at h hln
          refine ⟨z, w, wipeF fr t.ixs, xs[i], f2, rfl, rw', fw, ry, hbd, fun σ3 f3 hw => ⟨hw.trans (wipe_wipe _ _), ?_⟩⟩
          -- the test
          have keepD : ∀ {u2 : Vw}, Ext w u2 → u2.H D = some (.lst acc) ∧ ¬ u2.F D ∧ (∀ id, u2.ρ id ≠ some D) ∧ RepVs l u2 done acc := fun {u2} x2 => by
            have k1 : w.H D = some (.lst acc) := xw.keep D _ hDv nR (fun ps z => by cases z)
            have k2 : ∀ id, w.ρ id ≠ some D := fun id z => (xw.ρn id D z).elim (nR id) (not_gone hDv)
            have k3 : ¬ w.F D := fun z => (xw.Fn D z).elim nF (not_gone hDv)
            exact ⟨x2.keep D _ k1 k2 (fun ps z => by cases z), fun z => (x2.Fn D z).elim k3 (not_gone k1), fun id z => (x2.ρn id D z).elim (k2 id) (not_gone k1), (rd.ext xw rv).ext x2 rw'⟩
          have go : ∀ (u2 : Vw) (k : Bool) (Hq : Hp), u2.H = Hq → Ext w u2 → HR g l u2 → FR l z u2 f2 σ3 →
              (∃ ys h2, (match Val.bl k with | .bl true => (e f2 u2.h).calm.bind fun y h2 => (compL t cnd e (wipeF fr t.ixs) (xs.drop (i + 1)) h2).bind fun ys h3 => .ok (y :: ys) h3 | .bl false => compL t cnd e (wipeF fr t.ixs) (xs.drop (i + 1)) u2.h | _ => .bad) = .ok ys h2 ∧ (done ++ ys).length ≤ big) →
              Run g l W0 σ (fun w ys vv => (done ++ ys).length ≤ big ∧ RepN l u w (.l (done ++ ys)) vv) Q b (match Val.bl k with | .bl true => (e f2 u2.h).calm.bind fun y h2 => (compL t cnd e (wipeF fr t.ixs) (xs.drop (i + 1)) h2).bind fun ys h3 => .ok (y :: ys) h3 | .bl false => compL t cnd e (wipeF fr t.ixs) (xs.drop (i + 1)) u2.h | _ => .bad) →
              (if k = true then tE g l W0 (RepV l) e σ3 Hq fun y H4 => ∃ acc, H4 D = some (.lst acc) ∧ acc.length < sizeLine ∧ ∃ m', m' < xs.length - i ∧ ∃ v acc' done, v.H = upd H4 D (.lst (acc ++ [y])) ∧ HR g l v ∧ Ext b v ∧ v.H D = some (.lst acc') ∧ RepVs l v done acc' ∧ ¬ v.F D ∧ (∀ id, v.ρ id ≠ some D) ∧ m' = xs.length - (i + 1) ∧ i + 1 ≤ xs.length ∧ done.length ≤ i + 1 ∧
                (∃ ys h2, compL t cnd e (wipeF fr t.ixs) (xs.drop (i + 1)) v.h = .ok ys h2 ∧ (done ++ ys).length ≤ big) ∧
                Run g l W0 σ (fun w ys vv => (done ++ ys).length ≤ big ∧ RepN l u w (.l (done ++ ys)) vv) Q b (compL t cnd e (wipeF fr t.ixs) (xs.drop (i + 1)) v.h)
               else ∃ m', m' < xs.length - i ∧ ∃ v acc done, v.H = Hq ∧ HR g l v ∧ Ext b v ∧ v.H D = some (.lst acc) ∧ RepVs l v done acc ∧ ¬ v.F D ∧ (∀ id, v.ρ id ≠ some D) ∧ m' = xs.length - (i + 1) ∧ i + 1 ≤ xs.length ∧ done.length ≤ i + 1 ∧
                (∃ ys h2, compL t cnd e (wipeF fr t.ixs) (xs.drop (i + 1)) v.h = .ok ys h2 ∧ (done ++ ys).length ≤ big) ∧
                Run g l W0 σ (fun w ys vv => (done ++ ys).length ≤ big ∧ RepN l u w (.l (done ++ ys)) vv) Q b (compL t cnd e (wipeF fr t.ixs) (xs.drop (i + 1)) v.h)) := by
            intro u2 k Hq eq2 x2 r2 f4 hln h
            subst eq2
            have xb2 := xbw.trans x2
            cases k with
            | false =>
              rw [if_neg (by decide)]
              obtain ⟨k1, k2, k3, k4⟩ := keepD x2
              exact ⟨_, by omega, u2, acc, done, rfl, r2, xb2, k1, k4, k2, k3, rfl, hlt, by omega, hln, h⟩
            | true =>
              rw [if_pos rfl]
              refine ⟨z, u2, f2, rfl, r2, f4, ?_⟩
              have h : Run g l W0 σ (fun w ys vv => (done ++ ys).length ≤ big ∧ RepN l u w (.l (done ++ ys)) vv) Q b ((e f2 u2.h).calm.bind fun y h2 => (compL t cnd e (wipeF fr t.ixs) (xs.drop (i + 1)) h2).bind fun ys h3 => .ok (y :: ys) h3) := h
              cases he : e f2 u2.h with
              | exc c hh => rw [he] at h; exact (Run.bad h).elim
              | bad => rw [he] at h; exact (Run.bad h).elim
              | ok y hh =>
                rw [he] at h
                intro u3 e3' x3 r3 yv' ry'
                obtain ⟨k1, k2, k3, k4⟩ := keepD (x2.trans x3)
                have xb3 := xb2.trans x3
                have h : Run g l W0 σ (fun w ys vv => (done ++ ys).length ≤ big ∧ RepN l u w (.l (done ++ ys)) vv) Q b ((compL t cnd e (wipeF fr t.ixs) (xs.drop (i + 1)) hh).bind fun ys h3 => .ok (y :: ys) h3) := h
                have hm := Run.more (rep := fun zs w vv => zs.length ≤ big ∧ RepN l u w (.l zs) vv) h
                obtain ⟨ys0, h0', q0, l0⟩ := hln
                have q0 : ((e f2 u2.h).calm.bind fun y h2 => (compL t cnd e (wipeF fr t.ixs) (xs.drop (i + 1)) h2).bind fun ys h3 => .ok (y :: ys) h3) = .ok ys0 h0' := q0
                rw [he] at q0
                have q0 : ((compL t cnd e (wipeF fr t.ixs) (xs.drop (i + 1)) hh).bind fun ys h3 => .ok (y :: ys) h3) = .ok ys0 h0' := q0
                have nb : ∃ ys h2, compL t cnd e (wipeF fr t.ixs) (xs.drop (i + 1)) hh = .ok ys h2 ∧ ((done ++ [y]) ++ ys).length ≤ big := by
                  cases q : compL t cnd e (wipeF fr t.ixs) (xs.drop (i + 1)) hh with
                  | ok ys h2 => rw [q] at q0; cases q0; exact ⟨_, _, rfl, by rw [List.append_assoc]; exact l0⟩
                  | exc _ _ => rw [q] at q0; cases q0
                  | bad => rw [q] at q0; cases q0
                have dl : (done ++ [y]).length ≤ big := by
                  obtain ⟨ys, h2, q, lq⟩ := nb
                  rw [List.length_append] at lq
                  omega
                refine ⟨acc, k1, ?_, _, by omega, ⟨u3.ρ, u3.F, upd u3.H D (.lst (acc ++ [yv'])), u3.h⟩, acc ++ [yv'], done ++ [y], rfl, (r3.own (o' := .lst (acc ++ [yv'])) k3 k2 hz k1 trivial trivial trivial).1, xb3.fresh hD k1 k3, upd_same, ?_, k2, k3, rfl, hlt, by rw [List.length_append, List.length_singleton]; omega, ?_, ?_⟩
                · rw [← k4.length, sizeLine_eq]
                  rw [List.length_append, List.length_singleton] at dl
                  have : big = 1000000 := rfl
                  omega
                · have st : Sub u3 ⟨u3.ρ, u3.F, upd u3.H D (.lst (acc ++ [yv'])), u3.h⟩ := Sub.upd k1 trivial k2
                  exact RepVs.append (RepVs.sub st _ _ k4) (RepVs.one (RepV.sub st _ _ ry'))
                · show ∃ ys h2, compL t cnd e (wipeF fr t.ixs) (xs.drop (i + 1)) u3.h = .ok ys h2 ∧ _
                  rw [e3']; exact nb
                · show Run g l W0 σ _ Q b (compL t cnd e (wipeF fr t.ixs) (xs.drop (i + 1)) u3.h)
                  rw [e3']; exact hm
          cases cnd with
          | none => exact go w true _ rfl (Ext.refl w) rw' f3 hln h
          | some c =>
            refine ⟨z, w, f2, rfl, rw', f3, ?_⟩
            have h : Run g l W0 σ (fun w ys vv => (done ++ ys).length ≤ big ∧ RepN l u w (.l (done ++ ys)) vv) Q b ((c f2 w.h).calm.bind _) := h
            have hln : ∃ ys h2, ((c f2 w.h).calm.bind _) = .ok ys h2 ∧ (done ++ ys).length ≤ big := hln
            cases hcc : c f2 w.h with
            | exc q hh => rw [hcc] at h; exact (Run.bad h).elim
            | bad => rw [hcc] at h; exact (Run.bad h).elim
            | ok y hh =>
              rw [hcc] at h hln
              cases y with
              | bl k =>
                intro u2 e2' x2 r2 k' rk
                obtain rfl : k' = k := rk
                exact go u2 k' _ rfl x2 r2 (f3.ext x2 rw') (by rw [e2']; exact hln) (by rw [e2']; exact h)
              | _ => exact (Run.bad h).elim
      · have ei : i = xs.length := by omega
        subst ei
        rw [List.drop_length] at h hln
        obtain ⟨ys0, h0', q0, hl⟩ := hln
        cases q0
        exact .inl ⟨hS.stop v al rv, h v rfl xv rv (.ref D) ⟨hl, D, rfl, h0, nF, nR, acc, hDv, by rw [List.append_nil]; exact rd⟩⟩
theorem sf_comp {scope : Scope} {own : List (Str × Nat)} (hc : X.calm = true) (hN : X.N.Nodup) (hi : SIE g l X W tg iter it) (ok : BlkOk X.N X.env.scope scope own) (ho : own.map (·.2) = t.ixs)
    (hg : ∀ (s : Shared) (H : Hp) (C : Addr) (cl : List (Str × Addr)) (fp : List Addr), PG (X.blk s H scope (compEnvC scope cl C X.env) fp) tg (gT g l t))
    (ht : ∀ (s : Shared) (H : Hp) (C : Addr) (cl : List (Str × Addr)) (fp : List Addr), PTs (X.blk s H scope (compEnvC scope cl C X.env) fp) ifs (tC g l cnd))
    (he : ∀ (s : Shared) (H : Hp) (C : Addr) (cl : List (Str × Addr)) (fp : List Addr), SE g l (X.blk s H scope (compEnvC scope cl C X.env) fp) W0 elt e)
    (hs : ∀ x, foldedSetIterable iter X.env x = pure x := by intro _; rfl) : SF g l X W (.ListComp elt [⟨tg, iter, ifs, 0⟩] scope pos) (fComp t it cnd e) :=
  PE.weak (pe_lc hc hN hi ok hg ht he hs) fun σ H Q h => by rw [ho]; exact lc_read h
/-- x = [..] on one line, x a local name -/
theorem ss_setLc (i : Nat) {scope : Scope} {own : List (Str × Nat)} {y : Str} {py spos : Pos} (hc : X.calm = true) (hN : X.N.Nodup) (hy : X.N[i]? = some y) (hyl : X.env.scope.names.lookup y = some .local)
    (hsw : swapsWith (.ListComp elt [⟨tg, iter, ifs, 0⟩] scope pos) (some (.Name y py)) spos.line X.env = pure true) (hi : SIE g l X W tg iter it) (ok : BlkOk X.N X.env.scope scope own) (ho : own.map (·.2) = t.ixs)
    (hg : ∀ (s : Shared) (H : Hp) (C : Addr) (cl : List (Str × Addr)) (fp : List Addr), PG (X.blk s H scope (compEnvC scope cl C X.env) fp) tg (gT g l t))
    (ht : ∀ (s : Shared) (H : Hp) (C : Addr) (cl : List (Str × Addr)) (fp : List Addr), PTs (X.blk s H scope (compEnvC scope cl C X.env) fp) ifs (tC g l cnd))
    (he : ∀ (s : Shared) (H : Hp) (C : Addr) (cl : List (Str × Addr)) (fp : List Addr), SE g l (X.blk s H scope (compEnvC scope cl C X.env) fp) W0 elt e)
    (hs : ∀ x, foldedSetIterable iter X.env x = pure x := by intro _; rfl) : SS g l X W (.Assign [.Name y py] (.ListComp elt [⟨tg, iter, ifs, 0⟩] scope pos) spos) (sSet i (cFrz (fComp t it cnd e))) := by
  refine PS.weak (ps_post (ps_setLc hc hN hy hyl hsw hi ok hg ht he hs)) fun D σ H ⟨z, u, fr, e1, e2, e3, e4⟩ => ?_
  rw [ho]
  have e4 : RunS g l W z D u (((fComp t it cnd e fr u.h).bind fun c h1 => .ok c.val h1).bind fun v h1 => .ok (.nx (fr.set i (.val v))) h1) := e4
  refine lc_read (W := W) ⟨z, u, fr, e1, e2, e3, ?_⟩
  cases q : fComp t it cnd e fr u.h with
  | exc c hh => rw [q] at e4; exact fun u1 h1 x1 r1 => e4 u1 σ h1 (x1.s z) r1
  | bad => rw [q] at e4; exact e4
  | ok c hh =>
    rw [q] at e4
    intro u1 eh x1 r1 v n
    rcases n.frz x1 r1 with ⟨u2, k1, k2, k3, k4, k5⟩ | ⟨a, o, h1, h2, h3⟩
    · refine .inl ?_
      rw [← k1]
      exact e4 u2 (σ.set i (some v)) (k2.trans eh) (k3.s z) k4 ((e3.ext k3 e2).setV k5)
    · refine .inr ⟨a, o, h1, h2, fun od => ?_⟩
      obtain ⟨u2, k1, k2, k3, k4, k5⟩ := h3 od
      rw [← k1]
      exact e4 u2 (σ.set i (some v)) (k2.trans eh) (k3.s z) k4 ((e3.ext k3 e2).setV k5)
end
end Pk

set_option maxRecDepth 100000
/-! Pk19: calls of defs, methods, classes; the promise of a def. -/
namespace Pk
open PySem PySem.Spec PyProof.Rows L2

def WK (E : XK) : WX := fun c d _ H => E c d H
/-- the promise of a def: it runs as the code -/
def spO (g : Gx) (np : Nat) (F : List Val → Hv → Res Val) : Sp := fun vs H Q E => vs.length = np ∧ ∃ u xs, u.H = H ∧ HR g Lx.no u ∧ RepVs Lx.no u xs vs ∧ Run g Lx.no (WK E) [] (RepV Lx.no) Q u (F xs u.h)
theorem passes0 {X : Cx} : Passes (L2.CX X.prog X.w) X (fun _ _ _ => False) := fun _ _ _ _ _ _ _ ⟨_, _, _, _, _, _, _, _, _, _, _, _, z⟩ => z.elim
section
variable {g : Gx} {X : Cx} {W : WX} {E : XK} {tg ea eb ec : Expr} {es : List Expr} {a b c : C} {r : CL} {pos pos' pos2 p p2 apos : Pos} {x m : Str} {O : Orc} {f : Nat} {k : Nat} {fa : Addr} {fd : FuncData} {ps : List Str} {dl : List Val} {dvs : List V} {ds : List Value}
theorem run_σ {α β : Type} {l : Lx} {rep : Vw → α → β → Prop} {σ σ' : Pk.St} {Q : β → Hp → Prop} {u : Vw} {r : Res α} (h : Run g l (WK E) σ rep Q u r) : Run g l (WK E) σ' rep Q u r := by cases r <;> exact h
/-- f(..) -/
theorem se_call (F : FnOk X.prog X.w X.K X.mg X.base (L2.CX X.prog X.w) k fa fd ps (spO g ps.length (O f))) (hr : Room k X.A) (hg : Gl X x) (hm : X.mg x = some (.ref fa)) (hk : PySem.W.keepIn X.K (.ref fa) = true) (hb : Binds X.K fd ps ds) (hd : Vals dvs ds) (hv : ∀ u, RepVs Lx.no u dl dvs) (hx : Passes (L2.CX X.prog X.w) X E)
    (ha : SA g Lx.no X (WK E) (ea :: es) r) (hl : (ea :: es).length + dl.length = ps.length := by rfl) (hdb : (x == ("__debug__" : Str)) = false := by decide) (he : starEach (ea :: es) X.env = (false, eval ea X.env) :: starEach es X.env := by rfl) (hpl : (backTo pos (starEach es X.env)).any (·.1) = false := by rfl)
    (hrl : ∀ fr h xs h', r fr h = .ok xs h' → xs.length = (ea :: es).length) : SE g Lx.no X (WK E) (.Call (.Name x p) (ea :: es) [] pos) (cCall O f dl r) := by
  refine PE.weak (pe_call F hr hg hm hk hb hd hx ha hdb he hpl) fun σ H Q ⟨z, u, fr, e1, e2, e3, e4⟩ => ?_
  refine ⟨z, u, fr, e1, e2, e3, ?_⟩
  have e4 : Run g Lx.no (WK E) σ (RepV Lx.no) Q u ((r fr u.h).bind fun xs h1 => O f (xs ++ dl) h1) := e4
  cases q : r fr u.h with
  | exc c hh => rw [q] at e4; exact e4
  | bad => rw [q] at e4; exact e4
  | ok xs hh =>
    rw [q] at e4
    intro u1 eh x1 r1 vs rv
    have e4 : Run g Lx.no (WK E) σ (RepV Lx.no) Q u (O f (xs ++ dl) hh) := e4
    refine ⟨?_, u1, xs ++ dl, rfl, r1, rv.append (hv u1), by rw [eh]; exact run_σ (Run.mono x1 e4)⟩
    rw [List.length_append, ← rv.length, hrl fr u.h xs hh q, ← (hv u1).length]
    exact hl
theorem se_call0 (F : FnOk X.prog X.w X.K X.mg X.base (L2.CX X.prog X.w) k fa fd ps (spO g ps.length (O f))) (hr : Room k X.A) (hg : Gl X x) (hm : X.mg x = some (.ref fa)) (hk : PySem.W.keepIn X.K (.ref fa) = true) (hb : Binds X.K fd ps ds) (hd : Vals dvs ds) (hv : ∀ u, RepVs Lx.no u dl dvs) (hx : Passes (L2.CX X.prog X.w) X E)
    (hl : dl.length = ps.length := by rfl) (hdb : (x == ("__debug__" : Str)) = false := by decide) : SE g Lx.no X (WK E) (.Call (.Name x p) [] [] pos) (cCall O f dl cs0) := by
  refine PE.weak (pe_call0 F hr hg hm hk hb hd hx hdb) fun σ H Q ⟨z, u, fr, e1, e2, e3, e4⟩ => ?_
  rw [← e1]
  refine ⟨?_, u, [] ++ dl, rfl, e2, ?_, run_σ e4⟩
  · rw [List.nil_append, ← (hv u).length]; exact hl
  · rw [List.nil_append]; exact hv u
/-- no field bears the name -/
theorem no_fld {u : Vw} {l : Lx} (hn : ∀ i, i < g.nf → g.fld i ≠ m) : ∀ {fs : List (Nat × Val)} {fs' : List (Str × V)}, RepFs g l u fs fs' → fs'.lookup m = none
  | [], _, h => by rw [show _ = [] from h]; rfl
  | (i, y) :: r, _, ⟨v, s, e, h0, _, h2⟩ => by
    rw [e, List.lookup_cons, show (m == g.fld i) = false by simpa using fun z => hn i h0 z.symm]
    exact no_fld hn h2
/-- o.m(..) -/
theorem se_meth {pl : Sem Bool} {cn : Nat} (kc : ClsOk g X.K) (ho : SE g Lx.no X (WK E) ea a) (hM : Meth X.K (g.cls cn) m fa) (F : FnOk X.prog X.w X.K X.mg X.base (L2.CX X.prog X.w) k fa fd ps (spO g ps.length (O f))) (hr : Room k X.A) (hb : Binds X.K fd ps ds) (hd : Vals dvs ds) (hv : ∀ u, RepVs Lx.no u dl dvs) (hx : Passes (L2.CX X.prog X.w) X E)
    (hn : ∀ i, i < g.nf → g.fld i ≠ m) (ha : SA g Lx.no X (WK E) (eb :: es) r) (hl : (eb :: es).length + dl.length + 1 = ps.length := by rfl)
    (hst : starEach (eb :: es) X.env = (false, eval eb X.env) :: starEach es X.env := by rfl) (hpl : (backTo pos (starEach es X.env)).any (·.1) = false := by rfl) (hrl : ∀ fr h xs h', r fr h = .ok xs h' → xs.length = (eb :: es).length)
    (ht : eval (.Call (.Attribute ea m apos) (eb :: es) [] pos) X.env = (do
      let ov ← eval ea X.env
      standAt apos.atName
      let (f, first) ← holding [ov] (getMethod ov m pl)
      callWith pos f first (backTo pos (starEach (eb :: es) X.env)) (backToKw pos (keywordEach [] X.env))) := by rfl) : SE g Lx.no X (WK E) (.Call (.Attribute ea m apos) (eb :: es) [] pos) (cMeth O cn f dl a r) := by
  refine PE.weak (pe_meth (pl := pl) ho (kc.cls cn) hM F hr hb hd hx ha hst hpl ht) fun σ H Q ⟨z, u, fr, e1, e2, e3, e4⟩ => ?_
  rw [← e1]
  refine tE.first e2 e3 e4 fun u1 y v x1 r1 f1 ry h1 => ?_
  cases y with
  | ref id =>
    obtain ⟨q, e5, e6⟩ := ry
    obtain ⟨o, e7, e8, e9⟩ := r1.at e6
    dsimp only at h1
    rw [e7] at h1
    cases o with
    | ins c fs =>
      dsimp only at h1
      split at h1
      · rename_i ec
        subst ec
        obtain ⟨dx, fs', e10, e11⟩ := e9
        refine ⟨q, dx, fs', e5, e10, no_fld hn e11, z, u1, fr, rfl, r1, f1, ?_⟩
        have h1 : Run g Lx.no (WK E) σ (RepV Lx.no) Q u1 ((r fr u1.h).bind fun xs h2 => O f (.ref id :: (xs ++ dl)) h2) := h1
        cases qq : r fr u1.h with
        | exc c hh => rw [qq] at h1; exact h1
        | bad => rw [qq] at h1; exact h1
        | ok xs hh =>
          rw [qq] at h1
          intro u2 eh x2 r2 vs rv
          have h1 : Run g Lx.no (WK E) σ (RepV Lx.no) Q u1 (O f (.ref id :: (xs ++ dl)) hh) := h1
          refine ⟨?_, u2, .ref id :: (xs ++ dl), rfl, r2, ⟨v, _, rfl, ⟨q, e5, x2.ρm id q e6⟩, rv.append (hv u2)⟩, by rw [eh]; exact run_σ (Run.mono x2 h1)⟩
          rw [List.length_cons, List.length_append, ← rv.length, hrl fr u1.h xs hh qq, ← (hv u2).length]
          exact hl
      · exact (Run.bad h1).elim
    | _ => exact (Run.bad h1).elim
  | _ => exact (Run.bad h1).elim
theorem se_meth0 {pl : Sem Bool} {cn : Nat} (kc : ClsOk g X.K) (ho : SE g Lx.no X (WK E) ea a) (hM : Meth X.K (g.cls cn) m fa) (F : FnOk X.prog X.w X.K X.mg X.base (L2.CX X.prog X.w) k fa fd ps (spO g ps.length (O f))) (hr : Room k X.A) (hb : Binds X.K fd ps ds) (hd : Vals dvs ds) (hv : ∀ u, RepVs Lx.no u dl dvs) (hx : Passes (L2.CX X.prog X.w) X E)
    (hn : ∀ i, i < g.nf → g.fld i ≠ m) (hl : dl.length + 1 = ps.length := by rfl)
    (ht : eval (.Call (.Attribute ea m apos) [] [] pos) X.env = (do
      let ov ← eval ea X.env
      standAt apos.atName
      let (f, first) ← holding [ov] (getMethod ov m pl)
      callWith pos f first (backTo pos (starEach [] X.env)) (backToKw pos (keywordEach [] X.env))) := by rfl) : SE g Lx.no X (WK E) (.Call (.Attribute ea m apos) [] [] pos) (cMeth O cn f dl a cs0) := by
  refine PE.weak (pe_meth0 (pl := pl) ho (kc.cls cn) hM F hr hb hd hx ht) fun σ H Q ⟨z, u, fr, e1, e2, e3, e4⟩ => ?_
  rw [← e1]
  refine tE.first e2 e3 e4 fun u1 y v x1 r1 f1 ry h1 => ?_
  cases y with
  | ref id =>
    obtain ⟨q, e5, e6⟩ := ry
    obtain ⟨o, e7, e8, e9⟩ := r1.at e6
    dsimp only at h1
    rw [e7] at h1
    cases o with
    | ins c fs =>
      dsimp only at h1
      split at h1
      · rename_i ec
        subst ec
        obtain ⟨dx, fs', e10, e11⟩ := e9
        refine ⟨q, dx, fs', e5, e10, no_fld hn e11, ?_⟩
        have h1 : Run g Lx.no (WK E) σ (RepV Lx.no) Q u1 (O f (.ref id :: ([] ++ dl)) u1.h) := h1
        refine ⟨?_, u1, .ref id :: ([] ++ dl), rfl, r1, ⟨v, _, rfl, ⟨q, e5, e6⟩, hv u1⟩, run_σ h1⟩
        rw [List.length_cons, List.nil_append, ← (hv u1).length]
        exact hl
      · exact (Run.bad h1).elim
    | _ => exact (Run.bad h1).elim
  | _ => exact (Run.bad h1).elim
/-- a new instance -/
theorem new_view {u : Vw} {q dx : Addr} {cn : Nat} (r : HR g Lx.no u) (h1 : u.H q = none) (h2 : u.H dx = none) (h3 : dx ≠ q) : ∃ w : Vw, w.H = upd (upd u.H dx (.own q)) q (.ins (g.cls cn) dx []) ∧ w.h = u.h ++ [.ins cn []] ∧ Ext u w ∧ HR g Lx.no w ∧ w.ρ u.h.length = some q := by
  obtain ⟨r1, x1⟩ := r.new (o := .own q) h2
  have hq : upd u.H dx (.own q) q = none := by rw [upd_ne (Ne.symm h3)]; exact h1
  obtain ⟨r2, x2⟩ := r1.newN (p := q) (o := .ins (g.cls cn) dx []) (ob := .ins cn []) hq fun u' _ e => ⟨dx, [], e, rfl⟩
  exact ⟨_, rfl, rfl, x1.trans x2, r2, if_pos rfl⟩
theorem new_fin {u w : Vw} {q : Addr} {σ : Pk.St} {Q : VK} {id : Nat} {r : Res Val} (x : Ext u w) (hq : w.ρ id = some q) (h : Run g Lx.no (WK E) σ (RepV Lx.no) Q u (r.bind fun v h2 => match v with | .non => .ok (.ref id) h2 | _ => .bad)) : Run g Lx.no (WK E) [] (RepV Lx.no) (fun v H2 => v = .non ∧ Q (.ref q) H2) w r := by
  cases r with
  | exc c hh => exact fun u' e x' r' => h u' e (x.trans x') r'
  | bad => exact h
  | ok v hh =>
    cases v with
    | non => exact fun u' e x' r' v rv => ⟨rv, h u' e (x.trans x') r' _ ⟨q, rfl, x'.ρm id q hq⟩⟩
    | _ => exact (Run.bad h).elim
theorem se_new {cn : Nat} (M : Mk X.K (g.cls cn) fa) (F : FnOk X.prog X.w X.K X.mg X.base (L2.CX X.prog X.w) k fa fd ps (spO g ps.length (O f))) (hr : Room (k + 1) X.A) (hg : Gl X x) (hm : X.mg x = some (.ref (g.cls cn))) (hb : Binds X.K fd ps ds) (hd : Vals dvs ds) (hv : ∀ u, RepVs Lx.no u dl dvs) (hx : Passes (L2.CX X.prog X.w) X E)
    (ha : SA g Lx.no X (WK E) (ea :: es) r) (hl : (ea :: es).length + dl.length + 1 = ps.length := by rfl) (hdb : (x == ("__debug__" : Str)) = false := by decide) (he : starEach (ea :: es) X.env = (false, eval ea X.env) :: starEach es X.env := by rfl) (hpl : (backTo pos (starEach es X.env)).any (·.1) = false := by rfl)
    (hrl : ∀ fr h xs h', r fr h = .ok xs h' → xs.length = (ea :: es).length) : SE g Lx.no X (WK E) (.Call (.Name x p) (ea :: es) [] pos) (cNew O cn f dl r) := by
  refine PE.weak (pe_make M F hr hg hm hb hd hx ha hdb he hpl) fun σ H Q ⟨z, u, fr, e1, e2, e3, e4⟩ => ?_
  refine ⟨z, u, fr, e1, e2, e3, ?_⟩
  have e4 : Run g Lx.no (WK E) σ (RepV Lx.no) Q u ((r fr u.h).bind fun xs h1 => (O f (.ref h1.length :: (xs ++ dl)) (h1 ++ [.ins cn []])).bind fun v h2 => match v with | .non => .ok (.ref h1.length) h2 | _ => .bad) := e4
  cases q : r fr u.h with
  | exc c hh => rw [q] at e4; exact e4
  | bad => rw [q] at e4; exact e4
  | ok xs hh =>
    rw [q] at e4
    intro u1 eh x1 r1 vs rv y dx hy hdx hne
    have e4 : Run g Lx.no (WK E) σ (RepV Lx.no) Q u ((O f (.ref hh.length :: (xs ++ dl)) (hh ++ [.ins cn []])).bind fun v h2 => match v with | .non => .ok (.ref hh.length) h2 | _ => .bad) := e4
    obtain ⟨w, k1, k2, k3, k4, k5⟩ := new_view (cn := cn) r1 hy hdx hne
    rw [← eh] at e4
    refine ⟨?_, w, .ref u1.h.length :: (xs ++ dl), k1, k4, ⟨_, _, rfl, ⟨y, rfl, k5⟩, (rv.ext k3 r1).append (hv w)⟩, by rw [k2]; exact new_fin (x1.trans k3) k5 e4⟩
    rw [List.length_cons, List.length_append, ← rv.length, hrl fr u.h xs hh q, ← (hv u1).length]
    exact hl
theorem se_new0 {cn : Nat} (M : Mk X.K (g.cls cn) fa) (F : FnOk X.prog X.w X.K X.mg X.base (L2.CX X.prog X.w) k fa fd ps (spO g ps.length (O f))) (hr : Room (k + 1) X.A) (hg : Gl X x) (hm : X.mg x = some (.ref (g.cls cn))) (hb : Binds X.K fd ps ds) (hd : Vals dvs ds) (hv : ∀ u, RepVs Lx.no u dl dvs) (hx : Passes (L2.CX X.prog X.w) X E)
    (hl : dl.length + 1 = ps.length := by rfl) (hdb : (x == ("__debug__" : Str)) = false := by decide) : SE g Lx.no X (WK E) (.Call (.Name x p) [] [] pos) (cNew O cn f dl cs0) := by
  refine PE.weak (pe_make0 M F hr hg hm hb hd hx hdb) fun σ H Q ⟨z, u, fr, e1, e2, e3, e4⟩ => ?_
  rw [← e1]
  intro y dx hy hdx hne
  have e4 : Run g Lx.no (WK E) σ (RepV Lx.no) Q u ((O f (.ref u.h.length :: ([] ++ dl)) (u.h ++ [.ins cn []])).bind fun v h2 => match v with | .non => .ok (.ref u.h.length) h2 | _ => .bad) := e4
  obtain ⟨w, k1, k2, k3, k4, k5⟩ := new_view (cn := cn) e2 hy hdx hne
  refine ⟨?_, w, .ref u.h.length :: ([] ++ dl), k1, k4, ⟨_, _, rfl, ⟨y, rfl, k5⟩, hv w⟩, by rw [k2]; exact new_fin k3 k5 e4⟩
  rw [List.length_cons, List.nil_append, ← (hv u).length]
  exact hl
end

/-! ### a def keeps its promise -/
section
variable {g : Gx} {P : Program} {w : World} {K : PySem.W.Frag} {mg : Str → Option Value} {base : Heap}
theorem startF_len {d : Df} {xs : List Val} (h : xs.length ≤ d.nn) : (startF d xs).length = d.nn := by
  unfold startF
  rw [List.length_append, List.length_map, List.length_replicate]
  omega
theorem start_fr {l : Lx} {u : Vw} {d : Df} {N : List Str} {xs : List Val} {vs : List V} (hn : d.nn = N.length) (hl : xs.length ≤ d.nn) (rx : RepVs l u xs vs) : FR l u.H u (startF d xs) (start N vs) := by
  have out : ∀ (i : Nat) (s : Sl), (startF d xs)[i]? = some s → (∃ x, xs[i]? = some x ∧ s = .val x) ∨ (xs.length ≤ i ∧ s = .no) := fun i s h => by
    unfold startF at h
    by_cases q : i < xs.length
    · rw [List.getElem?_append_left (by simpa using q), List.getElem?_map] at h
      cases e : xs[i]? with
      | none => rw [e] at h; cases h
      | some x => rw [e] at h; cases h; exact .inl ⟨x, rfl, rfl⟩
    · rw [List.getElem?_append_right (by simpa using q)] at h
      exact .inr ⟨by omega, (List.mem_replicate.mp (List.mem_of_getElem? h)).2⟩
  refine ⟨fun _ h => h, ?_, fun i s a h k _ => ?_, fun i s v h1 h2 => ?_, fun i j s t v h1 h2 k1 _ _ _ => ?_⟩
  · rw [startF_len hl, hn]
    show _ = (vs.map some ++ List.replicate (N.length - vs.length) none).length
    rw [List.length_append, List.length_map, List.length_replicate, ← rx.length]
    omega
  · rcases out i s h with ⟨x, _, e⟩ | ⟨_, e⟩ <;> (rw [e] at k; exact k.elim)
  · rcases out i s h1 with ⟨x, e, e2⟩ | ⟨_, e2⟩
    · rw [e2]
      obtain ⟨y, q1, q2⟩ := rx.get e
      have hi : i < vs.length := (List.getElem?_eq_some_iff.mp q1).1
      have h2 : (vs.map some ++ List.replicate (N.length - vs.length) none)[i]? = some v := h2
      rw [List.getElem?_append_left (by simpa using hi), List.getElem?_map, q1] at h2
      cases h2
      exact ⟨y, rfl, q2⟩
    · rw [e2]; trivial
  · rcases out i s h1 with ⟨x, _, e⟩ | ⟨_, e⟩ <;> (rw [e] at k1; exact k1.elim)
theorem fn_run {x qual : Str} {st : Stmt} {f : Addr} {fd : FuncData} {N ps : List Str} {k : Nat} {d : Df} (F : Fun K x qual st f fd) (S : FnScope N ps (defScope st)) (hp : d.np = ps.length) (hn : d.nn = N.length) (hle : d.np ≤ d.nn)
    (hb : ∀ (cdv : Value) (A : Around) (outer : List Env) (s : Shared) (H : Hp) (E : XK), Room k (A.deeper (envOfC qual (defScope st) s.heap.objs.size f cdv)) → SSs g Lx.no (cxOf (L2.CX P w) P w K mg base N qual (defScope st) f cdv A outer s H E) (WK E) (defBody st) d.body) :
    FnOk P w K mg base (L2.CX P w) (k + 1) f fd ps (spO g ps.length (runD d)) := by
  refine F.okX S (fun vs H Q E h => h.1) fun cdv A outer s H vs Q E hr ⟨hl, u, xs, e1, e2, e3, e4⟩ => ⟨_, hb cdv A outer s H E hr, ?_⟩
  have hx : xs.length = d.np := by rw [e3.length, hl, hp]
  refine ⟨u.H, u, startF d xs, e1, e2, start_fr hn (by omega) e3, ?_⟩
  unfold runD at e4
  rw [if_pos hx] at e4
  cases q : d.body (startF d xs) u.h with
  | exc c hh => rw [q] at e4; exact fun u' σ' e x r => e4 u' e x.all r
  | bad => rw [q] at e4; exact e4
  | ok o hh =>
    rw [q] at e4
    cases o with
    | nx f2 => exact fun u' σ' e x r _ => e4 u' e x.all r .non rfl
    | rt v => exact fun u' e x r v rv => e4 u' e x.all r v rv
    | bk f2 => exact (Run.bad e4).elim
end
end Pk

set_option maxRecDepth 100000
/-! Pk20: dict comprehensions; list(x). -/
namespace Pk
open PySem PySem.Spec PyProof.Rows L2

section
variable {g : Gx} {l : Lx} {X : Cx} {W : WX} {tg ea eb ec kx vx iter : Expr} {a b c k e : C} {pos pos' pos2 p p2 : Pos} {x : Str} {it : CI} {t : Tg} {cnd : Option C} {ifs : List Expr}
theorem sf_lstO (hg : Gl X "list" := by rfl) (hm : X.mg "list" = none) (ha : SB g l X W ea a) (he : starEach [ea] X.env = (false, eval ea X.env) :: starEach [] X.env := by rfl) (hpl : (backTo pos (starEach [] X.env)).any (·.1) = false := by rfl) :
    SF g l X W (.Call (.Name "list" p) [ea] [] pos) (fLstO a) := by
  refine sf_t1 call_list_of hg hm PyProof.Rows.boot_list (by decide) (by decide) he hpl ha fun σ u0 u x v Q x0 r rx h => ?_
  cases hs : seqOf u.h x with
  | none => rw [hs] at h; exact (Run.bad h).elim
  | some xs =>
    rw [hs] at h
    obtain ⟨q, vs, e1, e2, e3⟩ := seqOf_rep r rx hs
    exact ⟨q, vs, by rw [e1], e2.elim (fun e => .inl (SqL.of e)) (fun e => .inr (SqT.of e)), newN_lst x0 r e3 h⟩
theorem compD_ends {u0 : Vw} {σ : Pk.St} {Q : VK} {lk : Option Nat} {r : Res (List (Val × Val))} (hr : HR g l u0) (hk : LkL u0 lk) {uS : Vw} (h : Run g l W σ (RepN l uS) Q u0 (r.calm.bind fun ys h2 => .ok (.d ys) (unlockO h2 lk))) :
    Run g l W0 σ (fun w ys v => RepN l uS w (.d ys) v) Q (lockV u0 lk) r := by
  cases r with
  | exc c hh => exact (Run.bad h).elim
  | bad => exact (Run.bad h).elim
  | ok ys hh =>
    intro u' e' x' r' v n
    obtain ⟨k', x2⟩ := x'.unlock hr hk
    refine h (unlockV u' lk) (by show unlockO u'.h lk = _; rw [e']) x2 (r'.unlock k') v ?_
    obtain ⟨q, e1, e2, e3, e4, e5⟩ := n
    exact ⟨q, e1, e2, e3, e4, e5.sub Sub.h rfl⟩
theorem dc_read {σ : Pk.St} {H : Hp} {Q : VK} (h : tF g l W (fDComp t it cnd k e) σ H Q) : tDc (tI g l W (Src g l) it) (gT g l t) (tC g l cnd) (tE g l W0 (RepV l) k) (tE g l W0 (RepV l) e) t.ixs σ H Q := by
  obtain ⟨z, u, fr, e1, e2, e3, e4⟩ := h
  refine ⟨z, u, fr, e1, e2, e3, ?_⟩
  have e4 : Run g l W σ (RepN l u) Q u ((it fr u.h).bind _) := e4
  cases hit : it fr u.h with
  | exc c hh => rw [hit] at e4; exact e4
  | bad => rw [hit] at e4; exact e4
  | ok q hh =>
    obtain ⟨xs, lk⟩ := q
    rw [hit] at e4
    intro u1 eh x1 r1 J ⟨Al, hS, hk, hal⟩ D hD
    have f1 : FR l z (lockV u1 lk) (wipeF fr t.ixs) (wipe σ t.ixs) := ((e3.ext x1 e2).wipe t.ixs).h
    have rb := r1.lock hk
    have e4 : Run g l W σ (RepN l u) Q u1 ((compD t cnd k e (wipeF fr t.ixs) xs [] (lockV u1 lk).h).calm.bind fun ys h2 => .ok (.d ys) (unlockO h2 lk)) := by
      have := Run.mono x1 e4
      rw [← eh] at this
      exact this
    have e4 := compD_ends r1 hk e4
    generalize hb : lockV u1 lk = b at f1 rb e4 hal
    have hD : b.H D = none := by rw [← hb]; exact hD
    have hH : u1.H = b.H := by rw [← hb]; rfl
    have hz : gone z D := f1.live D (gone_none hD)
    have h0 : gone u.H D := x1.live D (gone_none (by rw [hH]; exact hD))
    refine ⟨fun i m H => ∃ v ks done, v.H = H ∧ HR g l v ∧ Ext b v ∧ v.H D = some (.dK ks) ∧ RepK l v done ks ∧ ¬ v.F D ∧ (∀ id, v.ρ id ≠ some D) ∧ m = xs.length - i ∧ i ≤ xs.length ∧
      Run g l W0 σ (fun w ys vv => RepN l u w (.d ys) vv) Q b (compD t cnd k e (wipeF fr t.ixs) (xs.drop i) done v.h), ⟨xs.length, ?_⟩, ?_⟩
    · obtain ⟨r2, x2, n2⟩ := repN_new (l := l) (o := .dK []) (c := .d []) rb hD fun u' x e => .inl ⟨[], e, rfl⟩
      obtain ⟨q, eq, _, nF, nR, _⟩ := n2
      cases eq
      exact ⟨⟨b.ρ, b.F, upd b.H D (.dK []), b.h⟩, [], [], by rw [hH], r2, x2, upd_same, rfl, nF, nR, by simp, Nat.zero_le _, e4⟩
    · rintro i m H' ⟨v, acc, done, rfl, rv, xv, hDv, rd, nF, nR, rfl, hi, h⟩
      have al := hS.keep b v hal rb xv
      by_cases hlt : i < xs.length
      · have ei : xs[i]? = some xs[i] := by simp [hlt]
        rw [List.drop_eq_getElem_cons hlt] at h
        refine .inr ⟨hS.go v i _ al rv ei, fun H2 => ∃ m', m' < xs.length - i ∧ ∃ v ks done, v.H = H2 ∧ HR g l v ∧ Ext b v ∧ v.H D = some (.dK ks) ∧ RepK l v done ks ∧ ¬ v.F D ∧ (∀ id, v.ρ id ≠ some D) ∧ m' = xs.length - (i + 1) ∧ i + 1 ≤ xs.length ∧
            Run g l W0 σ (fun w ys vv => RepN l u w (.d ys) vv) Q b (compD t cnd k e (wipeF fr t.ixs) (xs.drop (i + 1)) done v.h), fun H2 h => h, fun yv H2 hy => ?_⟩
        obtain ⟨w, rfl, ew, xw, rw', ry⟩ := hS.yld v i _ yv H2 al rv ei hy
        have xbw := xv.trans xw
        have fw := f1.ext xbw rb
        rw [← ew] at h
        unfold compD at h
        cases hbd : t.bind xs[i] (wipeF fr t.ixs) with
        | none => rw [hbd] at h; exact (Run.bad h).elim
        | some f2 =>
          rw [hbd] at h
          refine ⟨z, w, wipeF fr t.ixs, xs[i], f2, rfl, rw', fw, ry, hbd, fun σ3 f3 hw => ⟨hw.trans (wipe_wipe _ _), ?_⟩⟩
          have keepD : ∀ {u2 : Vw}, Ext w u2 → u2.H D = some (.dK acc) ∧ ¬ u2.F D ∧ (∀ id, u2.ρ id ≠ some D) ∧ RepK l u2 done acc := fun {u2} x2 => by
            have k1 : w.H D = some (.dK acc) := xw.keep D _ hDv nR (fun ps z => by cases z)
            have k2 : ∀ id, w.ρ id ≠ some D := fun id z => (xw.ρn id D z).elim (nR id) (not_gone hDv)
            have k3 : ¬ w.F D := fun z => (xw.Fn D z).elim nF (not_gone hDv)
            exact ⟨x2.keep D _ k1 k2 (fun ps z => by cases z), fun z => (x2.Fn D z).elim k3 (not_gone k1), fun id z => (x2.ρn id D z).elim (k2 id) (not_gone k1), RepK.sub (x2.sub rw') _ _ (RepK.sub (xw.sub rv) _ _ rd)⟩
          have go : ∀ (u2 : Vw) (kk : Bool) (Hq : Hp), u2.H = Hq → Ext w u2 → HR g l u2 → FR l z u2 f2 σ3 →
              Run g l W0 σ (fun w ys vv => RepN l u w (.d ys) vv) Q b (match Val.bl kk with | .bl true => (k f2 u2.h).calm.bind fun y h2 => (e f2 h2).calm.bind fun z h3 => if keyOk done y && y.leafK && decide (done.length ≤ big) then compD t cnd k e (wipeF fr t.ixs) (xs.drop (i + 1)) (dput done y z) h3 else .bad | .bl false => compD t cnd k e (wipeF fr t.ixs) (xs.drop (i + 1)) done u2.h | _ => .bad) →
              (if kk = true then tE g l W0 (RepV l) k σ3 Hq fun y H4 => tE g l W0 (RepV l) e σ3 H4 fun z H5 => ∃ kvs q, y = kV q ∧ H5 D = some (.dK kvs) ∧ kvs.length < sizeLine ∧ ∃ m', m' < xs.length - i ∧ ∃ v ks done, v.H = upd H5 D (.dK (putK kvs q z)) ∧ HR g l v ∧ Ext b v ∧ v.H D = some (.dK ks) ∧ RepK l v done ks ∧ ¬ v.F D ∧ (∀ id, v.ρ id ≠ some D) ∧ m' = xs.length - (i + 1) ∧ i + 1 ≤ xs.length ∧
                Run g l W0 σ (fun w ys vv => RepN l u w (.d ys) vv) Q b (compD t cnd k e (wipeF fr t.ixs) (xs.drop (i + 1)) done v.h)
               else ∃ m', m' < xs.length - i ∧ ∃ v ks done, v.H = Hq ∧ HR g l v ∧ Ext b v ∧ v.H D = some (.dK ks) ∧ RepK l v done ks ∧ ¬ v.F D ∧ (∀ id, v.ρ id ≠ some D) ∧ m' = xs.length - (i + 1) ∧ i + 1 ≤ xs.length ∧
                Run g l W0 σ (fun w ys vv => RepN l u w (.d ys) vv) Q b (compD t cnd k e (wipeF fr t.ixs) (xs.drop (i + 1)) done v.h)) := by
            intro u2 kk Hq eq2 x2 r2 f4 h
            subst eq2
            have xb2 := xbw.trans x2
            cases kk with
            | false =>
              rw [if_neg (by decide)]
              obtain ⟨k1, k2, k3, k4⟩ := keepD x2
              exact ⟨_, by omega, u2, acc, done, rfl, r2, xb2, k1, k4, k2, k3, rfl, hlt, h⟩
            | true =>
              rw [if_pos rfl]
              refine ⟨z, u2, f2, rfl, r2, f4, ?_⟩
              have h : Run g l W0 σ (fun w ys vv => RepN l u w (.d ys) vv) Q b ((k f2 u2.h).calm.bind fun y h2 => (e f2 h2).calm.bind fun z h3 => if keyOk done y && y.leafK && decide (done.length ≤ big) then compD t cnd k e (wipeF fr t.ixs) (xs.drop (i + 1)) (dput done y z) h3 else .bad) := h
              refine Run.weak (Run.calm0 (rep := RepV l) xb2 h) (fun _ _ _ _ _ h => h) fun yv' H4 ⟨u3, y, q1, x3, r3, ry', h3⟩ => ?_
              rw [← q1]
              have xb3 := xb2.trans x3
              refine ⟨z, u3, f2, rfl, r3, f4.ext x3 r2, ?_⟩
              refine Run.weak (Run.calm0 (rep := RepV l) xb3 h3) (fun _ _ _ _ _ h => h) fun zv' H5 ⟨u4, zz, q2, x4, r4, rz', h4⟩ => ?_
              rw [← q2]
              have xb4 := xb3.trans x4
              obtain ⟨k1, k2, k3, k4⟩ := keepD ((x2.trans x3).trans x4)
              split at h4
              · rename_i hk
                simp only [Bool.and_eq_true, decide_eq_true_eq] at hk
                obtain ⟨q, eq⟩ := keyV_leaf hk.1.2
                have st : Sub u4 ⟨u4.ρ, u4.F, upd u4.H D (.dK (putK acc q zv')), u4.h⟩ := Sub.upd k1 trivial k2
                refine ⟨acc, q, kv_rep eq (ry'.ext x4 r3), k1, ?_, _, by omega, ⟨u4.ρ, u4.F, upd u4.H D (.dK (putK acc q zv')), u4.h⟩, putK acc q zv', dput done y zz, rfl, (r4.own (o' := .dK (putK acc q zv')) k3 k2 hz k1 trivial trivial trivial).1, xb4.fresh hD k1 k3, upd_same, ?_, k2, k3, rfl, hlt, h4⟩
                · rw [← RepK.length k4, sizeLine_eq]
                  have : big = 1000000 := rfl
                  omega
                · exact RepK.put eq (RepV.sub st _ _ rz') (RepK.sub st _ _ k4)
              · exact (Run.bad h4).elim
          cases cnd with
          | none => exact go w true _ rfl (Ext.refl w) rw' f3 h
          | some c =>
            refine ⟨z, w, f2, rfl, rw', f3, ?_⟩
            have h : Run g l W0 σ (fun w ys vv => RepN l u w (.d ys) vv) Q b ((c f2 w.h).calm.bind _) := h
            cases hcc : c f2 w.h with
            | exc q hh => rw [hcc] at h; exact (Run.bad h).elim
            | bad => rw [hcc] at h; exact (Run.bad h).elim
            | ok y hh =>
              rw [hcc] at h
              cases y with
              | bl kk =>
                intro u2 e2' x2 r2 k' rk
                obtain rfl : k' = kk := rk
                exact go u2 k' _ rfl x2 r2 (f3.ext x2 rw') (by rw [e2']; exact h)
              | _ => exact (Run.bad h).elim
      · have ei : i = xs.length := by omega
        subst ei
        rw [List.drop_length] at h
        exact .inl ⟨hS.stop v al rv, h v rfl xv rv (.ref D) ⟨D, rfl, h0, nF, nR, .inl ⟨acc, hDv, rd⟩⟩⟩
theorem sf_dcomp {scope : Scope} {own : List (Str × Nat)} (hc : X.calm = true) (hN : X.N.Nodup) (hi : SIE g l X W tg iter it) (ok : BlkOk X.N X.env.scope scope own) (ho : own.map (·.2) = t.ixs)
    (hg : ∀ (s : Shared) (H : Hp) (C : Addr) (cl : List (Str × Addr)) (fp : List Addr), PG (X.blk s H scope (compEnvC scope cl C X.env) fp) tg (gT g l t))
    (ht : ∀ (s : Shared) (H : Hp) (C : Addr) (cl : List (Str × Addr)) (fp : List Addr), PTs (X.blk s H scope (compEnvC scope cl C X.env) fp) ifs (tC g l cnd))
    (hk : ∀ (s : Shared) (H : Hp) (C : Addr) (cl : List (Str × Addr)) (fp : List Addr), SE g l (X.blk s H scope (compEnvC scope cl C X.env) fp) W0 kx k)
    (he : ∀ (s : Shared) (H : Hp) (C : Addr) (cl : List (Str × Addr)) (fp : List Addr), SE g l (X.blk s H scope (compEnvC scope cl C X.env) fp) W0 vx e)
    (hs : ∀ x, foldedSetIterable iter X.env x = pure x := by intro _; rfl) : SF g l X W (.DictComp kx vx [⟨tg, iter, ifs, 0⟩] scope pos) (fDComp t it cnd k e) :=
  PE.weak (pe_dc hc hN hi ok hg ht hk he hs) fun σ H Q h => by rw [ho]; exact dc_read h
end
end Pk

set_option maxRecDepth 100000
/-! Pk21: told(lambda: ..); a def with its own code object. -/
namespace Pk
open PySem PySem.Spec PyProof.Rows L2

section
variable {g : Gx} {P : Program} {w : World} {K : PySem.W.Frag} {mg : Str → Option Value} {base : Heap}
/-- fn_run, the code object known -/
theorem fn_runC {x qual : Str} {st : Stmt} {f : Addr} {N ps : List Str} {k : Nat} {d : Df} {kV doc pm cdv ct oc : Value} {an od : Option Addr} {osl : Array (Option Value)}
    (lk : K.lookup f = some ⟨oc, od, .func (PySem.W.fnOf x qual (defArgs st) (defBody st) (defScope st) .none kV doc pm an cdv ct), osl⟩) (hcd : PySem.W.codeIn K cdv qual = true) (S : FnScope N ps (defScope st)) (hp : d.np = ps.length) (hn : d.nn = N.length) (hle : d.np ≤ d.nn)
    (hb : ∀ (A : Around) (outer : List Env) (s : Shared) (H : Hp) (E : XK), Room k (A.deeper (envOfC qual (defScope st) s.heap.objs.size f cdv)) → SSs g Lx.no (cxOf (L2.CX P w) P w K mg base N qual (defScope st) f cdv A outer s H E) (WK E) (defBody st) d.body) :
    FnOk P w K mg base (L2.CX P w) (k + 1) f (PySem.W.fnOf x qual (defArgs st) (defBody st) (defScope st) .none kV doc pm an cdv ct) ps (spO g ps.length (runD d)) := by
  refine fn_of lk hcd S (fun vs H Q E h => h.1) fun A outer s H vs Q E hr ⟨hl, u, xs, e1, e2, e3, e4⟩ => ⟨_, hb A outer s H E hr, ?_⟩
  have hx : xs.length = d.np := by rw [e3.length, hl, hp]
  refine ⟨u.H, u, startF d xs, e1, e2, start_fr hn (by omega) e3, ?_⟩
  unfold runD at e4
  rw [if_pos hx] at e4
  cases q : d.body (startF d xs) u.h with
  | exc c hh => rw [q] at e4; exact fun u' σ' e x r => e4 u' e x.all r
  | bad => rw [q] at e4; exact e4
  | ok o hh =>
    rw [q] at e4
    cases o with
    | nx f2 => exact fun u' σ' e x r _ => e4 u' e x.all r .non rfl
    | rt v => exact fun u' e x r v rv => e4 u' e x.all r v rv
    | bk f2 => exact (Run.bad e4).elim
end

section
variable {g : Gx} {X : Cx} {W : WX} {b : C} {es : List Nat}
/-- what comes beside (a lambda made, a table grown) changes no view -/
theorem beside {l : Lx} {u : Vw} {H1 : Hp} (r : HR g l u) (e : LamX.ExtN u.H H1) (t : LamX.Tabs g.tabs H1) : HR g l ⟨u.ρ, u.F, H1, u.h⟩ ∧ Ext u ⟨u.ρ, u.F, H1, u.h⟩ := by
  have x : Ext u ⟨u.ρ, u.F, H1, u.h⟩ := by
    refine ⟨fun _ _ h => h, fun _ _ h => .inl h, fun _ h => h, fun _ h => .inl h, fun a o h _ n => e a o h n, fun a h => ?_, fun id o a h1 h2 h3 => ⟨h1, ?_⟩, Nat.le_refl _⟩
    · intro o ho
      by_cases q : ∃ ps, o = .tbl ps
      · exact q
      · exact h o (e a o ho fun ps z => q ⟨ps, z⟩)
    · obtain ⟨o', h4, m⟩ := r.numbered h3
      exact (e a o' h4 (mut_tbl m)).trans h4.symm
  refine ⟨⟨r.dom, r.inj, fun id o h => ?_, fun a h => ?_, t⟩, x⟩
  · obtain ⟨a, h1, h2, h3⟩ := r.ob id o h
    obtain ⟨o', h4, m⟩ := h3.mut
    exact ⟨a, h1, h2, h3.same (x.sub r) ((e a o' h4 (mut_tbl m)).trans h4.symm)⟩
  · obtain ⟨o, h1, h2⟩ := r.frz a h
    have hm : isMut o := by cases o <;> first | exact h2 | trivial
    exact ⟨o, e a o h1 (mut_tbl hm), h2⟩
end
end Pk

set_option maxRecDepth 100000
/-! Pk22: told(lambda: ..). -/
namespace Pk
open PySem PySem.Spec PyProof.Rows L2

/-- what is known of the def told: try: return what() / except E: return 'E' -/
structure ToldF (g : Gx) (K : PySem.W.Frag) (mg : Str → Option Value) (x : Str) (es : List Nat) (ret : Str) : Prop where
  ex : ∃ (gA CS : Addr) (st : Stmt) (a e : Str) (dV kV doc pm cdv ct oc : Value) (an od : Option Addr) (osl : Array (Option Value)) (Ng : List Str) (j : Nat) (p1 p2 p3 p4 p5 p6 p7 p8 : Pos),
    mg x = some (.ref gA) ∧ PySem.W.keepIn K (.ref gA) = true ∧
    K.lookup gA = some ⟨oc, od, .func (PySem.W.fnOf x x (defArgs st) (defBody st) (defScope st) dV kV doc pm an cdv ct), osl⟩ ∧ PySem.W.codeIn K cdv x = true ∧
    L2.Binds K (PySem.W.fnOf x x (defArgs st) (defBody st) (defScope st) dV kV doc pm an cdv ct) [a] [] ∧ FnScope Ng [a] (defScope st) ∧ Ng[0]? = some a ∧ Vis (defScope st) a ∧
    (a == ("__debug__" : Str)) = false ∧ (a == ("__classdict__" : Str)) = false ∧
    (defScope st).names.lookup e = some .globalImplicit ∧ mg e = some (.ref CS) ∧ (e == ("__debug__" : Str)) = false ∧ (∀ f : Addr, (L2.start Ng [V.ref f])[0]? = some (some (V.ref f))) ∧
    defBody st = [.Try [.Return (some (.Call (.Name a p1) [] [] p2)) p3] [.ExceptHandler (some (.Name e p4)) none [.Return (some (.Constant (.str ret) j p5)) p6] p7] [] [] p8] ∧
    ∀ c, es.contains c = true → PySem.W.exmOne K (g.err c) (.ref CS) = some true
/-- the length of a row -/
theorem rl_0 : ∀ (fr : Fr) (h : Hv) (xs : List Val) (h' : Hv), cs0 fr h = .ok xs h' → xs.length = 0 := fun fr h xs h' e => by cases e; rfl
theorem rl_c {a : C} {r : CL} {n : Nat} (k : ∀ (fr : Fr) (h : Hv) (xs : List Val) (h' : Hv), r fr h = .ok xs h' → xs.length = n) : ∀ (fr : Fr) (h : Hv) (xs : List Val) (h' : Hv), csC a r fr h = .ok xs h' → xs.length = n + 1 := fun fr h xs h' e => by
  unfold csC at e
  cases q : a fr h with
  | exc _ _ => rw [q] at e; cases e
  | bad => rw [q] at e; cases e
  | ok x h1 =>
    rw [q] at e
    have e : (r fr h1).bind (fun xs h2 => .ok (x :: xs) h2) = .ok xs h' := e
    cases q2 : r fr h1 with
    | exc _ _ => rw [q2] at e; cases e
    | bad => rw [q2] at e; cases e
    | ok ys h2 => rw [q2] at e; cases e; rw [List.length_cons, k fr h1 ys h' q2]
section
variable {g : Gx} {l : Lx} {X : Cx} {W : WX}
theorem se_gint {x : Str} {i : Int} {pos : Pos} (hm : ∃ t, X.mg x = some (.int i t)) (hg : Gl X x := by rfl) (hd : (x == ("__debug__" : Str)) = false := by decide) : SE g l X W (.Name x pos) (cK (.int i)) := by
  obtain ⟨t, hm⟩ := hm
  exact se_K (pe_glob (v := .int i) hg hm ⟨t, rfl⟩ hd) fun _ => rfl
theorem Room.u65 {k : Nat} {A : Around} (r : Room k A) : A.units + 65 < cLine := by have := r.un; omega
end
section
variable {g : Gx} {X : Cx} {E : XK} {b : C} {es : List Nat} {x ret : Str} {k : Nat} {c P : Addr} {params : Arguments} {body : Expr} {scope : Scope} {p lpos pos : Pos}
theorem se_told (T : ToldF g X.K X.mg x es ret) (hg : Gl X x) (TB : LamX.TabB X.base X.mg c P) (hcode : X.env.code = .ref c) (hmT : (P, X.env.qual ++ "<lambda>") ∈ g.tabs) (hu : ∀ p ∈ g.tabs, p.1 = P → p.2 = X.env.qual ++ "<lambda>") (hr : Room (k + 2) X.A) (L : LamX.LamS X.env.scope scope)
    (hbody : ∀ (A : Around) (outer : List Env) (s : Shared) (H : Hp) (E : XK) (f c' : Addr), Room k (A.deeper (LamX.lamEnv X scope s.heap.objs.size f c')) → SE g Lx.no (LamX.lamCx X A outer s H E scope f c') (WK E) body b)
    (hdef : defaultsOf params X.env = ([], []) := by rfl) (hbind : ∀ (q : Str) (cl : List (Str × Addr)) (pm cv ctv : Value), bindArgs (PySem.W.kla_fn "<lambda>" q params body scope cl pm cv ctv) ⟨[], []⟩ = pure [] := by intro _ _ _ _ _; rfl) (hdb : (x == ("__debug__" : Str)) = false := by decide) :
    SE g Lx.no X (WK E) (.Call (.Name x p) [.Lambda params body scope lpos] [] pos) (cTold es (.str ret) b) := by
  obtain ⟨gA, CS, st, a, e, dV, kV, doc, pm, cdv, ct, oc, an, od, osl, Ng, j, p1, p2, p3, p4, p5, p6, p7, p8, m1, m2, m3, m4, m5, m6, m7, m8, m9, m10, m11, m12, m13, m14, m15, m16⟩ := T.ex
  rw [m15] at m3 m5
  refine PE.weak (LamX.pe_lamcall (T := g.tabs) (TT := LamX.TTold X.K CS ret) (t := fun E => tE g Lx.no (WK E) (RepV Lx.no) b) hg m1 m2 m3 m4 m5 m6 m7 m8 (LamX.told_gives m11 m12 m13 m14) TB hcode hmT hu hr L hdef hbind hbody hdb m9 m10) fun σ H Q ⟨z, u, fr, e1, e2, e3, e4⟩ => ?_
  subst e1
  refine ⟨e2.tab, fun H1 eN T1 => ?_⟩
  obtain ⟨r1, x1⟩ := beside e2 eN T1
  refine ⟨z, ⟨u.ρ, u.F, H1, u.h⟩, fr, rfl, r1, e3.ext x1 e2, ?_⟩
  show Run g Lx.no _ σ (RepV Lx.no) Q _ (b fr u.h)
  unfold cTold at e4
  cases q : b fr u.h with
  | bad => rw [q] at e4; exact e4
  | ok v hh => rw [q] at e4; exact fun u' e x r w rw' => e4 u' e (x1.trans x) r w rw'
  | exc n hh =>
    rw [q] at e4
    dsimp only at e4
    split at e4
    · rename_i hc
      exact fun u' e x r => ⟨true, m16 n hc, fun _ => e4 u' e (x1.trans x) r _ rfl, fun h => by cases h⟩
    · exact (Run.bad e4).elim
end
end Pk

set_option maxRecDepth 100000
/-! Pk23: generator expressions: the making. -/
namespace Pk
open PySem PySem.Spec PyProof.Rows L2

section
variable {X : Cx} {pins : List (Addr × Obj)} {σ : Pk.St} {H : Hp} {s : Shared}
/-- the code object of a generator expression: found in the maker's table, or new and put there -/
theorem gx_code {T : List (Addr × Str)} {c P : Addr} {scope : Scope} {pos : Pos} {E : Value → Shared → Prop} {Q : Value → Shared → Prop} (I : Inv X pins σ H s) (TB : LamX.TabB X.base X.mg c P) (hcode : X.env.code = .ref c)
    (hm : (P, X.env.qual ++ "<genexpr>") ∈ T) (hu : ∀ p ∈ T, p.1 = P → p.2 = X.env.qual ++ "<genexpr>") (hT : LamX.Tabs T H)
    (h : ∀ (cv : Value) (H1 : Hp) (h' : Heap) (t' : Nat), Inv X pins σ H1 { s with heap := h', toks := t' } → LamX.ExtN H H1 → LamX.Tabs T H1 → s.heap.objs.size ≤ h'.objs.size → (∀ b o, H b = none → s.heap.get? b = some o → h'.get? b = some o) → (∀ b, H b = none → b < s.heap.objs.size → H1 b = none) → Q cv { s with heap := h', toks := t' }) :
    wpAny (model X.prog X.w) X.A (genexprCode X.env pos (X.env.qual ++ "<genexpr>") scope) Q E s := by
  obtain ⟨ps, hP, ht, ha⟩ := hT _ hm
  have hP' : s.heap.get? P = some { cls := .none, data := .fields ps } := I.hok P _ hP
  have cd : PySem.W.CodeHd s.heap c P := TB.code.keeps I.bk
  cases hc : codeAmong pos ps.toList with
  | some cv =>
    exact wpAny_genexprCode_hit hcode (cd.code hP' ht) hc (h cv H s.heap s.toks I (LamX.ExtN.refl H) hT (Nat.le_refl _) (fun _ _ _ e => e) fun _ e _ => e)
  | none =>
    refine wpAny_genexprCodeX hcode (cd.code hP' ht) (cd.tab hP') hc fun c' h' tk hx hge hlt _ hrec htb _ => ?_
    obtain ⟨c2, oc, vs, t, e2, hoc, hd, hv⟩ := hrec
    cases e2
    have nC : H c' = none := I.hok.fresh hge
    have I1 := LamX.inv_table (t' := tk) (more := #[rawInt pos.line, rawInt pos.col, .ref c']) I hP hx htb.2 hge ⟨oc, vs, t, hoc, hd, hv⟩
    have hE : LamX.ExtN H (upd (upd H P (.tbl (ps ++ #[rawInt pos.line, rawInt pos.col, .ref c']))) c' (LamX.CodeO c' (X.env.qual ++ "<genexpr>"))) := fun b o e n => by
      rw [upd_ne (ne_of_none e nC), upd_ne (fun z => n ps (Option.some.inj (e.symm.trans (by rw [z]; exact hP))))]
      exact e
    have eL : (ps ++ #[rawInt pos.line, rawInt pos.col, .ref c']).toList = ps.toList ++ [rawInt pos.line, rawInt pos.col, .ref c'] := by simp
    refine h (.ref c') _ h' tk I1 hE (fun p hp => ?_) (Nat.le_trans hge (Nat.le_of_lt hlt)) (fun b o hb e => hx b o (fun z => by rw [z, hP] at hb; cases hb) e) fun b hb hl => by
      have n1 : b ≠ c' := Nat.ne_of_lt (Nat.lt_of_lt_of_le hl hge)
      have n2 : b ≠ P := fun z => by rw [z, hP] at hb; cases hb
      rw [upd_ne n1, upd_ne n2]
      exact hb
    by_cases hb : p.1 = P
    · rw [hu p hp hb, hb]
      refine ⟨_, by rw [upd_ne (ne_of_none hP nC), upd_same], by rw [eL]; exact PySem.TriplesOk_snoc _ _ _ _ ht, fun p' cv hcv => ?_⟩
      rw [eL] at hcv
      rcases LamX.among_app _ ht hcv with z | z
      · obtain ⟨c0, e1, e2⟩ := ha p' cv z
        exact ⟨c0, e1, hE _ _ e2 LamX.codeO_ne⟩
      · exact ⟨c', z, upd_same⟩
    · obtain ⟨ps', a1, a2, a3⟩ := hT p hp
      refine ⟨ps', by rw [upd_ne (ne_of_none a1 nC), upd_ne hb]; exact a1, a2, fun p' cv hcv => ?_⟩
      obtain ⟨c0, e1, e2⟩ := a3 p' cv hcv
      exact ⟨c0, e1, hE _ _ e2 LamX.codeO_ne⟩
/-- a generator expression's names: captured, its own (with their places in N), the iterator's -/
structure GenOk (N : List Str) (sc scope : Scope) (own : List (Str × Nat)) : Prop where
  kind : scope.kind = .function
  co : scope.isCoroutine = false
  uniq : ∀ y ∈ scope.names, scope.names.lookup y.1 = some y.2
  ix : ∀ p ∈ own, N[p.2]? = some p.1
  nocell : ∀ y ∈ scope.names, y.2 ≠ .cell
  dot : scope.names.lookup (".0" : Str) = some .local
  free : ∀ y ∈ scope.names, y.2 = .free → sc.names.lookup y.1 = some .cell ∨ sc.names.lookup y.1 = some .free
  own : ∀ y ∈ scope.names, y.2 = .local → y.1 ∈ own.map (·.1) ∨ y.1 ∉ N
def genOkB (N : List Str) (sc scope : Scope) (own : List (Str × Nat)) : Bool :=
  decide (scope.kind = .function) && !scope.isCoroutine && scope.names.all (fun y => decide (scope.names.lookup y.1 = some y.2)) && own.all (fun p => decide (N[p.2]? = some p.1)) &&
  scope.names.all (fun y => !decide (y.2 = .cell)) && decide (scope.names.lookup (".0" : Str) = some .local) &&
  scope.names.all fun y => (!decide (y.2 = .free) || decide (sc.names.lookup y.1 = some .cell) || decide (sc.names.lookup y.1 = some .free)) && (!decide (y.2 = .local) || (own.map (·.1)).contains y.1 || !N.contains y.1)
theorem genOk_by {N : List Str} {sc scope : Scope} {own : List (Str × Nat)} (h : genOkB N sc scope own = true) : GenOk N sc scope own := by
  unfold genOkB at h
  simp only [Bool.and_eq_true, Bool.or_eq_true, Bool.not_eq_true', decide_eq_true_eq, decide_eq_false_iff_not, List.all_eq_true, List.contains_iff_mem] at h
  obtain ⟨⟨⟨⟨⟨⟨h1, h2⟩, h3⟩, h4⟩, h5⟩, h6⟩, h7⟩ := h
  refine ⟨h1, h2, h3, h4, h5, h6, fun y hy e => ?_, fun y hy e => ?_⟩
  · rcases (h7 y hy).1 with (z | z) | z
    · exact absurd e z
    · exact .inl z
    · exact .inr z
  · rcases (h7 y hy).2 with (z | z) | z
    · exact absurd e z
    · exact .inl z
    · exact .inr (by simpa using z)
/-- the frame of a generator expression -/
abbrev gxEnv (X : Cx) (scope : Scope) (C : Addr) (code : Value) : Env := genEnv scope (cloFrom X.env.cells scope.names []) C code builtinsNs X.env
/-- its context, entered from the frames of X, under the around A; s: the state before the frame is made; fp: its iterator's objects -/
def gxCx (X : Cx) (A : Around) (s : Shared) (H : Hp) (scope : Scope) (C : Addr) (code : Value) (fp : List Addr) (pn : List (Addr × Obj)) : Cx where
  prog := X.prog
  w := X.w
  K := X.K
  mg := X.mg
  base := X.base
  A := A.deeper (gxEnv X scope C code)
  N := X.N
  s_0 := s
  H_0 := H
  env := gxEnv X scope C code
  outer := X.stack
  stack := gxEnv X scope C code :: X.stack
  ex := fp
  fn := fun _ => false
  calm := true
  pn := pn
  xe := fun _ _ => False
theorem over_start {A : Around} {elt : Expr} {gs : List Comprehension} {scope : Scope} {pos : Pos} {it acc : Value} {env : Env} : A.over (.compStart (.GeneratorExp elt gs scope pos) 0 it acc env) [] = A.deeper env := by
  first
    | rfl
    | (obtain ⟨hd, d, fr, gs, u⟩ := A; simp [Around.over, Around.deeper, marksOver, frameCount, unitsOf, envsOf, guardsOf, pushEnvs, pushGuards, Code.envs, Code.env?, Code.isFrame, Code.guards, Code.isGuard, Code.weight, Code.frames, Code.isCreation, Code.isCaller, Code.cUnits])
theorem over_turn {A : Around} {elt : Expr} {gs : List Comprehension} {scope : Scope} {pos : Pos} {it acc : Value} {env : Env} : A.over (.compLoop (.GeneratorExp elt gs scope pos) 0 it acc env) [] = A.deeper env := by
  first
    | rfl
    | (obtain ⟨hd, d, fr, gs, u⟩ := A; simp [Around.over, Around.deeper, marksOver, frameCount, unitsOf, envsOf, guardsOf, pushEnvs, pushGuards, Code.envs, Code.env?, Code.isFrame, Code.guards, Code.isGuard, Code.weight, Code.frames, Code.isCreation, Code.isCaller, Code.cUnits])
end
end Pk

set_option maxRecDepth 100000
/-! Pk24: generator expressions: the frame, its invariant, the pins of a consumer. -/
namespace Pk
open PySem PySem.Spec PyProof.Rows L2

section
variable {X : Cx} {pins : List (Addr × Obj)} {σ : Pk.St} {H : Hp} {s s2 : Shared} {A : Around}
theorem gx_start {scope : Scope} {own : List (Str × Nat)} {fp : List Addr} {code it : Value} (I : Inv X pins σ H s) (ok : GenOk X.N X.env.scope scope own) (hN : X.N.Nodup) (hfp : ∀ b ∈ fp, FpOk X pins H b ∧ b < s.heap.objs.size)
    (hd : A.handled = none) (hfr : A.frames = some X.stack) (hos : s2.os = s.os) (hb : AllBare s2.gens) (hk : ∀ b o, s.heap.get? b = some o → s2.heap.get? b = some o)
    (hns : s2.heap.Ns s.heap.objs.size fun y => if y = (".0" : Str) then some it else none) (hdot : (".0" : Str) ∉ X.N) :
    Inv (gxCx X A s H scope s.heap.objs.size code fp []) [] (wipe σ (own.map (·.2))) H s2 := by
  have hfree : ∀ y ∈ scope.names, y.2 = .free → ∃ c, X.env.cells.lookup y.1 = some c := fun y hy e => by
    rcases ok.free y hy e with k | k
    · exact I.ok.has _ (.inl k)
    · exact I.ok.has _ (.inr k)
  have cm : ∀ {y c}, (cloFrom X.env.cells scope.names []).lookup y = some c → X.env.cells.lookup y = some c := fun {y c} e => by
    rcases cloFrom_mem (PySem.mem_of_lookup e) with hm | ⟨h1, h2⟩
    · cases hm
    · obtain ⟨c1, hc⟩ := hfree _ h1 rfl
      have hc : X.env.cells.lookup y = some c1 := hc
      have e2 : c = c1 := by rw [h2, hc] <;> rfl
      rw [e2]; exact hc
  have look : ∀ {y}, scope.names.lookup y = some .free → ∃ c, (cloFrom X.env.cells scope.names []).lookup y = some c := fun {y} hl =>
    mem_lookup (cloFrom_has (cells := X.env.cells) (acc := []) (show (y, NameKind.free) ∈ scope.names from PySem.mem_of_lookup hl))
  have okG : (gxCx X A s H scope s.heap.objs.size code fp []).Ok := by
    refine ⟨I.ok.mod, ok.kind, I.ok.glob, rfl, Nat.le_refl _, fun y z c e1 e2 => I.ok.inj y z c (cm e1) (cm e2), fun y hy => ?_, fun y c z _ => ?_, fun _ => hd, Around.frames_deeper hfr, .inr ⟨rfl, rfl⟩, fun b hb => ⟨Nat.ne_of_lt (hfp b hb).2, fun y c e => (hfp b hb).1.2.2.2.2.1 y c (cm e)⟩,
      I.bs, Nat.le_trans I.ok.bsz I.sz, fun b o e hb => ?_, fun b hb z => ?_, I.stack, I.stkFree⟩
    · have hy : scope.names.lookup y = some .cell ∨ scope.names.lookup y = some .free := hy
      rcases hy with hy | hy
      · exact absurd rfl (ok.nocell _ (PySem.mem_of_lookup hy))
      · exact look hy
    · have z : false = true := z
      cases z
    · rcases (hfp b hb).1.2.2.2.1 with z | z
      · exact I.ok.noex b o e z
      · exact absurd (Nat.lt_of_lt_of_le (Heap.lt_size e) (Nat.le_trans I.ok.bsz z)) (Nat.lt_irrefl _)
    · rcases List.mem_cons.mp (I.stkSub b z) with z | z
      · exact (hfp b hb).1.2.1 z
      · exact (hfp b hb).1.2.2.1 z
  refine ⟨okG, hos, hb, Un.kept hk, ⟨_, hns, fun i y v e1 e2 e3 => ?_⟩, fun y c e => ?_, I.hok.fresh (Nat.le_refl _), fun y c e => I.freeC y c (cm e), fun p hp => absurd (show p ∈ ([] : List (Addr × Obj)) ++ [] from hp) (by simp), I.hok.kept hk, by rw [wipe_length]; exact I.len⟩
  · obtain ⟨e2, hne⟩ := wipe_some e2
    have e3 : Vis scope y := e3
    have hfr : scope.names.lookup y = some .free := by
      rcases e3 with k | k | k
      · rcases ok.own _ (PySem.mem_of_lookup k) rfl with e' | e'
        · obtain ⟨p, hp, hpy⟩ := List.mem_map.mp e'
          have e4 := ok.ix p hp
          have : p.1 = y := hpy
          rw [this] at e4
          exact absurd (List.mem_map.mpr ⟨p, hp, nodup_ix hN e4 e1⟩) hne
        · exact absurd (List.mem_of_getElem? e1) e'
      · exact absurd rfl (ok.nocell _ (PySem.mem_of_lookup k))
      · exact k
    obtain ⟨m, hn, hl⟩ := I.loc
    have hvis : Vis X.env.scope y := (ok.free _ (PySem.mem_of_lookup hfr) rfl).elim (fun k => .inr (.inl k)) (fun k => .inr (.inr k))
    obtain ⟨w, r, q⟩ := hl i y v e1 e2 hvis
    refine ⟨w, r, .inr ⟨.inr hfr, ?_⟩⟩
    obtain ⟨c, h1⟩ := look hfr
    rcases q with ⟨k, _⟩ | ⟨_, c', e', z⟩
    · have k : X.env.scope.names.lookup y = some .local := k
      rcases ok.free _ (PySem.mem_of_lookup hfr) rfl with k' | k' <;> rw [show X.env.scope.names.lookup y = _ from k'] at k <;> cases k
    · rw [cm h1] at e'; cases e'
      exact ⟨c, h1, z.keeps hk⟩
  · obtain ⟨w, z⟩ := I.cell y c (cm e)
    exact ⟨w, z.keeps hk⟩
/-- the consumer's object is written: the invariant stands with the new one pinned -/
theorem Inv.repin {S : Addr} {o o' : Obj} {h' : Heap} {g' : Array GenState} {d' : Drawn} {t' : Nat} {ip : List (Addr × Obj)} (I : Inv X ((S, o) :: ip) σ H s) (hpn : ∀ p ∈ X.pn, p.1 ≠ S) (hip : ∀ p ∈ ip, p.1 ≠ S) (hS : X.s_0.heap.objs.size ≤ S)
    (hc : ∀ x c, X.env.cells.lookup x = some c → c ≠ S) (hk : ∀ b u, b ≠ S → s.heap.get? b = some u → h'.get? b = some u) (hat : h'.get? S = some o') (hd : ∀ v, o'.data ≠ .cell v) (hb : AllBare g') :
    Inv X ((S, o') :: ip) σ H { s with heap := h', gens := g', drawn := d', toks := t' } := by
  obtain ⟨_, hS0, hSL, hSf, _⟩ := I.pin (S, o) (List.mem_append_right _ List.mem_cons_self)
  have hS0 : H S = none := hS0
  have hSL : S ≠ X.env.locals := hSL
  have hSf : S ∉ X.fs := hSf
  have nt : ∀ b u, H b = some u → b ≠ S := fun b u q hb => by rw [hb, hS0] at q; cases q
  have I0 : Inv X ip σ H s := I.pins_of fun p hp => I.pin p (List.mem_append_right _ (List.mem_cons_of_mem _ hp))
  have nc : ∀ b, b ∉ [S] → b ≠ S := fun b hb e => hb (by rw [e]; exact List.mem_singleton.mpr rfl)
  have J : Inv X ip σ H { s with heap := h', gens := g', drawn := d', toks := t' } := by
    refine I0.step (g' := g') (t' := t') (d' := d') (ch := [S]) (fun b hb => ?_)
      (fun b ob _ _ hc q _ => hk b ob (nc b hc) q) (fun b ob _ _ hc q _ => ⟨ob.slots, hk b ob (nc b hc) q⟩) (fun _ _ _ _ n => n) (fun b ob hc q => ⟨ob, hk b ob (nc b hc) q⟩)
      (fun _ _ q => q) (fun _ _ _ q => q) (fun b ps q => ⟨#[], by rw [q]; simp⟩) (fun m hm => ?_) (fun b u q => ?_) hb
    · rw [List.mem_singleton.mp hb]
      refine ⟨.inr hS, hSL, hc, fun p hp => ?_⟩
      rcases List.mem_append.mp hp with hp | hp
      · exact hpn p hp
      · exact hip p hp
    · obtain ⟨ob, es, ep, ho, r⟩ := hm
      exact ⟨ob, es, ep, hk _ ob (Ne.symm hSL) ho, r⟩
    · refine (I0.hok b u q).stay (fun c v hc y => hk c v ?_ y) (fun _ y => y) fun _ _ y => y
      rcases hc with y | y
      · rw [y]; exact nt b u q
      · exact nt c _ y
  refine J.pins_of fun p hp => ?_
  rcases List.mem_cons.mp hp with hp | hp
  · rw [hp]
    exact ⟨hat, hS0, hSL, hSf, hd⟩
  · exact J.pin p (List.mem_append_right _ hp)
end
end Pk

set_option maxRecDepth 100000
/-! Pk25: generator expressions: the turns. -/
namespace Pk
open PySem PySem.Spec PyProof.Rows L2

/-- the next item of a generator expression, and what its iterator still holds -/
def gStep (t : Tg) (cnd : Option C) (e : C) (fr : Fr) : List Val → Hv → Res (Option (Val × List Val))
  | [], h => .ok none h
  | x :: xs, h => match t.bind x fr with
    | none => .bad
    | some f1 => (tstO cnd f1 h).bind fun b h1 => match b with
      | .bl true => (e f1 h1).calm.bind fun y h2 => .ok (some (y, xs)) h2
      | .bl false => gStep t cnd e fr xs h1
      | _ => .bad
/-- a generator expression at work -/
structure Gn where
  X : Cx
  it : Addr
  fp : List Addr
  tn : Nat → Heap → Prop
  J : It
  full : List Val
  Al : Vw → Prop
  b : Vw
  z : Hp
  fr : Fr
  σ : Pk.St
  a : Addr
  go : Obj
  t : Tg
  cnd : Option C
  e : C
  N : Nat
namespace Gn
abbrev pp (G : Gn) (p : List (Addr × Obj)) : List (Addr × Obj) := p ++ [(G.a, G.go)]
abbrev step (G : Gn) : List Val → Hv → Res (Option (Val × List Val)) := gStep G.t G.cnd G.e G.fr
/-- what stands after j items -/
def traj (G : Gn) : Nat → Option (List Val × List Val × Hv)
  | 0 => some ([], G.full, G.b.h)
  | j + 1 => match G.traj j with
    | none => none
    | some (d, xs, h) => match G.step xs h with
      | .ok (some (y, xs')) h' => some (d ++ [y], xs', h')
      | _ => none
variable (g : Gx) (l : Lx)
structure Ok (G : Gn) (tg : Expr) (B : List (Addr × Obj) → List Val → Vw → Prop) : Prop where
  T : Turn G.X.prog G.X.w G.X.K tg G.J G.fp G.it G.tn
  calm : G.X.calm = true
  xe : G.X.xe = fun _ _ => False
  ex : ∀ b ∈ G.fp, b ∈ G.X.ex ∨ G.X.s_0.heap.objs.size ≤ b
  S : Src g l G.J G.full G.Al
  al : G.Al G.b
  rb : HR g l G.b
  f : FR l G.z G.b G.fr G.σ
  wp : wipe G.σ G.t.ixs = G.σ
  mono : ∀ p d u u', B p d u → Ext u u' → HR g l u → B p d u'
/-- the frame stands, the consumer's objects p are pinned -/
structure Core (G : Gn) (p : List (Addr × Obj)) (u : Vw) (s : Shared) : Prop where
  r : HR g l u
  x : Ext G.b u
  I : Inv G.X (G.pp p) G.σ u.H s
  fp : ∀ b ∈ G.fp, FpOk G.X (G.pp p) u.H b
/-- ready for the next item -/
def Rest (G : Gn) (B : List (Addr × Obj) → List Val → Vw → Prop) (j : Nat) (s : Shared) : Prop :=
  ∃ p u d xs, G.traj j = some (d, xs, u.h) ∧ xs = G.full.drop (G.full.length - xs.length) ∧ j + xs.length ≤ G.full.length ∧ G.Core g l p u s ∧ G.tn (G.full.length - xs.length) s.heap ∧ B p d u ∧ ∃ r h', G.step xs u.h = .ok r h'
def EndP (G : Gn) (B : List (Addr × Obj) → List Val → Vw → Prop) (n : Nat) (_ s : Shared) : Prop := ∃ j p u d xs h, n + j = G.N ∧ G.traj j = some (d, xs, h) ∧ G.step xs h = .ok none u.h ∧ G.Core g l p u s ∧ B p d u
def Ends (G : Gn) (B : List (Addr × Obj) → List Val → Vw → Prop) : GenEnd := fun n s₀ r s => r = .ok .next ∧ G.EndP g l B n s₀ s
def Yields (G : Gn) (B : List (Addr × Obj) → List Val → Vw → Prop) : Protocol := fun n _ v s kap =>
  ∃ j p u d xs xs' h y w, n + 1 + j = G.N ∧ G.traj j = some (d, xs, h) ∧ G.step xs h = .ok (some (y, xs')) u.h ∧ xs' = G.full.drop (G.full.length - xs'.length) ∧ j + 1 + xs'.length ≤ G.full.length ∧ G.Core g l p u s ∧ G.tn (G.full.length - xs'.length) s.heap ∧ B p d u ∧ RepV l u y w ∧ RelV w v ∧
    ∀ s', G.Rest g l B (j + 1) s' → kap (.send .none) s'
end Gn
section
variable {g : Gx} {l : Lx} {G : Gn} {tg elt iter : Expr} {ifs : List Expr} {scope : Scope} {pos : Pos} {B : List (Addr × Obj) → List Val → Vw → Prop} {A : Around}
theorem Gn.seg (ok : G.Ok g l tg B) (hA : A.over (.compLoop (.GeneratorExp elt [⟨tg, iter, ifs, 0⟩] scope pos) 0 (.ref G.it) .none G.X.env) [] = G.X.A)
    (hg : PG G.X tg (gT g l G.t)) (ht : PTs G.X ifs (tC g l G.cnd)) (he : SE g l G.X W0 elt G.e) (hco : G.X.env.scope.isCoroutine = false) (hN : G.full.length < G.N) :
    ∀ (k : Nat) (n j : Nat) (p : List (Addr × Obj)) (u : Vw) (d xs xs0 : List Val) (h0 : Hv) (s₀ s : Shared), xs.length = k → n + j = G.N → j + xs.length ≤ G.full.length → G.traj j = some (d, xs0, h0) → G.step xs0 h0 = G.step xs u.h → (∃ r h', G.step xs u.h = .ok r h') →
      xs = G.full.drop (G.full.length - xs.length) → G.Core g l p u s → G.tn (G.full.length - xs.length) s.heap → B p d u →
      Seg (model G.X.prog G.X.w) A (G.Ends g l B) (G.Yields g l B) n s₀ (.compLoop (.GeneratorExp elt [⟨tg, iter, ifs, 0⟩] scope pos) 0 (.ref G.it) .none G.X.env)
        ((model G.X.prog G.X.w).den (.compLoop (.GeneratorExp elt [⟨tg, iter, ifs, 0⟩] scope pos) 0 (.ref G.it) .none G.X.env)) [] s := by
  have yo : ∀ v, yieldOut G.X.env v = yieldValue v := fun v => by simp only [yieldOut, hco, Bool.false_eq_true, if_false]
  have ff : ∀ {α : Type} {m : Sem α} {Q : α → Shared → Prop} {E : Value → Shared → Prop} {s : Shared}, wpAny (model G.X.prog G.X.w) G.X.A m Q G.X.xe s → wpAny (model G.X.prog G.X.w) G.X.A m Q E s := fun h => wpAny_mono h (fun _ _ q => q) fun e s' z => by rw [ok.xe] at z; exact z.elim
  intro k
  induction k with
  | zero =>
    intro n j p u d xs xs0 h0 s₀ s hk hn hj htr hst _ hxs hc htn hB
    have hx : xs = [] := List.eq_nil_of_length_eq_zero hk
    subst hx
    show Seg _ A _ _ _ s₀ _ ((compTurn (.GeneratorExp elt [⟨tg, iter, ifs, 0⟩] scope pos) 0 (.ref G.it) .none G.X.env).onRaise (leaving G.X.env)) [] s
    rw [compTurn_gen, Sem.onRaise_eq_wrap]
    refine seg_bind_wrap (wpAny_standAt ?_)
    refine seg_bind_wrap ?_
    rw [hA]
    have al := ok.S.keep G.b u ok.al ok.rb hc.x
    refine thnF (ok.T.done G.X rfl rfl rfl ok.calm _ _ s _ u.H (fun _ _ => False) hc.I hc.fp htn (ok.S.stop u al hc.r)) fun r s1 ⟨hr, I1⟩ => ?_
    subst hr
    exact seg_end (.ok .next) ⟨rfl, j, p, u, d, xs0, h0, hn, htr, hst, ⟨hc.r, hc.x, I1, hc.fp⟩, hB⟩
  | succ k ih =>
    intro n j p u d xs xs0 h0 s₀ s hk hn hj htr hst hok hxs hc htn hB
    obtain ⟨x, rest, rfl⟩ : ∃ x rest, xs = x :: rest := by cases xs with
      | nil => cases hk
      | cons x rest => exact ⟨x, rest, rfl⟩
    have hlen : rest.length = k := Nat.succ.inj hk
    generalize hi : G.full.length - (x :: rest).length = i at hxs htn
    have hi' : G.full.length - rest.length = i + 1 := by rw [← hi]; simp only [List.length_cons] at hj ⊢; omega
    have hil : i < G.full.length := by rw [← hi]; simp only [List.length_cons] at hj ⊢; omega
    rw [List.drop_eq_getElem_cons hil] at hxs
    injection hxs with hx hrest
    have ei : G.full[i]? = some x := by rw [hx]; simp [hil]
    show Seg _ A _ _ _ s₀ _ ((compTurn (.GeneratorExp elt [⟨tg, iter, ifs, 0⟩] scope pos) 0 (.ref G.it) .none G.X.env).onRaise (leaving G.X.env)) [] s
    rw [compTurn_gen, Sem.onRaise_eq_wrap]
    refine seg_bind_wrap (wpAny_standAt ?_)
    refine seg_bind_wrap ?_
    rw [hA]
    have al := ok.S.keep G.b u ok.al ok.rb hc.x
    refine thnF (ok.T.item G.X rfl rfl rfl ok.calm i _ s _ u.H (fun _ _ => False) hc.I hc.fp htn (ok.S.go u i x al hc.r ei)) fun r s6 ⟨uu, hr, h6⟩ => ?_
    subst hr
    refine seg_bind_wrap ?_
    rw [hA]
    refine thnF h6 fun _ s7 ⟨v, H7, I7, r7, y7, st7, n7⟩ => ?_
    obtain ⟨w, rfl, ew, xw, rw', ry⟩ := ok.S.yld u i x v H7 al hc.r ei y7
    have xbw := hc.x.trans xw
    have fw := ok.f.ext xbw ok.rb
    have f7 : ∀ b ∈ G.fp, FpOk G.X (G.pp p) w.H b := fun b hb => ⟨n7 b hb, (hc.fp b hb).2⟩
    have I7' := I7.pinned f7 (ok.T.obj _ _ st7)
    rw [← ew] at hst hok
    obtain ⟨lhs, hlhs⟩ : ∃ q, q = G.step xs0 h0 := ⟨_, rfl⟩
    rw [← hlhs] at hst
    -- the target
    refine seg_bind_wrap ?_
    rw [hA]
    unfold gStep at hst hok
    cases hbd : G.t.bind x G.fr with
    | none => rw [hbd] at hok; obtain ⟨_, _, z⟩ := hok; cases z
    | some f2 =>
      rw [hbd] at hst hok
      refine ff (wpAny_mono (hg.run _ s7 _ w.H v uu (fun σ3 H3 => H3 = w.H ∧ FR l G.z w f2 σ3 ∧ wipe σ3 G.t.ixs = G.σ) I7' r7 ⟨G.z, w, G.fr, x, f2, rfl, rw', fw, ry, hbd, fun σ3 f3 hw => ⟨rfl, f3, hw.trans ok.wp⟩⟩) (fun _ s8 ⟨σ8, H8, I8, eH, f8, hw8⟩ => ?_) fun _ _ z => z)
      subst eH
      -- a turn's end
      have fin : ∀ {u3 : Vw} {s' : Shared}, Ext w u3 → HR g l u3 → Inv G.X (G.pp p ++ pinsAt G.fp s7.heap) σ8 u3.H s' → G.Core g l p u3 s' ∧ G.tn (i + 1) s'.heap := fun {u3 s'} x3 r3 I' => by
        have pin' : ∀ b ∈ G.fp, ∀ o, s7.heap.get? b = some o → s'.heap.get? b = some o ∧ u3.H b = none := fun b hb o e =>
          let z := I'.pin (b, o) (List.mem_append_right _ (List.mem_append_right _ (mem_pinsAt hb e)))
          ⟨z.1, z.2.1⟩
        have hl : G.σ.length = σ8.length := by rw [← hw8, wipe_length]
        refine ⟨⟨r3, xbw.trans x3, (I'.unpinned (pins := G.pp p)).weak hl fun q v e => ?_, fun b hb => ?_⟩, ok.T.keep _ _ _ st7 fun b hb o e => (pin' b hb o e).1⟩
        · rw [← hw8] at e
          exact (wipe_some e).1
        · obtain ⟨o, e, _⟩ := ok.T.obj _ _ st7 b hb
          exact ⟨(pin' b hb o e).2, (f7 b hb).2⟩
      -- the test
      refine seg_bind_wrap ?_
      rw [hA]
      have skip : ∀ (u3 : Vw) (s9 : Shared), Ext w u3 → HR g l u3 → Inv G.X (G.pp p ++ pinsAt G.fp s7.heap) σ8 u3.H s9 → lhs = G.step rest u3.h → (∃ r h', G.step rest u3.h = .ok r h') →
          Seg (model G.X.prog G.X.w) A (G.Ends g l B) (G.Yields g l B) n s₀ (.compLoop (.GeneratorExp elt [⟨tg, iter, ifs, 0⟩] scope pos) 0 (.ref G.it) .none G.X.env)
            ((model G.X.prog G.X.w).den (.compLoop (.GeneratorExp elt [⟨tg, iter, ifs, 0⟩] scope pos) 0 (.ref G.it) .none G.X.env)) [] s9 := fun u3 s9 x3 r3 I9 e1 e2 => by
        obtain ⟨c9, t9⟩ := fin x3 r3 I9
        have hB3 := ok.mono _ _ _ _ (ok.mono _ _ _ _ hB xw hc.r) x3 rw'
        exact ih n j p u3 d rest xs0 h0 s₀ s9 hlen hn (by simp only [List.length_cons] at hj; omega) htr (hlhs.symm.trans e1) e2 (by rw [hi']; exact hrest) c9 (by rw [hi']; exact t9) hB3
      have give : ∀ (u3 : Vw) (s9 : Shared), Ext w u3 → HR g l u3 → FR l G.z u3 f2 σ8 → Inv G.X (G.pp p ++ pinsAt G.fp s7.heap) σ8 u3.H s9 → lhs = ((G.e f2 u3.h).calm.bind fun y h2 => .ok (some (y, rest)) h2) → (∃ r h', ((G.e f2 u3.h).calm.bind fun y h2 => Res.ok (some (y, rest)) h2) = .ok r h') →
          wpAny (model G.X.prog G.X.w) G.X.A (eval elt G.X.env) (fun v s10 => ∃ (y : Val) (w4 : V) (u4 : Vw), G.step xs0 h0 = .ok (some (y, rest)) u4.h ∧ RelV w4 v ∧ RepV l u4 y w4 ∧ Ext u3 u4 ∧ G.Core g l p u4 s10 ∧ G.tn (i + 1) s10.heap) (fun _ _ => False) s9 := fun u3 s9 x3 r3 f3 I9 e1 e2 => by
        cases hee : G.e f2 u3.h with
        | exc c hh => rw [hee] at e2; obtain ⟨_, _, z⟩ := e2; cases z
        | bad => rw [hee] at e2; obtain ⟨_, _, z⟩ := e2; cases z
        | ok y hh =>
          rw [hee] at e1
          refine ff (wpAny_mono (he.run _ s9 σ8 u3.H (fun w4 H4 => ∃ u4 : Vw, u4.H = H4 ∧ u4.h = hh ∧ Ext u3 u4 ∧ HR g l u4 ∧ RepV l u4 y w4) I9 ⟨G.z, u3, f2, rfl, r3, f3, ?_⟩) (fun v s10 ⟨w4, H4, I10, rv, u4, eH, eh, x4, r4, rep4⟩ => ?_) fun _ _ z => z)
          · rw [hee]
            exact fun u4 eh x4 r4 w4 rep4 => ⟨u4, rfl, eh, x4, r4, rep4⟩
          · subst eH
            obtain ⟨c10, t10⟩ := fin (x3.trans x4) r4 I10
            exact ⟨y, w4, u4, by rw [eh]; exact hlhs.symm.trans e1, rv, rep4, x4, c10, t10⟩
      have test : wpAny (model G.X.prog G.X.w) G.X.A (forIn ifs true fun c r => if r = true then do let ok ← isTrue c G.X.env (eval c G.X.env); pure (ForInStep.yield ok) else pure (ForInStep.yield r))
          (fun bb s9 => ∃ u3 : Vw, Ext w u3 ∧ HR g l u3 ∧ FR l G.z u3 f2 σ8 ∧ Inv G.X (G.pp p ++ pinsAt G.fp s7.heap) σ8 u3.H s9 ∧
            (if bb = true then lhs = ((G.e f2 u3.h).calm.bind fun y h2 => .ok (some (y, rest)) h2) ∧ (∃ r h', ((G.e f2 u3.h).calm.bind fun y h2 => Res.ok (some (y, rest)) h2) = .ok r h')
             else lhs = G.step rest u3.h ∧ ∃ r h', G.step rest u3.h = .ok r h')) (fun _ _ => False) s8 := by
        cases hcnd : G.cnd with
        | none =>
          rw [hcnd] at ht hst hok
          refine ff (wpAny_mono (ht.run _ s8 σ8 w.H (fun bb H9 => bb = true ∧ H9 = w.H) I8 ⟨rfl, rfl⟩) (fun bb s9 ⟨H9, I9, e1, e2⟩ => ?_) fun _ _ z => z)
          subst e1; subst e2
          exact ⟨w, Ext.refl w, rw', f8, I9, hst, hok⟩
        | some c =>
          rw [hcnd] at ht hst hok
          have hst : lhs = ((c f2 w.h).calm.bind _) := hst
          have hok : ∃ r h', ((c f2 w.h).calm.bind _) = .ok r h' := hok
          cases hcc : c f2 w.h with
          | exc q hh => rw [hcc] at hok; obtain ⟨_, _, z⟩ := hok; cases z
          | bad => rw [hcc] at hok; obtain ⟨_, _, z⟩ := hok; cases z
          | ok y hh =>
            rw [hcc] at hst hok
            cases y with
            | bl kk =>
              refine ff (wpAny_mono (ht.run _ s8 σ8 w.H (fun bb H9 => ∃ u3 : Vw, u3.H = H9 ∧ u3.h = hh ∧ Ext w u3 ∧ HR g l u3 ∧ bb = kk) I8 ⟨G.z, w, f2, rfl, rw', f8, ?_⟩) (fun bb s9 ⟨H9, I9, u3, eH, eh, x3, r3, eb⟩ => ?_) fun _ _ z => z)
              · rw [hcc]
                exact fun u3 eh x3 r3 bb eb => ⟨u3, rfl, eh, x3, r3, eb⟩
              · subst eH
                refine ⟨u3, x3, r3, f8.ext x3 rw', I9, ?_⟩
                rw [eb, eh]
                cases kk with
                | true => exact ⟨hst, hok⟩
                | false =>
                  show lhs = gStep G.t G.cnd G.e G.fr rest hh ∧ ∃ r h', gStep G.t G.cnd G.e G.fr rest hh = .ok r h'
                  rw [hcnd]
                  exact ⟨hst, hok⟩
            | _ => obtain ⟨_, _, z⟩ := hok; cases z
      refine thnF test fun bb s9 ⟨u3, x3, r3, f3, I9, hq⟩ => ?_
      cases bb with
      | false =>
        simp only [Bool.false_eq_true, if_false] at hq ⊢
        exact seg_again rfl (skip u3 s9 x3 r3 I9 hq.1 hq.2)
      | true =>
        simp only [if_true] at hq ⊢
        simp only [yo]
        rw [Sem.bind_eq_wrap', Sem.bind_eq_wrap', Sem.wrap_wrap, Sem.wrap_wrap]
        refine seg_wrap ?_
        rw [hA]
        refine thnF (give u3 s9 x3 r3 f3 I9 hq.1 hq.2) fun v s10 ⟨y, w4, u4, e4, rv, rep4, x4, c10, t10⟩ => ?_
        have hB4 := ok.mono _ _ _ _ (ok.mono _ _ _ _ (ok.mono _ _ _ _ hB xw hc.r) x3 rw') x4 r3
        have hl2 : j + (rest.length + 1) ≤ G.full.length := by simp only [List.length_cons] at hj; omega
        obtain ⟨n', rfl⟩ : ∃ m, n = m + 1 := ⟨n - 1, by omega⟩
        refine seg_at (seg_yield rfl rfl rfl ⟨j, p, u4, d, xs0, rest, h0, y, w4, hn, htr, e4, by rw [hi']; exact hrest, by omega, c10, by rw [hi']; exact t10, hB4, rep4, rv, fun s'' hR => ?_⟩)
        obtain ⟨p5, u5, d5, xs5, e5, e6, e7, c5, t5, B5, o5⟩ := hR
        have e8 : G.traj (j + 1) = some (d ++ [y], rest, u4.h) := by
          show (match G.traj j with | none => none | some (d, xs, h) => match G.step xs h with | .ok (some (y, xs')) h' => some (d ++ [y], xs', h') | _ => none) = _
          rw [htr]
          show (match G.step xs0 h0 with | .ok (some (y, xs')) h' => some (d ++ [y], xs', h') | _ => none) = _
          rw [e4]
        rw [e8] at e5
        injection e5 with e5
        injection e5 with e9 e5
        injection e5 with e10 e11
        subst e9; subst e10
        refine seg_again rfl (ih n' (j + 1) p5 u5 _ rest rest u5.h s'' s'' hlen (by omega) (by omega) (by rw [e8, e11]) rfl o5 e6 c5 t5 B5)
end
end Pk

set_option maxRecDepth 100000
/-! Pk26: generator expressions: begun, woken. -/
namespace Pk
open PySem PySem.Spec PyProof.Rows L2

section
variable {g : Gx} {l : Lx} {G : Gn} {tg elt iter : Expr} {ifs : List Expr} {scope : Scope} {pos : Pos} {B : List (Addr × Obj) → List Val → Vw → Prop} {A : Around}
theorem Gn.segStart (ok : G.Ok g l tg B) (hA : A.over (.compLoop (.GeneratorExp elt [⟨tg, iter, ifs, 0⟩] scope pos) 0 (.ref G.it) .none G.X.env) [] = G.X.A)
    (hg : PG G.X tg (gT g l G.t)) (ht : PTs G.X ifs (tC g l G.cnd)) (he : SE g l G.X W0 elt G.e) (hco : G.X.env.scope.isCoroutine = false) (hN : G.full.length < G.N) (s₀ s : Shared) (h : G.Rest g l B 0 s) :
    Seg (model G.X.prog G.X.w) A (G.Ends g l B) (G.Yields g l B) G.N s₀ (.compStart (.GeneratorExp elt [⟨tg, iter, ifs, 0⟩] scope pos) 0 (.ref G.it) .none G.X.env)
      ((model G.X.prog G.X.w).den (.compStart (.GeneratorExp elt [⟨tg, iter, ifs, 0⟩] scope pos) 0 (.ref G.it) .none G.X.env)) [] s := by
  obtain ⟨p, u, d, xs, e1, e2, e3, c, tn, hB, ho⟩ := h
  have e1' : some (([] : List Val), G.full, G.b.h) = some (d, xs, u.h) := e1
  injection e1' with e1'
  injection e1' with ed e1'
  injection e1' with ex eh
  have loop := Gn.seg ok hA hg ht he hco hN xs.length G.N 0 p u d xs xs u.h s₀ s rfl rfl e3 e1 rfl ho e2 c tn hB
  show Seg _ A _ _ _ s₀ _ ((compStart (.GeneratorExp elt [⟨tg, iter, ifs, 0⟩] scope pos) 0 (.ref G.it) .none G.X.env).onRaise (leaving G.X.env)) [] s
  unfold compStart
  rw [Sem.onRaise_eq_wrap]
  show Seg _ A _ _ _ s₀ _ ((ask >>= _).wrap _ _ _ _) [] s
  refine seg_bind_wrap (wpAny_askSetting ?_)
  split
  · exact seg_again rfl loop
  · first
      | exact seg_bind_wrap (wpAny_rule (seg_bind_wrap (wpAny_standAt (seg_bind_wrap (ok.T.self _ _ _ _ _ tn (seg_again rfl loop))))))
      | (refine seg_bind_wrap (wpAny_rule ?_); show Seg _ A _ _ _ s₀ _ ((standAt iter.pos >>= _).wrap _ _ _ _) [] s; exact seg_bind_wrap (wpAny_standAt (seg_bind_wrap (ok.T.self _ _ _ _ _ tn (seg_again rfl loop)))))
theorem Inv.gens {X : Cx} {pins : List (Addr × Obj)} {σ : Pk.St} {H : Hp} {s : Shared} (I : Inv X pins σ H s) {G' : Array GenState} (hb : AllBare G') : Inv X pins σ H { s with gens := G' } :=
  ⟨I.ok, I.os, hb, I.base, I.loc, I.cell, I.free, I.freeC, I.pin, I.hok, I.len⟩
theorem Gn.Core.gens {p : List (Addr × Obj)} {u : Vw} {s : Shared} (c : G.Core g l p u s) {G' : Array GenState} (hb : AllBare G') : G.Core g l p u { s with gens := G' } := ⟨c.r, c.x, Pk.Inv.gens c.I hb, c.fp⟩
theorem Gn.Rest.gens {j : Nat} {s : Shared} (h : G.Rest g l B j s) {G' : Array GenState} (hb : AllBare G') : G.Rest g l B j { s with gens := G' } := by
  obtain ⟨p, u, d, xs, e1, e2, e3, c, r⟩ := h
  exact ⟨p, u, d, xs, e1, e2, e3, c.gens hb, r⟩
/-- the generator gi sleeps, j items are out -/
def Gn.Goes (g : Gx) (l : Lx) (G : Gn) (B : List (Addr × Obj) → List Val → Vw → Prop) (A : Around) (j : Nat) (gs : GenState) : Prop :=
  ∀ s, G.Rest g l B j s → gs.Goes (model G.X.prog G.X.w) A.in1 (G.Ends g l B) (G.Yields g l B) (G.N - j) (.send .none) s
theorem Gn.next {gi j : Nat} {nm qn : Value} {gs : GenState} {s : Shared} {Q : Option Value → Shared → Prop} {E : Value → Shared → Prop} (hh : A.handled = none) (hd : A.depth < recursionLimit) (hgo : G.go = { cls := .type "generator", data := .fields #[.int gi 0, nm, qn] }) (hN : G.full.length < G.N)
    (h : G.Rest g l B j s) (hgs : s.gens[gi]? = some gs) (go : Gn.Goes g l G B A j gs)
    (hY : ∀ v gs' p u d xs xs' h y w s1, s1.gens[gi]? = some gs' → Gn.Goes g l G B A (j + 1) gs' → G.traj j = some (d, xs, h) → G.step xs h = .ok (some (y, xs')) u.h → G.traj (j + 1) = some (d ++ [y], xs', u.h) → xs' = G.full.drop (G.full.length - xs'.length) → j + 1 + xs'.length ≤ G.full.length → G.Core g l p u s1 → G.tn (G.full.length - xs'.length) s1.heap → B p d u → RepV l u y w → RelV w v → Q (some v) s1)
    (hE : ∀ p u d xs h s1, G.traj j = some (d, xs, h) → G.step xs h = .ok none u.h → G.Core g l p u s1 → B p d u → Q none s1) :
    wpAny (model G.X.prog G.X.w) A (pyNext (.ref G.a)) Q E s := by
  obtain ⟨p0, u0, d0, xs0, t1, t2, t3, c0, t4, B0, ho⟩ := id h
  have pin := c0.I.pin (G.a, G.go) (List.mem_append_right _ (List.mem_append_right _ (List.mem_singleton.mpr rfl)))
  have isg : s.heap.IsGen G.a gi := ⟨_, nm, qn, pin.1, by rw [hgo], by rw [hgo], by rw [hgo]⟩
  have hl : s.heap.NoLimit := c0.I.nolimit
  have hgl : gi < s.gens.size := (Array.getElem?_eq_some_iff.mp hgs).1
  have jN : j < G.N := by omega
  refine GenW.wpAny_gsz (n := gi + 1) hgl (wpAny_pyNext_genexpQ (P := G.EndP g l B) (Y := G.Yields g l B) (n := G.N - j) hh hl hd isg hgs (go _ (h.gens (allBare_setGen c0.I.bare rfl))) (fun v s₁ gs' hb hv hsz => ?_) (fun s₁ hp h' hk hsz => ?_))
  · obtain ⟨j', p, u, d, xs, xs', hh', y, w, q1, q2, q3, q4, q5, q6, q7, q8, q9, q10, q11⟩ := hv
    have ej : j' = j := by omega
    subst ej
    have hlt : gi < s₁.gens.size := by
      have hs : gi + 1 ≤ (s₁.setGen gi gs').gens.size := hsz
      rw [GenW.setGen_size] at hs
      exact hs
    obtain ⟨m, hm⟩ : ∃ m, G.N - j' = m + 1 := ⟨G.N - j' - 1, by omega⟩
    refine hY v gs' p u d xs xs' hh' y w (s₁.setGen gi gs') (setGen_at hlt) (fun s' hR => ?_) q2 q3 ?_ q4 q5 (q6.gens (allBare_setGen q6.I.bare hb)) q7 q8 q9 q10
    · have q := q11 s' hR
      rw [hm] at q
      have e : G.N - (j' + 1) = m := by omega
      rw [e]
      exact q
    · show (match G.traj j' with | none => none | some (d, xs, h) => match G.step xs h with | .ok (some (y, xs')) h' => some (d ++ [y], xs', h') | _ => none) = _
      rw [q2]
      show (match G.step xs hh' with | .ok (some (y, xs')) h' => some (d ++ [y], xs', h') | _ => none) = _
      rw [q3]
  · obtain ⟨j', p, u, d, xs, hh', q1, q2, q3, q4, q5⟩ := hp
    have ej : j' = j := by omega
    subst ej
    have k1 : G.Core g l p u { s₁ with heap := h' } := ⟨q4.r, q4.x, q4.I.kept (t' := s₁.toks) hk, q4.fp⟩
    exact hE p u d xs hh' _ q2 q3 (k1.gens (allBare_setGen (s := s₁) q4.I.bare rfl)) q5
end
end Pk

set_option maxRecDepth 100000
/-! Pk27: generator expressions: made. -/
namespace Pk
open PySem PySem.Spec PyProof.Rows L2

section
variable {g : Gx} {l : Lx} {G : Gn} {B : List (Addr × Obj) → List Val → Vw → Prop}
/-- what a consumer keeps must outlive more objects -/
def Mono (g : Gx) (l : Lx) (B : List (Addr × Obj) → List Val → Vw → Prop) : Prop := ∀ p d u u', B p d u → Ext u u' → HR g l u → B p d u'
/-- the consumer writes its object -/
theorem Gn.Core.repin {S : Addr} {o o' : Obj} {p : List (Addr × Obj)} {u : Vw} {s : Shared} {h' : Heap} {d' : Drawn} {t' : Nat} (c : G.Core g l ((S, o) :: p) u s) (hpn : G.X.pn = []) (hS : G.X.s_0.heap.objs.size ≤ S) (hp : ∀ q ∈ p, q.1 ≠ S) (ha : G.a ≠ S)
    (hk : ∀ b v, b ≠ S → s.heap.get? b = some v → h'.get? b = some v) (hat : h'.get? S = some o') (hd : ∀ v, o'.data ≠ .cell v) : G.Core g l ((S, o') :: p) u { s with heap := h', drawn := d', toks := t' } := by
  have pinS := c.I.pin (S, o) (List.mem_append_right _ List.mem_cons_self)
  refine ⟨c.r, c.x, ?_, fun b hb => ?_⟩
  · refine Pk.Inv.repin (g' := s.gens) (ip := p ++ [(G.a, G.go)]) c.I (fun q hq => by rw [hpn] at hq; cases hq) (fun q hq => ?_) hS (fun x y e z => ?_) hk hat hd c.I.bare
    · rcases List.mem_append.mp hq with z | z
      · exact hp q z
      · rw [List.mem_singleton.mp z]; exact ha
    · obtain ⟨v, ob, ho, hv⟩ := c.I.cell x y e
      rw [z, pinS.1] at ho
      cases ho
      exact pinS.2.2.2.2 v hv
  · obtain ⟨f0, f1, f2, f3, f4, f5⟩ := c.fp b hb
    refine ⟨f0, f1, f2, f3, f4, fun q hq => ?_⟩
    rcases List.mem_append.mp hq with z | z
    · exact f5 q (List.mem_append_left _ z)
    · rcases List.mem_cons.mp z with z | z
      · rw [z]; exact f5 (S, o) (List.mem_append_right _ List.mem_cons_self)
      · exact f5 q (List.mem_append_right _ (List.mem_cons_of_mem _ z))
/-- a generator expression that has not begun -/
structure Born (g : Gx) (l : Lx) (X : Cx) (pins : List (Addr × Obj)) (σ : Pk.St) (t : Tg) (cnd : Option C) (e : C) (fr : Fr) (u1 : Vw) (xs : List Val) (lk : Option Nat) (k : Nat) (a : Addr) (s5 : Shared) : Prop where
  lt : a < s5.heap.objs.size
  r : HR g l u1
  lkl : LkL u1 lk
  I : Inv X pins σ u1.H s5
  isg : ∃ gi, s5.heap.IsGen a gi
  wake : ∀ A : Around, Room k A → A.frames = some X.stack → ∃ (G : Gn) (gi : Nat) (nm qn : Value) (gs : GenState), G.a = a ∧ G.go = { cls := .type "generator", data := .fields #[.int gi 0, nm, qn] } ∧ G.full = xs ∧ G.b = lockV u1 lk ∧ G.t = t ∧ G.cnd = cnd ∧ G.e = e ∧ G.fr = fr ∧ G.full.length < G.N ∧
    G.X.prog = X.prog ∧ G.X.w = X.w ∧ G.X.pn = [] ∧ G.X.s_0.heap.objs.size ≤ s5.heap.objs.size ∧ s5.gens[gi]? = some gs ∧ (∀ i (h h' : Heap), G.tn i h → (∀ b ∈ G.fp, ∀ o, h.get? b = some o → h'.get? b = some o) → G.tn i h') ∧ (∀ B, Mono g l B → Gn.Goes g l G B A 0 gs) ∧
    (∀ p s', (∀ b o, s5.heap.get? b = some o → s'.heap.get? b = some o) → s'.os = s5.os → AllBare s'.gens → (∀ q ∈ p, s5.heap.objs.size ≤ q.1 ∧ s'.heap.get? q.1 = some q.2 ∧ ∀ v, q.2.data ≠ .cell v) → G.Core g l p (lockV u1 lk) s' ∧ G.tn 0 s'.heap) ∧
    (∀ p u s', G.Core g l p u s' → Inv X pins σ u.H s')
variable {X : Cx} {pins : List (Addr × Obj)} {σ : Pk.St} {s : Shared} {W : WX} {tg elt iter : Expr} {ifs : List Expr} {it : CI} {t : Tg} {cnd : Option C} {e : C} {k : Nat} {c P : Addr} {pos : Pos}
theorem gx_make {scope : Scope} {own : List (Str × Nat)} {Q : Value → Shared → Prop} {z : Hp} {u : Vw} {fr : Fr} (hr : Room (k + 1) X.A) (hc : X.calm = true) (hN : X.N.Nodup) (hdot : (".0" : Str) ∉ X.N) (TB : LamX.TabB X.base X.mg c P) (hcode : X.env.code = .ref c)
    (hmT : (P, X.env.qual ++ "<genexpr>") ∈ g.tabs) (hu : ∀ p ∈ g.tabs, p.1 = P → p.2 = X.env.qual ++ "<genexpr>") (hi : SIE g l X W tg iter it) (ok : GenOk X.N X.env.scope scope own) (ho : own.map (·.2) = t.ixs)
    (hg : ∀ (A : Around) (s : Shared) (H : Hp) (C : Addr) (code : Value) (fp : List Addr), PG (gxCx X A s H scope C code fp []) tg (gT g l t))
    (ht : ∀ (A : Around) (s : Shared) (H : Hp) (C : Addr) (code : Value) (fp : List Addr), Room k (A.deeper (gxEnv X scope C code)) → PTs (gxCx X A s H scope C code fp []) ifs (tC g l cnd))
    (he : ∀ (A : Around) (s : Shared) (H : Hp) (C : Addr) (code : Value) (fp : List Addr), Room k (A.deeper (gxEnv X scope C code)) → SE g l (gxCx X A s H scope C code fp []) W0 elt e)
    (hs : ∀ x, genFold iter X.env x = pure x) (I : Inv X pins σ u.H s) (r : HR g l u) (f : FR l z u fr σ)
    (hexc : ∀ n hh, it fr u.h = .exc n hh → ∀ u', u'.h = hh → Ext u u' → HR g l u' → W (g.err n) none σ u'.H) (hbad : it fr u.h ≠ .bad)
    (hQ : ∀ xs lk h1 u1 a s5, it fr u.h = .ok (xs, lk) h1 → u1.h = h1 → Ext u u1 → Born g l X pins σ t cnd e (wipeF fr t.ixs) u1 xs lk (k + 2) a s5 → Q (.ref a) s5) :
    wpAny (model X.prog X.w) X.A (eval (.GeneratorExp elt [⟨tg, iter, ifs, 0⟩] scope pos) X.env) Q X.xe s := by
  have hfree : ∀ y ∈ scope.names, y.2 = .free → ∃ c, X.env.cells.lookup y.1 = some c := fun y hy e => by
    rcases ok.free y hy e with k | k
    · exact I.ok.has _ (.inl k)
    · exact I.ok.has _ (.inr k)
  refine wpAny_GeneratorExp_make ok.co (closure_ok hfree) ok.nocell ok.dot ok.kind (by have := hr.dp; omega) ?_ hs
  have hrun : tI g l W (Src g l) it σ u.H (fun J H1 => ∃ (xs : List Val) (lk : Option Nat) (h1 : Hv) (u1 : Vw), it fr u.h = .ok (xs, lk) h1 ∧ u1.H = H1 ∧ u1.h = h1 ∧ Ext u u1 ∧ HR g l u1 ∧ SrcAt (Src g l) u1 J xs lk) := by
    refine ⟨z, u, fr, rfl, r, f, ?_⟩
    cases q : it fr u.h with
    | exc n hh => exact hexc n hh q
    | bad => exact absurd q hbad
    | ok p h1 => exact fun u1 e1 x1 r1 J hJ => ⟨p.1, p.2, h1, u1, rfl, rfl, e1, x1, r1, hJ⟩
  refine thn (hi.run pins s σ u.H _ I hrun) fun xv s1 hx => thn hx fun itv s2 h2 => ?_
  obtain ⟨ita, fp, tn, J, H2, e0, I2, T, st2, f2, xs, lk, h1, u1, hit, eH, eh, x1, r1, Al, hS, hk, hal⟩ := h2
  subst e0; subst eH
  refine ⟨I2.nolimit, ?_⟩
  refine gx_code I2 TB hcode hmT hu r1.tab fun code H1 h3 t3 I3 eN T1 hsz3 hk3 hn3 => ?_
  obtain ⟨bm, ob, e1, e2, e3, e4, e5, e6, e7, e8⟩ := TB.bm
  refine wpAny_builtinsFor (m := X.mg) (by rw [I3.ok.glob]; exact I3.mod.glob.keeps I3.bk) e1 e2 (I3.bk _ _ e5) e6 e7 e8 ?_
  intro h' hns hsb
  obtain ⟨r2, x2⟩ := beside r1 eN T1
  obtain ⟨rb, xb⟩ := beside (r1.lock hk) eN T1
  have sz : ∀ b ∈ fp, b < s2.heap.objs.size := fun b hb => by
    obtain ⟨o, e, _⟩ := T.obj _ _ st2 b hb
    exact Heap.lt_size e
  have f3 : ∀ b ∈ fp, FpOk X pins H1 b ∧ b < h3.objs.size := fun b hb => ⟨⟨hn3 b (f2 b hb).1 (sz b hb), (f2 b hb).2⟩, Nat.lt_of_lt_of_le (sz b hb) hsz3⟩
  have st3 : tn 0 h3 := T.keep _ _ _ st2 fun b hb o e => hk3 b o (f2 b hb).1 e
  have hal2 : Al (lockV ⟨u1.ρ, u1.F, H1, u1.h⟩ lk) := hS.keep _ _ hal (r1.lock hk) xb
  have fW : FR l z (lockV ⟨u1.ρ, u1.F, H1, u1.h⟩ lk) (wipeF fr t.ixs) (wipe σ t.ixs) := ((f.ext (x1.trans x2) r).wipe t.ixs).h
  have hk2 : LkL ⟨u1.ρ, u1.F, H1, u1.h⟩ lk := hk
  have hsz' : h'.objs.size = h3.objs.size + 1 := by rw [hsb.1]; exact Heap.size_push ..
  have keep' : ∀ b o, h3.get? b = some o → h'.get? b = some o := fun b o e => hsb.extBut b o (Nat.ne_of_lt (Heap.lt_size e)) (Heap.get?_push_of_some _ e)
  have hle' : h3.objs.size ≤ h'.objs.size := by rw [hsz']; exact Nat.le_succ _
  -- the generator's object
  have main : ∀ (go : Obj) (nm qn : Value) (tk2 : Nat), go = { cls := .type "generator", data := .fields #[.int s2.gens.size 0, nm, qn] } →
      Q (.ref h'.objs.size) { s2 with heap := h'.push go, gens := s2.gens.push (.fresh (.compStart (.GeneratorExp elt [⟨tg, iter, ifs, 0⟩] scope pos) 0 (.ref ita) .none (gxEnv X scope h3.objs.size code))), toks := tk2 } := by
    intro go nm qn tk2 hgo
    have hgp : (h'.push go).get? h'.objs.size = some go := by rw [hgo]; exact Heap.get?_push_size _ rfl
    have hgd : ∀ v, go.data ≠ .cell v := fun v q => by rw [hgo] at q; cases q
    generalize hs5 : ({ s2 with heap := h'.push go, gens := s2.gens.push (.fresh (.compStart (.GeneratorExp elt [⟨tg, iter, ifs, 0⟩] scope pos) 0 (.ref ita) .none (gxEnv X scope h3.objs.size code))), toks := tk2 } : Shared) = s5
    have h5h : s5.heap = h'.push go := by rw [← hs5]
    have h5g : s5.gens = s2.gens.push (.fresh (.compStart (.GeneratorExp elt [⟨tg, iter, ifs, 0⟩] scope pos) 0 (.ref ita) .none (gxEnv X scope h3.objs.size code))) := by rw [← hs5]
    have h5o : s5.os = s2.os := by rw [← hs5]
    have h5s : s5.heap.objs.size = h3.objs.size + 2 := by rw [h5h, Heap.size_push, hsz']
    have keep5 : ∀ b o, h3.get? b = some o → s5.heap.get? b = some o := fun b o e => by rw [h5h]; exact Heap.get?_push_of_some _ (keep' b o e)
    have bare5 : AllBare s5.gens := by rw [h5g]; exact AllBare.push I3.bare rfl
    have I5 : Inv X pins σ H1 s5 := by
      have := (I3.kept (h' := s5.heap) (t' := s5.toks) keep5)
      have := Pk.Inv.gens this bare5
      rw [← hs5] at this ⊢
      exact this
    refine hQ xs lk h1 ⟨u1.ρ, u1.F, H1, u1.h⟩ h'.objs.size s5 hit eh (x1.trans x2) ⟨by rw [h5s, hsz']; exact Nat.lt_succ_self _, r2, hk2, I5, ⟨s2.gens.size, go, nm, qn, by rw [h5h]; exact hgp, by rw [hgo], by rw [hgo], by rw [hgo]⟩, fun A hA hfr => ?_⟩
    have hd1 : A.in1.handled = none := hA.hd
    have fr1 : A.in1.frames = some X.stack := hfr
    have nofr : ∀ b, h3.objs.size ≤ b → b ∉ frs X.stack := fun b hb zz => by
      rcases List.mem_cons.mp (I3.stkSub _ zz) with q | q
      · have h1 : X.env.locals < h3.objs.size := I3.lt
        rw [← q] at h1
        exact Nat.lt_irrefl _ (Nat.lt_of_lt_of_le h1 hb)
      · exact I3.nofs hb q
    have start : ∀ s' : Shared, (∀ b o, s5.heap.get? b = some o → s'.heap.get? b = some o) → s'.os = s5.os → AllBare s'.gens → Inv (gxCx X A.in1 { s2 with heap := h3, toks := t3 } H1 scope h3.objs.size code fp []) [] (wipe σ (own.map (·.2))) H1 s' := fun s' k1 k2 k3 =>
      gx_start (it := .ref ita) I3 ok hN f3 hd1 fr1 (k2.trans h5o) k3 (fun b o e => k1 b o (keep5 b o e)) (hns.keeps fun b o e => k1 b o (by rw [h5h]; exact Heap.get?_push_of_some _ e)) hdot
    refine ⟨{ X := gxCx X A.in1 { s2 with heap := h3, toks := t3 } H1 scope h3.objs.size code fp [], it := ita, fp := fp, tn := tn, J := J, full := xs, Al := Al, b := lockV ⟨u1.ρ, u1.F, H1, u1.h⟩ lk, z := z, fr := wipeF fr t.ixs, σ := wipe σ t.ixs, a := h'.objs.size, go := go, t := t, cnd := cnd, e := e, N := xs.length + 1 },
      s2.gens.size, nm, qn, _, rfl, hgo, rfl, rfl, rfl, rfl, rfl, rfl, Nat.lt_succ_self _, rfl, rfl, rfl, by rw [h5s]; exact Nat.le_add_right _ _, by rw [h5g]; exact Array.getElem?_push_size .., fun i h h' q1 q2 => T.keep i h h' q1 q2, fun B hB s' hR => ?_, fun p s' k1 k2 k3 k4 => ?_, fun p u' s' hC => ?_⟩
    · have okG : Gn.Ok g l { X := gxCx X A.in1 { s2 with heap := h3, toks := t3 } H1 scope h3.objs.size code fp [], it := ita, fp := fp, tn := tn, J := J, full := xs, Al := Al, b := lockV ⟨u1.ρ, u1.F, H1, u1.h⟩ lk, z := z, fr := wipeF fr t.ixs, σ := wipe σ t.ixs, a := h'.objs.size, go := go, t := t, cnd := cnd, e := e, N := xs.length + 1 } tg B :=
        ⟨T, rfl, rfl, fun b hb => .inl hb, hS, hal2, rb, fW, wipe_wipe _ _, hB⟩
      have rm : Room k (A.in1.deeper (gxEnv X scope h3.objs.size code)) := by
        have q := (show Room (k + 1) A.in1 from ⟨hA.hd, by have := hA.dp; show A.depth + 3 * (k + 1) + 5 < _; omega, by have := hA.un; show A.units + 1 + 16 * (k + 1) + 200 < _; omega⟩)
        exact q.deeper _
      exact ⟨rfl, Gn.segStart okG over_turn (hg _ _ _ _ _ _) (ht _ _ _ _ _ _ rm) (he _ _ _ _ _ _ rm) ok.co (Nat.lt_succ_self _) s' s' hR⟩
    · have I6 := start s' k1 k2 k3
      rw [ho] at I6
      refine ⟨⟨rb, Ext.refl _, I6.pins_of fun q hq => ?_, fun b hb => ?_⟩, T.keep _ _ _ st3 fun b _ o e => k1 b o (keep5 b o e)⟩
      · rcases List.mem_append.mp hq with z1 | z1
        · obtain ⟨q1, q2, q3⟩ := k4 q z1
          rw [h5s] at q1
          have q1' : (h3.objs.size : Nat) ≤ q.1 := Nat.le_trans (Nat.le_add_right _ 2) q1
          exact ⟨q2, I3.hok.fresh q1', Nat.ne_of_gt (Nat.lt_of_lt_of_le (Nat.lt_add_of_pos_right (by decide)) q1), nofr _ q1', q3⟩
        · rw [List.mem_singleton.mp z1]
          exact ⟨k1 _ _ (by rw [h5h]; exact hgp), I3.hok.fresh hle', Nat.ne_of_gt (by rw [hsz']; exact Nat.lt_succ_self _), nofr _ hle', hgd⟩
      · obtain ⟨q1, q2⟩ := f3 b hb
        refine ⟨q1.1, Nat.ne_of_lt q2, I6.ok.exfs b hb, .inl hb, (I6.ok.exf b hb).2, fun q hq => ?_⟩
        rcases List.mem_append.mp hq with z1 | z1
        · cases z1
        · rcases List.mem_append.mp z1 with z1 | z1
          · have q3 := (k4 q z1).1
            rw [h5s] at q3
            exact Nat.ne_of_gt (Nat.lt_of_lt_of_le q2 (Nat.le_trans (Nat.le_add_right _ 2) q3))
          · rw [List.mem_singleton.mp z1]
            exact Nat.ne_of_gt (Nat.lt_of_lt_of_le q2 hle')
    · have I6 := hC.I
      have z1 : Inv X pins σ u'.H { s' with os := s'.os } := I3.call' (ch := fp) I6.os I6.base I6.hok I6.bare fun b hb => ⟨(f3 b hb).1.2.2.2.1, (f3 b hb).1.2.1, (f3 b hb).1.2.2.2.2.1, (f3 b hb).1.2.2.2.2.2⟩
      exact z1
  exact main _ _ _ _ rfl
end
end Pk

set_option maxRecDepth 100000
/-! Pk28: any(..), all(..) of a generator expression. -/
namespace Pk
open PySem PySem.Spec PyProof.Rows L2

/-- any (stop = true), all (stop = false) -/
def anyS (stop : Bool) (t : Tg) (cnd : Option C) (e : C) (fr : Fr) : Nat → List Val → Hv → Res Val
  | 0, _, _ => .bad
  | n + 1, xs, h => (gStep t cnd e fr xs h).bind fun o h1 => match o with
    | none => .ok (.bl (!stop)) h1
    | some (.bl b, xs') => if b = stop then .ok (.bl stop) h1 else anyS stop t cnd e fr n xs' h1
    | _ => .bad
def cAnyS (stop : Bool) (t : Tg) (it : CI) (cnd : Option C) (e : C) : C := fun fr h => (it fr h).bind fun p h1 => (anyS stop t cnd e (wipeF fr t.ixs) (p.1.length + 1) p.1 (lockO h1 p.2)).calm.bind fun y h2 => .ok y (unlockO h2 p.2)
section
variable {g : Gx} {l : Lx} {G : Gn}
/-- nothing is kept but the truth -/
def B0 : List (Addr × Obj) → List Val → Vw → Prop := fun p _ _ => p = []
theorem mono0 : Mono g l B0 := fun _ _ _ _ h _ _ => h
theorem any_loop {stop : Bool} {nm : String} (hnm : (stop = true ∧ nm = "any.loop") ∨ (stop = false ∧ nm = "all.loop")) {A : Around} {R : Result → Shared → Prop} {gi : Nat} {nm1 qn : Value} {s5 : Shared} (hh : A.handled = none) (hd : A.depth < recursionLimit) (hgo : G.go = { cls := .type "generator", data := .fields #[.int gi 0, nm1, qn] }) (hN : G.full.length < G.N) :
    ∀ (n j : Nat) (u : Vw) (d xs : List Val) (gs : GenState) (s : Shared) (y : Val) (h' : Hv), G.traj j = some (d, xs, u.h) → xs = G.full.drop (G.full.length - xs.length) → j + xs.length ≤ G.full.length → G.Core g l [] u s → G.tn (G.full.length - xs.length) s.heap → s.gens[gi]? = some gs → Gn.Goes g l G B0 A.in1 j gs →
      anyS stop G.t G.cnd G.e G.fr n xs u.h = .ok y h' → (∀ u' s', u'.h = h' → G.Core g l [] u' s' → ∀ b, y = .bl b → R (.ok (.ret (.bool b))) s') → codeAny (model G.X.prog G.X.w) A (.builtin nm ⟨[.ref G.a], []⟩) R s := by
  intro n
  induction n with
  | zero => intro j u d xs gs s y h' _ _ _ _ _ _ _ h; cases h
  | succ n ih =>
    intro j u d xs gs s y h' t1 t2 t3 c tn hgs go h hR
    unfold anyS at h
    cases q : gStep G.t G.cnd G.e G.fr xs u.h with
    | exc _ _ => rw [q] at h; cases h
    | bad => rw [q] at h; cases h
    | ok o h1 =>
      rw [q] at h
      have rest : G.Rest g l B0 j s := ⟨[], u, d, xs, t1, t2, t3, c, tn, rfl, o, h1, q⟩
      -- the next
      have nxt : ∀ {Q : Option Value → Shared → Prop} {E : Value → Shared → Prop}, (o = none → ∀ u' s', u'.h = h1 → G.Core g l [] u' s' → Q none s') →
          (∀ b xs', o = some (.bl b, xs') → ∀ u' s' gs', u'.h = h1 → G.traj (j + 1) = some (d ++ [.bl b], xs', u'.h) → xs' = G.full.drop (G.full.length - xs'.length) → j + 1 + xs'.length ≤ G.full.length → G.Core g l [] u' s' → G.tn (G.full.length - xs'.length) s'.heap → s'.gens[gi]? = some gs' → Gn.Goes g l G B0 A.in1 (j + 1) gs' → Q (some (.bool b)) s') →
          (∀ y xs', o = some (y, xs') → ∃ b, y = .bl b) → wpAny (model G.X.prog G.X.w) A.in1 (pyNext (.ref G.a)) Q E s := fun {Q E} k0 k1 k2 => by
        refine Gn.next (A := A.in1) hh hd hgo hN rest hgs go (fun v gs' p u2 d2 xs2 xs' hx y2 w s1 e1 e2 e3 e4 e5 e6 e7 e8 e9 e10 e11 e12 => ?_) fun p u2 d2 xs2 hx s1 e3 e4 e8 e10 => ?_
        · rw [t1] at e3
          injection e3 with e3; injection e3 with ea e3; injection e3 with eb ec
          subst ea; subst eb; subst ec
          have e4 : gStep G.t G.cnd G.e G.fr xs u.h = _ := e4
          rw [q] at e4
          injection e4 with e4 e4'
          obtain ⟨b, rfl⟩ := k2 y2 xs' e4
          obtain rfl : p = [] := e10
          obtain rfl : w = .bl b := e11
          obtain rfl : v = .bool b := e12
          exact k1 b xs' e4 u2 s1 gs' e4'.symm e5 e6 e7 e8 e9 e1 e2
        · rw [t1] at e3
          injection e3 with e3; injection e3 with ea e3; injection e3 with eb ec
          subst ea; subst eb; subst ec
          have e4 : gStep G.t G.cnd G.e G.fr xs u.h = _ := e4
          rw [q] at e4
          injection e4 with e4 e4'
          obtain rfl : p = [] := e10
          exact k0 e4 u2 s1 e4'.symm e8
      have go1 : o = none → y = .bl (!stop) ∧ h1 = h' := fun e => by subst e; cases h; exact ⟨rfl, rfl⟩
      have go2 : ∀ z xs', o = some (z, xs') → ∃ b, z = .bl b := fun z xs' e => by
        subst e
        cases z <;> first | exact ⟨_, rfl⟩ | cases h
      have go3 : ∀ b xs', o = some (.bl b, xs') → b = stop → y = .bl stop ∧ h1 = h' := fun b xs' e eb => by
        subst e; subst eb
        have h : (if b = b then Res.ok (Val.bl b) h1 else anyS b G.t G.cnd G.e G.fr n xs' h1) = .ok y h' := h
        rw [if_pos rfl] at h; cases h; exact ⟨rfl, rfl⟩
      have go4 : ∀ b xs', o = some (.bl b, xs') → b ≠ stop → anyS stop G.t G.cnd G.e G.fr n xs' h1 = .ok y h' := fun b xs' e eb => by
        subst e
        have h : (if b = stop then Res.ok (Val.bl stop) h1 else anyS stop G.t G.cnd G.e G.fr n xs' h1) = .ok y h' := h
        rw [if_neg eb] at h; exact h
      rcases hnm with ⟨rfl, rfl⟩ | ⟨rfl, rfl⟩
      · refine codeAny_builtin F.entry_any_loop ?_
        rw [Around.under_plainId F.plain_any_loop _]
        show wpAny _ A.in1 (pyNext (.ref G.a) >>= _) _ _ s
        refine wpAny_bind (nxt (fun e u' s' eh c' => ?_) (fun b xs' e u' s' gs' eh a1 a2 a3 c' tn' hg' g' => ?_) go2)
        · obtain ⟨rfl, rfl⟩ := go1 e
          exact wpAny_bind (wpAny_rule (wpAny_pure (hR u' s' eh c' false rfl)))
        · refine wpAny_bind (wpAny_holding (wpAny_truthy_bool ?_))
          refine wpAny_bind (wpAny_letGo ?_)
          cases b with
          | false =>
            simp only [Bool.false_eq_true, if_false]
            exact wpAny_pure ⟨plainId_quiet F.plain_any_loop _, ih (j + 1) u' _ xs' gs' s' y h' a1 a2 a3 c' tn' hg' g' (by rw [eh]; exact go4 _ _ e (by decide)) hR⟩
          | true =>
            simp only [if_true]
            obtain ⟨rfl, rfl⟩ := go3 _ _ e rfl
            exact wpAny_bind (wpAny_rule (wpAny_pure (hR u' s' eh c' true rfl)))
      · refine codeAny_builtin F.entry_all_loop ?_
        rw [Around.under_plainId F.plain_all_loop _]
        show wpAny _ A.in1 (pyNext (.ref G.a) >>= _) _ _ s
        refine wpAny_bind (nxt (fun e u' s' eh c' => ?_) (fun b xs' e u' s' gs' eh a1 a2 a3 c' tn' hg' g' => ?_) go2)
        · obtain ⟨rfl, rfl⟩ := go1 e
          exact wpAny_bind (wpAny_rule (wpAny_pure (hR u' s' eh c' true rfl)))
        · refine wpAny_bind (wpAny_holding (wpAny_truthy_bool ?_))
          refine wpAny_bind (wpAny_letGo ?_)
          cases b with
          | true =>
            simp only [if_true]
            exact wpAny_pure ⟨plainId_quiet F.plain_all_loop _, ih (j + 1) u' _ xs' gs' s' y h' a1 a2 a3 c' tn' hg' g' (by rw [eh]; exact go4 _ _ e (by decide)) hR⟩
          | false =>
            simp only [Bool.false_eq_true, if_false]
            obtain ⟨rfl, rfl⟩ := go3 _ _ e rfl
            exact wpAny_bind (wpAny_rule (wpAny_pure (hR u' s' eh c' false rfl)))
variable {X : Cx} {pins : List (Addr × Obj)} {σ : Pk.St} {W : WX} {tg elt iter : Expr} {ifs : List Expr} {it : CI} {t : Tg} {cnd : Option C} {e : C} {k : Nat} {c P : Addr} {pos : Pos}
theorem any_born {stop : Bool} {nm : String} (hnm : (stop = true ∧ nm = "any") ∨ (stop = false ∧ nm = "all")) {fr : Fr} {u1 : Vw} {xs : List Val} {lk : Option Nat} {a : Addr} {s5 : Shared} {Q : Value → Shared → Prop} {E : Value → Shared → Prop} {y : Val} {h2 : Hv} (hr : Room (k + 3) X.A) (hfr : X.A.frames = some X.stack) (b : Born g l X pins σ t cnd e fr u1 xs lk (k + 2) a s5)
    (h : anyS stop t cnd e fr (xs.length + 1) xs (lockO u1.h lk) = .ok y h2) (hQ : ∀ u' s', u'.h = unlockO h2 lk → Ext u1 u' → HR g l u' → Inv X pins σ u'.H s' → ∀ b, y = .bl b → Q (.bool b) s') :
    wpAny (model X.prog X.w) X.A (call (.builtin nm) [.ref a]) Q E s5 := by
  obtain ⟨gi', isg⟩ := b.isg
  have hr1 : Room (k + 2) X.A.in1 := ⟨hr.hd, by have := hr.dp; show X.A.depth + 3 * (k + 2) + 5 < _; omega, by have := hr.un; show X.A.units + 1 + 16 * (k + 2) + 200 < _; omega⟩
  obtain ⟨G, gi, n1, qn, gs, ea, ego, ef, eb, et, ec, ee, efr, hN, ep, ew, epn, hsz, hgs, _, goes, core, back⟩ := b.wake X.A.in1 hr1 hfr
  obtain ⟨c0, tn0⟩ := core [] s5 (fun _ _ e => e) rfl b.I.bare fun q hq => by cases hq
  have t0 : G.traj 0 = some ([], xs, (lockV u1 lk).h) := by show some (([] : List Val), G.full, G.b.h) = _; rw [ef, eb]
  have fin : ∀ u' s', u'.h = h2 → G.Core g l [] u' s' → ∀ b, y = .bl b → Q (.bool b) s' := fun u' s' e1 c1 bb e2 => by
    have x := c1.x
    rw [eb] at x
    obtain ⟨k1, x2⟩ := x.unlock b.r b.lkl
    exact hQ (unlockV u' lk) s' (by show unlockO u'.h lk = _; rw [e1]) x2 (c1.r.unlock k1) (show Inv X pins σ (unlockV u' lk).H s' from back _ u' s' c1) bb e2
  have loop : ∀ nmL, ((stop = true ∧ nmL = "any.loop") ∨ (stop = false ∧ nmL = "all.loop")) → codeAny (model X.prog X.w) X.A (.builtin nmL ⟨[.ref a], []⟩) (fun r s' => match r with | .ok (.ret v) => Q v s' | .ok _ => False | .error e => E e s') s5 := fun nmL hL => by
    have q := any_loop (G := G) (g := g) (l := l) (s5 := s5) (R := fun r s' => match r with | .ok (.ret v) => Q v s' | .ok _ => False | .error e => E e s') hL hr.hd (by have := hr.dp; omega) ego hN (xs.length + 1) 0 (lockV u1 lk) [] xs gs s5 y h2 t0 (by rw [ef]; simp) (by rw [ef]; omega) c0 (by rw [ef, Nat.sub_self]; exact tn0) hgs (goes B0 mono0)
      (by rw [et, ec, ee, efr]; exact h) fun u' s' e1 c1 bb e2 => fin u' s' e1 c1 bb e2
    rw [ep, ew, ea] at q
    exact q
  rcases hnm with ⟨rfl, rfl⟩ | ⟨rfl, rfl⟩
  · refine call_function_tree F.kind_any F.plain_any F.entry_any (F.args_any1 _) ?_
    unfold Builtin.«any»
    refine wpAny_bind (m := oneArg "any" _) (wpAny_pure ?_)
    refine wpAny_bind (wpAny_pyIter_gen isg ?_)
    exact wpAny_pure ⟨plainId_quiet F.plain_any_loop _, loop "any.loop" (.inl ⟨rfl, rfl⟩)⟩
  · refine call_function_tree F.kind_all F.plain_all F.entry_all (F.args_all1 _) ?_
    unfold Builtin.«all»
    refine wpAny_bind (m := oneArg "all" _) (wpAny_pure ?_)
    refine wpAny_bind (wpAny_pyIter_gen isg ?_)
    exact wpAny_pure ⟨plainId_quiet F.plain_all_loop _, loop "all.loop" (.inr ⟨rfl, rfl⟩)⟩
theorem anyS_bl {stop : Bool} {fr : Fr} : ∀ {n : Nat} {xs : List Val} {h h' : Hv} {y : Val}, anyS stop t cnd e fr n xs h = .ok y h' → ∃ b, y = .bl b := by
  intro n
  induction n with
  | zero => intro xs h h' y q; cases q
  | succ n ih =>
    intro xs h h' y q
    unfold anyS at q
    cases q1 : gStep t cnd e fr xs h with
    | exc _ _ => rw [q1] at q; cases q
    | bad => rw [q1] at q; cases q
    | ok o h1 =>
      rw [q1] at q
      match o, q with
      | none, q => cases q; exact ⟨_, rfl⟩
      | some (.bl b, xs'), q =>
        have q : (if b = stop then Res.ok (Val.bl stop) h1 else anyS stop t cnd e fr n xs' h1) = .ok y h' := q
        split at q
        · cases q; exact ⟨_, rfl⟩
        · exact ih q
theorem se_anyS {stop : Bool} {x : String} {scope : Scope} {own : List (Str × Nat)} {p gpos : Pos} (hnm : (stop = true ∧ x = "any") ∨ (stop = false ∧ x = "all")) (hr : Room (k + 3) X.A) (hfr : ∀ pins σ H s, Inv X pins σ H s → X.A.frames = some X.stack) (hgl : Gl X x) (hm : X.mg x = none) (hb : bootBuiltins x = some (.builtin x))
    (hc : X.calm = true) (hN : X.N.Nodup) (hdot : (".0" : Str) ∉ X.N) (TB : LamX.TabB X.base X.mg c P) (hcode : X.env.code = .ref c)
    (hmT : (P, X.env.qual ++ "<genexpr>") ∈ g.tabs) (hu : ∀ p ∈ g.tabs, p.1 = P → p.2 = X.env.qual ++ "<genexpr>") (hi : SIE g l X W tg iter it) (ok : GenOk X.N X.env.scope scope own) (ho : own.map (·.2) = t.ixs)
    (hg : ∀ (A : Around) (s : Shared) (H : Hp) (C : Addr) (code : Value) (fp : List Addr), PG (gxCx X A s H scope C code fp []) tg (gT g l t))
    (ht : ∀ (A : Around) (s : Shared) (H : Hp) (C : Addr) (code : Value) (fp : List Addr), Room k (A.deeper (gxEnv X scope C code)) → PTs (gxCx X A s H scope C code fp []) ifs (tC g l cnd))
    (he : ∀ (A : Around) (s : Shared) (H : Hp) (C : Addr) (code : Value) (fp : List Addr), Room k (A.deeper (gxEnv X scope C code)) → SE g l (gxCx X A s H scope C code fp []) W0 elt e)
    (hs : ∀ x, genFold iter X.env x = pure x)
    (hes : starEach [.GeneratorExp elt [⟨tg, iter, ifs, 0⟩] scope gpos] X.env = (false, eval (.GeneratorExp elt [⟨tg, iter, ifs, 0⟩] scope gpos) X.env) :: starEach [] X.env := by rfl) :
    SE g l X W (.Call (.Name x p) [.GeneratorExp elt [⟨tg, iter, ifs, 0⟩] scope gpos] [] pos) (cAnyS stop t it cnd e) := by
  refine ⟨fun pins s σ H Q I ⟨z, u, fr, e1, e2, e3, e4⟩ => ?_⟩
  subst e1
  refine wpAny_Call_Name_kw (ld_blt (hn := by rcases hnm with ⟨_, rfl⟩ | ⟨_, rfl⟩ <;> decide) (hd := by rcases hnm with ⟨_, rfl⟩ | ⟨_, rfl⟩ <;> decide) I hgl hm hb ?_)
  refine PyProof.Rows.callWith_builtin1 ?_ hes (by rfl)
  rw [hes]
  show wpAny _ _ (spliced ((false, eval (.GeneratorExp elt [⟨tg, iter, ifs, 0⟩] scope gpos) X.env) :: backTo pos (starEach [] X.env))) _ _ s
  have e4 : Run g l W σ (RepV l) Q u ((it fr u.h).bind fun p h1 => (anyS stop t cnd e (wipeF fr t.ixs) (p.1.length + 1) p.1 (lockO h1 p.2)).calm.bind fun y h2 => .ok y (unlockO h2 p.2)) := e4
  refine Calls.spliced_cons (gx_make (W := W) (k := k) (⟨hr.hd, by have := hr.dp; omega, by have := hr.un; omega⟩) hc hN hdot TB hcode hmT hu hi ok ho hg ht he hs I e2 e3 (fun n hh q => by rw [q] at e4; exact e4) (fun q => by rw [q] at e4; exact e4) fun xs lk h1 u1 a s5 q eh x1 b => ?_)
  rw [q] at e4
  have e4 : Run g l W σ (RepV l) Q u ((anyS stop t cnd e (wipeF fr t.ixs) (xs.length + 1) xs (lockO h1 lk)).calm.bind fun y h2 => .ok y (unlockO h2 lk)) := e4
  refine Calls.spliced_nil ?_
  rw [← eh] at e4
  cases q2 : anyS stop t cnd e (wipeF fr t.ixs) (xs.length + 1) xs (lockO u1.h lk) with
  | exc _ _ => rw [q2] at e4; exact e4.elim
  | bad => rw [q2] at e4; exact e4.elim
  | ok y h2 =>
    rw [q2] at e4
    refine any_born hnm hr (hfr _ _ _ _ I) b q2 fun u' s' eu x2 r2 I2 bb eb => ?_
    subst eb
    exact ⟨.bl bb, u'.H, I2, rfl, e4 u' eu (x1.trans x2) r2 (.bl bb) rfl⟩
end
end Pk

set_option maxRecDepth 100000
/-! Pk29: the items of a generator expression, collected. -/
namespace Pk
open PySem PySem.Spec PyProof.Rows L2

/-- all items -/
def genS (t : Tg) (cnd : Option C) (e : C) (fr : Fr) : Nat → List Val → Hv → Res (List Val)
  | 0, _, _ => .bad
  | n + 1, xs, h => (gStep t cnd e fr xs h).bind fun o h1 => match o with
    | none => .ok [] h1
    | some (y, xs') => (genS t cnd e fr n xs' h1).bind fun ys h2 => .ok (y :: ys) h2
section
variable {g : Gx} {l : Lx} {G : Gn}
/-- the consumer's list -/
def BL (l : Lx) (S : Addr) : List (Addr × Obj) → List Val → Vw → Prop := fun p d u => ∃ acc c ws, p = [(S, L2.lstObj acc c)] ∧ Vals ws acc.toList ∧ RepVs l u d ws
theorem monoL {S : Addr} : Mono g l (BL l S) := fun _ _ _ _ ⟨acc, c, ws, e, v, r⟩ x hr => ⟨acc, c, ws, e, v, r.ext x hr⟩
theorem Vals.len2 {ws : List V} {vs : List Value} (h : Vals ws vs) : vs.length = ws.length := h.length.symm
theorem extend_loop {A : Around} {R : Result → Shared → Prop} {gi : Nat} {nm1 qn res : Value} {S : Addr} (hh : A.handled = none) (hd : A.depth < recursionLimit) (hgo : G.go = { cls := .type "generator", data := .fields #[.int gi 0, nm1, qn] }) (hN : G.full.length < G.N) (hpn : G.X.pn = []) (hS : G.X.s_0.heap.objs.size ≤ S) (hSa : G.a ≠ S) (hfp : ∀ p u s, G.Core g l ((S, p) :: []) u s → ∀ b ∈ G.fp, b ≠ S) 
    (tkeep : ∀ i (h h' : Heap), G.tn i h → (∀ b ∈ G.fp, ∀ o, h.get? b = some o → h'.get? b = some o) → G.tn i h') :
    ∀ (n j : Nat) (u : Vw) (d xs : List Val) (acc : Array Value) (cc : Nat) (ws : List V) (gs : GenState) (s : Shared) (ys : List Val) (h' : Hv), G.traj j = some (d, xs, u.h) → xs = G.full.drop (G.full.length - xs.length) → j + xs.length ≤ G.full.length → G.Core g l [(S, L2.lstObj acc cc)] u s → Vals ws acc.toList → RepVs l u d ws → G.tn (G.full.length - xs.length) s.heap → s.gens[gi]? = some gs → Gn.Goes g l G (BL l S) A.in1 j gs →
      genS G.t G.cnd G.e G.fr n xs u.h = .ok ys h' → (d ++ ys).length ≤ big → (∀ u' s' acc cc ws, u'.h = h' → G.Core g l [(S, L2.lstObj acc cc)] u' s' → Vals ws acc.toList → RepVs l u' (d ++ ys) ws → R (.ok (.ret res)) s') → codeAny (model G.X.prog G.X.w) A (.builtin "list.extend.loop" ⟨[.ref S, .ref G.a, res], []⟩) R s := by
  intro n
  induction n with
  | zero => intro j u d xs acc cc ws gs s ys h' _ _ _ _ _ _ _ _ _ h; cases h
  | succ n ih =>
    intro j u d xs acc cc ws gs s ys h' t1 t2 t3 c hv hrep tn hgs go h hlen hR
    unfold genS at h
    cases q : gStep G.t G.cnd G.e G.fr xs u.h with
    | exc _ _ => rw [q] at h; cases h
    | bad => rw [q] at h; cases h
    | ok o h1 =>
      rw [q] at h
      have rest : G.Rest g l (BL l S) j s := ⟨_, u, d, xs, t1, t2, t3, c, tn, ⟨acc, cc, ws, rfl, hv, hrep⟩, o, h1, q⟩
      refine codeAny_builtin F.entry_extend_loop ?_
      rw [Around.under_plainId F.plain_extend_loop _]
      show wpAny _ A.in1 (pyNext (.ref G.a) >>= _) _ _ s
      refine wpAny_bind (Gn.next (A := A.in1) hh hd hgo hN rest hgs go (fun v gs' p u2 d2 xs2 xs' hx y2 w s1 e1 e2 e3 e4 e5 e6 e7 e8 e9 e10 e11 e12 => ?_) fun p u2 d2 xs2 hx s1 e3 e4 e8 e10 => ?_)
      · rw [t1] at e3
        injection e3 with e3; injection e3 with ea e3; injection e3 with eb ec
        subst ea; subst eb; subst ec
        have e4 : gStep G.t G.cnd G.e G.fr xs u.h = _ := e4
        rw [q] at e4
        injection e4 with e4 e4'
        subst e4
        obtain ⟨acc2, c2, ws2, rfl, v2, r2⟩ := e10
        have h : ((genS G.t G.cnd G.e G.fr n xs' h1).bind fun ys h2 => Res.ok (y2 :: ys) h2) = .ok ys h' := h
        cases q2 : genS G.t G.cnd G.e G.fr n xs' h1 with
        | exc _ _ => rw [q2] at h; cases h
        | bad => rw [q2] at h; cases h
        | ok zs h2 =>
          rw [q2] at h
          have h : Res.ok (y2 :: zs) h2 = .ok ys h' := h
          cases h
          have pin := e8.I.pin (S, L2.lstObj acc2 c2) (List.mem_append_right _ List.mem_cons_self)
          have hS1 : s1.heap.get? S = some (L2.lstObj acc2 c2) := pin.1
          have hsz : acc2.size < sizeLine := by
            have k1 : acc2.toList.length = ws2.length := v2.length.symm
            have k2 := r2.length
            have k3 : acc2.toList.length = acc2.size := by simp
            rw [List.length_append, List.length_cons] at hlen
            have k4 : big = 1000000 := rfl
            rw [sizeLine_eq]
            omega
          show wpAny _ A.in1 (updateSeq S (·.push v) >>= _) _ _ s1
          refine wpAny_bind (wpAny_updateSeq hS1 rfl (wpAny_pure ⟨plainId_quiet F.plain_extend_loop _, ?_⟩) (Nat.le_of_lt hsz) (by show (acc2.push v).size ≤ sizeLine + 1; rw [Array.size_push]; omega))
          have hk : ∀ b o, b ≠ S → s1.heap.get? b = some o → (s1.heap.update S (Obj.mapSeq (·.push v))).get? b = some o := fun b o hb e => (Heap.get?_update_other _ _ (Ne.symm hb)).trans e
          have hat := Heap.get?_update_self (Obj.mapSeq (·.push v)) hS1 rfl
          obtain ⟨c3, hat2⟩ : ∃ c3, (s1.heap.update S (Obj.mapSeq (·.push v))).get? S = some (L2.lstObj (acc2.push v) c3) := ⟨_, hat⟩
          have cN := e8.repin (d' := s1.drawn) (t' := s1.toks) (o' := L2.lstObj (acc2.push v) c3) hpn hS (fun q hq => by cases hq) hSa hk hat2 (fun v q => by cases q)
          refine ih (j + 1) u2 _ xs' (acc2.push v) c3 (ws2 ++ [w]) gs' _ zs _ e5 e6 e7 cN (by rw [Array.toList_push]; exact v2.append (.cons e12 .nil)) (RepVs.append r2 (RepVs.one e11)) (tkeep _ _ _ e9 fun b hb o e => hk b o (hfp _ _ _ e8 b hb) e) e1 e2 (by rw [← e4']; exact q2) (by rw [List.append_assoc]; exact hlen) fun u' s' acc' cc' ws' k1 k2 k3 k4 => hR u' s' acc' cc' ws' k1 k2 k3 (by rw [List.append_assoc] at k4; exact k4)
      · rw [t1] at e3
        injection e3 with e3; injection e3 with ea e3; injection e3 with eb ec
        subst ea; subst eb; subst ec
        have e4 : gStep G.t G.cnd G.e G.fr xs u.h = _ := e4
        rw [q] at e4
        injection e4 with e4 e4'
        subst e4
        obtain ⟨acc2, c2, ws2, rfl, v2, r2⟩ := e10
        have h : Res.ok ([] : List Val) h1 = .ok ys h' := h
        cases h
        exact wpAny_pure (hR u2 s1 acc2 c2 ws2 e4'.symm e8 v2 (by rw [List.append_nil]; exact r2))
variable {X : Cx} {pins : List (Addr × Obj)} {σ : Pk.St} {W : WX} {tg elt iter : Expr} {ifs : List Expr} {it : CI} {t : Tg} {cnd : Option C} {e : C} {k : Nat} {c P : Addr} {pos : Pos}
theorem collect_born {A : Around} {fr : Fr} {u1 : Vw} {xs : List Val} {lk : Option Nat} {a : Addr} {s5 : Shared} {Q : List Value → Shared → Prop} {E : Value → Shared → Prop} {ys : List Val} {h2 : Hv} (hr : Room (k + 3) A) (hfr : A.frames = some X.stack) (b : Born g l X pins σ t cnd e fr u1 xs lk (k + 2) a s5)
    (h : genS t cnd e fr (xs.length + 1) xs (lockO u1.h lk) = .ok ys h2) (hlen : ys.length ≤ big) (hQ : ∀ u' s' vs ws, u'.h = unlockO h2 lk → Ext u1 u' → HR g l u' → Inv X pins σ u'.H s' → Vals ws vs → RepVs l u' ys ws → Q vs s') :
    wpAny (model X.prog X.w) A (collect (.ref a)) Q E s5 := by
  obtain ⟨gi', isg⟩ := b.isg
  have hr1 : Room (k + 2) A.in1 := ⟨hr.hd, by have := hr.dp; show A.depth + 3 * (k + 2) + 5 < _; omega, by have := hr.un; show A.units + 1 + 16 * (k + 2) + 200 < _; omega⟩
  obtain ⟨G, gi, n1, qn, gs, ea, ego, ef, eb, et, ec, ee, efr, hN, ep, ew, epn, hsz, hgs, tkeep, goes, core, back⟩ := b.wake A.in1 hr1 hfr
  have hlt := b.lt
  have hSa : s5.heap.objs.size ≠ a := Nat.ne_of_gt hlt
  have up : ∀ (h : Heap) (f : Obj → Obj), (∀ b o, s5.heap.get? b = some o → h.get? b = some o) → ∀ b o, s5.heap.get? b = some o → (h.update s5.heap.objs.size f).get? b = some o := fun h f q b o e =>
    (Heap.get?_update_other _ _ (Ne.symm (Nat.ne_of_lt (Heap.lt_size e)))).trans (q b o e)
  unfold collect
  refine wpAny_bind (wpAny_runValue (codeAny_builtin F.entry_proto_collect ?_))
  rw [Around.under_plainId F.plain_proto_collect _]
  show wpAny _ A.in1 (newList [] >>= fun l => again (.builtin "list.__iadd__" ⟨[l, .ref a], []⟩)) _ _ s5
  refine wpAny_bind (wpAny_newObj_type ?_)
  refine wpAny_pure ⟨plainId_quiet F.plain_list_iadd _, codeAny_builtin F.entry_list_iadd ?_⟩
  rw [Around.under_plainId F.plain_list_iadd _]
  have hS₁ : (s5.heap.push { cls := .type "list", data := .seq ([] : List Value).toArray }).get? s5.heap.objs.size = some { cls := .type "list", data := .seq ([] : List Value).toArray } := Heap.get?_push_size _ rfl
  have k1 : ∀ b o, s5.heap.get? b = some o → (s5.heap.push { cls := .type "list", data := .seq ([] : List Value).toArray }).get? b = some o := fun b o e => Heap.get?_push_of_some _ e
  have h1 : Builtin.List.listSameRef (.ref s5.heap.objs.size) (.ref a) = false := by simp [Builtin.List.listSameRef, hSa]
  show wpAny _ A.in1 (Builtin.List.listExtendWith (.ref s5.heap.objs.size) (.ref a) (.ref s5.heap.objs.size)) _ _ _
  unfold Builtin.List.listExtendWith
  have gty : ∀ {h : Heap}, (∀ b o, s5.heap.get? b = some o → h.get? b = some o) → h.IsGen a gi' := fun {h} q => isg.keeps q
  refine wpAny_bind (wpAny_typeOf (Heap.IsGen.typeIs (s := { s5 with heap := _ }) (gty k1)) ?_)
  have h2' : (Value.type "generator" == Value.type "list") = false := by decide
  have h3' : (Value.type "generator" == Value.type "tuple") = false := by decide
  simp only [h1, h2', h3', Bool.or_false, Bool.false_eq_true, if_false]
  refine wpAny_bind (wpAny_pyIter_gen (s := { s5 with heap := _ }) (gty k1) ?_)
  refine wpAny_bind (wpAny_holding ?_)
  unfold Builtin.List.listLengthHint
  refine wpAny_bind (wpAny_specialOf (Heap.IsGen.typeIs (s := { s5 with heap := _ }) (gty k1)) F.gen_no_len ?_)
  show wpAny _ A.in1 (specialOf (Value.ref a) (Str.ofString "__length_hint__") >>= _) _ _ _
  refine wpAny_bind (wpAny_specialOf (Heap.IsGen.typeIs (s := { s5 with heap := _ }) (gty k1)) F.gen_no_hint ?_)
  refine wpAny_pure ?_
  show wpAny _ A.in1 (rule "list.extend.makes-room" >>= fun _ => Builtin.List.listTouch (.ref s5.heap.objs.size) >>= fun _ =>
    again (.builtin "list.extend.loop" ⟨[.ref s5.heap.objs.size, .ref a, .ref s5.heap.objs.size], []⟩)) _ _ _
  refine wpAny_bind (wpAny_rule ?_)
  refine wpAny_bind ?_
  show wpAny _ A.in1 (updateSeq s5.heap.objs.size (·.push .none) >>= fun _ => updateSeq s5.heap.objs.size (·.pop)) _ _ _
  refine wpAny_bind (wpAny_updateSeq hS₁ rfl ?_)
  have hS3 := Heap.get?_update_self (Obj.mapSeq (·.push Value.none)) hS₁ rfl
  refine wpAny_updateSeq (hz := by seq_fits) hS3 rfl ?_
  have hS4 := Heap.get?_update_self (Obj.mapSeq (·.pop)) hS3 rfl
  have k4 := up _ (Obj.mapSeq (·.pop)) (up _ (Obj.mapSeq (·.push Value.none)) k1)
  refine wpAny_pure ⟨plainId_quiet F.plain_extend_loop _, ?_⟩
  obtain ⟨cc, hS5⟩ : ∃ cc, (((s5.heap.push { cls := .type "list", data := .seq ([] : List Value).toArray }).update s5.heap.objs.size (Obj.mapSeq (·.push Value.none))).update s5.heap.objs.size (Obj.mapSeq (·.pop))).get? s5.heap.objs.size = some (L2.lstObj #[] cc) := ⟨_, hS4⟩
  generalize hs6 : ({ s5 with heap := ((s5.heap.push { cls := .type "list", data := .seq ([] : List Value).toArray }).update s5.heap.objs.size (Obj.mapSeq (·.push Value.none))).update s5.heap.objs.size (Obj.mapSeq (·.pop)) } : Shared) = s6
  have h6 : s6.heap = ((s5.heap.push { cls := .type "list", data := .seq ([] : List Value).toArray }).update s5.heap.objs.size (Obj.mapSeq (·.push Value.none))).update s5.heap.objs.size (Obj.mapSeq (·.pop)) := by rw [← hs6]
  have g6 : s6.gens = s5.gens := by rw [← hs6]
  obtain ⟨c0, tn0⟩ := core [(s5.heap.objs.size, L2.lstObj #[] cc)] s6 (fun b o e => by rw [h6]; exact k4 b o e) (by rw [← hs6]) (by rw [g6]; exact b.I.bare) fun q hq => by
    rw [List.mem_singleton.mp hq]
    exact ⟨Nat.le_refl _, by rw [h6]; exact hS5, fun v q => by cases q⟩
  have t0 : G.traj 0 = some ([], xs, (lockV u1 lk).h) := by show some (([] : List Val), G.full, G.b.h) = _; rw [ef, eb]
  have fpne : ∀ p u s, G.Core g l ((s5.heap.objs.size, p) :: []) u s → ∀ b ∈ G.fp, b ≠ s5.heap.objs.size := fun p u s cr b hb z => by
    have := (cr.fp b hb).2.2.2.2.2 (s5.heap.objs.size, p) (List.mem_append_right _ List.mem_cons_self)
    exact this z.symm
  have loop := extend_loop (G := G) (g := g) (l := l) (A := A) (S := s5.heap.objs.size) (res := .ref s5.heap.objs.size) (R := fun r s' => ∃ u' acc cc ws, r = .ok (.ret (.ref s5.heap.objs.size)) ∧ u'.h = h2 ∧ G.Core g l [(s5.heap.objs.size, L2.lstObj acc cc)] u' s' ∧ Vals ws acc.toList ∧ RepVs l u' ys ws)
    hr.hd (by have := hr.dp; omega) ego hN epn hsz (by rw [ea]; exact Ne.symm hSa) fpne tkeep (xs.length + 1) 0 (lockV u1 lk) [] xs #[] cc [] gs s6 ys h2 t0 (by rw [ef]; simp) (by rw [ef]; omega) c0 .nil rfl (by rw [ef, Nat.sub_self]; exact tn0) (by rw [g6]; exact hgs) (goes _ monoL)
    (by rw [et, ec, ee, efr]; exact h) hlen fun u' s' acc cc ws q1 q2 q3 q4 => ⟨u', acc, cc, ws, rfl, q1, q2, q3, q4⟩
  rw [ep, ew, ea] at loop
  refine codeAny_mono loop fun r s' ⟨u', acc, cc, ws, er, q1, q2, q3, q4⟩ => ?_
  subst er
  have pin := q2.I.pin (s5.heap.objs.size, L2.lstObj acc cc) (List.mem_append_right _ List.mem_cons_self)
  show wpAny _ A (load s5.heap.objs.size >>= _) _ _ s'
  refine wpAny_bind (wpAny_load pin.1 ?_)
  have x := q2.x
  rw [eb] at x
  obtain ⟨k1', x2⟩ := x.unlock b.r b.lkl
  exact wpAny_pure (hQ (unlockV u' lk) s' acc.toList ws (by show unlockO u'.h lk = _; rw [q1]) x2 (q2.r.unlock k1') (show Inv X pins σ (unlockV u' lk).H s' from back _ u' s' q2) q3 (RepVs.sub Sub.h _ _ q4))
end
end Pk

set_option maxRecDepth 100000
/-! Pk30: tuple(..), sorted(..) of a generator expression. -/
namespace Pk
open PySem PySem.Spec PyProof.Rows L2 PySem.W

def cTupG (t : Tg) (it : CI) (cnd : Option C) (e : C) : C := fun fr h => (it fr h).bind fun p h1 => (genS t cnd e (wipeF fr t.ixs) (p.1.length + 1) p.1 (lockO h1 p.2)).calm.bind fun ys h2 => if ys.length ≤ big then .ok (.tup ys) (unlockO h2 p.2) else .bad
def fSortG (t : Tg) (it : CI) (cnd : Option C) (e : C) : CF := fun fr h => (it fr h).bind fun p h1 => (genS t cnd e (wipeF fr t.ixs) (p.1.length + 1) p.1 (lockO h1 p.2)).calm.bind fun ys h2 => match Pk.sorted ys with
  | some zs => .ok (.l zs) (unlockO h2 p.2)
  | none => .bad
section
variable {prog : Program} {w : World} {A : Around} {E : Value → Shared → Prop} {s : Shared} {a : Addr} {PC : List Value → Shared → Prop}
theorem call_tuple_col {Q : Value → Shared → Prop} (hT : s.TypeIs (.ref a) "generator") (hcol : ∀ {Q : List Value → Shared → Prop} {E : Value → Shared → Prop}, (∀ vs s', PC vs s' → Q vs s') → wpAny (model prog w) A.in1.in1 (collect (.ref a)) Q E s) (hz : ∀ vs s', PC vs s' → vs.length ≤ sizeLine)
    (hQ : ∀ vs s', PC vs s' → Q (.ref s'.heap.objs.size) { s' with heap := s'.heap.push { cls := .type "tuple", data := .seq vs.toArray } }) : wpAny (model prog w) A (call (.type "tuple") [.ref a]) Q E s := by
  have code : codeAny (model prog w) A.in1 (.call (.builtin "tuple.__new__") ⟨[.type "tuple", .ref a], []⟩) (wants (fun obj s₁ => s₁.TypeIs obj "tuple" ∧ Q obj s₁) E) s := by
    refine codeAny_of_tree ?_
    show wpAny _ A.in1.in1 (do checkBuiltinCall "tuple.__new__" ⟨[.type "tuple", .ref a], []⟩; again (.builtin "tuple.__new__" ⟨[.type "tuple", .ref a], []⟩)) _ _ s
    refine wpAny_bind (wpAny_of_eq (F.newCall_tuple_1 _) (wpAny_pure ⟨plainId_quiet F.plain_tuple_new _, codeAny_builtin F.entry_tuple_new ?_⟩))
    rw [Around.under_plainId F.plain_tuple_new _]
    have hsub := sub_tuple_self
    have hinit := init_tuple_lookup
    have hmh := madeHere_tuple
    wp_walk using wpAny_typeOf hT, hcol
    intro vs s' hp
    show wpAny _ _ (Builtin.Tuple.tupleExact vs.toArray >>= fun v => ret v) _ _ _
    unfold Builtin.Tuple.tupleExact
    refine wpAny_bind (wpAny_newObj_type ?_ (by show vs.toArray.size ≤ sizeLine; simp only [List.size_toArray]; exact hz vs s' hp))
    exact wpAny_pure ⟨⟨_, Heap.get?_push_size _ rfl, rfl⟩, hQ vs s' hp⟩
  refine callType_codes (Q₁ := fun obj s₁ => s₁.TypeIs obj "tuple" ∧ Q obj s₁) F.called_tuple (F.typeCall_tuple_1 _) F.entry_object_init code fun obj s₁ h₁ => ?_
  exact ⟨h₁.1, F.args_object_init_2 obj _, object_init_meets F.called_tuple.init.lookup F.called_tuple.made (by decide) prog w A.in1 _ s₁ ⟨h₁.1, rfl, h₁.2⟩⟩
end
section
variable {g : Gx} {l : Lx} {X : Cx} {pins : List (Addr × Obj)} {σ : Pk.St} {W : WX} {tg elt iter : Expr} {ifs : List Expr} {it : CI} {t : Tg} {cnd : Option C} {e : C} {k : Nat} {c P : Addr} {pos : Pos}
theorem tup_born {fr : Fr} {u1 : Vw} {xs : List Val} {lk : Option Nat} {a : Addr} {s5 : Shared} {Q : Value → Shared → Prop} {E : Value → Shared → Prop} {ys : List Val} {h2 : Hv} (hr : Room (k + 4) X.A) (hfr : X.A.frames = some X.stack) (b : Born g l X pins σ t cnd e fr u1 xs lk (k + 2) a s5)
    (h : genS t cnd e fr (xs.length + 1) xs (lockO u1.h lk) = .ok ys h2) (hlen : ys.length ≤ big) (hQ : ∀ (u' : Vw) s' ws p, u'.h = unlockO h2 lk → Ext u1 u' → HR g l u' → RepVs l u' ys ws → u'.H p = none → Inv X pins σ (upd u'.H p (.tup ws)) s' → Q (.ref p) s') :
    wpAny (model X.prog X.w) X.A (call (.type "tuple") [.ref a]) Q E s5 := by
  obtain ⟨gi', o, nm, qn, ho, hc, r⟩ := b.isg
  have hr2 : Room (k + 3) X.A.in1.in1 := ⟨hr.hd, by have := hr.dp; show X.A.depth + 3 * (k + 3) + 5 < _; omega, by have := hr.un; show X.A.units + 1 + 1 + 16 * (k + 3) + 200 < _; omega⟩
  refine call_tuple_col (A := X.A) (PC := fun vs s' => ∃ u' ws, u'.h = unlockO h2 lk ∧ Ext u1 u' ∧ HR g l u' ∧ Inv X pins σ u'.H s' ∧ Vals ws vs ∧ RepVs l u' ys ws) ⟨o, ho, hc⟩ (fun {Q E} hh => ?_) (fun vs s' ⟨u', ws, q1, q2, q3, q4, q5, q6⟩ => ?_) fun vs s' ⟨u', ws, q1, q2, q3, q4, q5, q6⟩ => ?_
  · exact collect_born (A := X.A.in1.in1) hr2 hfr b h hlen fun u' s' vs ws q1 q2 q3 q4 q5 q6 => hh vs s' ⟨u', ws, q1, q2, q3, q4, q5, q6⟩
  · rw [← q5.length, ← q6.length]
    exact le_line hlen
  · exact hQ u' _ ws s'.heap.objs.size q1 q2 q3 q6 (q4.hok.fresh (Nat.le_refl _)) (q4.laid (t' := s'.toks) (fun b o e => Heap.get?_push_of_some _ e) (Nat.le_refl _) (show ObjOk X.prog X.w _ _ _ (.tup ws) from ⟨by rw [← q6.length]; exact le_line hlen, vs, q5, PyProof.Rows.IsTup.new _ _⟩))
end
section
variable {prog : Program} {w : World} {A : Around} {E : Value → Shared → Prop} {s : Shared} {a : Addr} {PC : List Value → Shared → Prop}
theorem sorted_col {Q : Value → Shared → Prop} (hcol : ∀ {Q : List Value → Shared → Prop} {E : Value → Shared → Prop}, (∀ vs s', PC vs s' → Q vs s') → wpAny (model prog w) A.in1 (collect (.ref a)) Q E s)
    (body : ∀ vs s', PC vs s' → vs.length ≤ sizeLine ∧ ∀ E' : Value → Shared → Prop, wpAny (model prog w) A.in1.in1 (Builtin.«list.sort» ⟨[.ref s'.heap.objs.size], []⟩) (fun f s2 => f = .done (.ret .none) ∧ Q (.ref s'.heap.objs.size) s2) E' { s' with heap := s'.heap.push (seqObj "list" vs.toArray 0) }) :
    wpAny (model prog w) A (call (.builtin "sorted") [.ref a]) Q E s := by
  refine call_function_entry_kw kind_sorted plain_sorted entry_sorted (args_sorted1 _) ?_
  unfold Builtin.«sorted»
  refine wpAny_bind (m := checkCount "sorted" 1 1 _) (wpAny_pure ?_)
  refine wpAny_bind (hcol fun vs s' hp => ?_)
  obtain ⟨hL, body⟩ := body vs s' hp
  refine wpAny_bind (wpAny_newList ?_ hL)
  refine wpAny_bind (wpAny_holding (wpAny_call_entry_kw slot_list_sort ⟨_, Heap.get?_push_size _ rfl, rfl⟩ entry_list_sort ?_ (args_list_sort _)))
  show wpAny (model prog w) A.in1.in1 (Builtin.«list.sort» ⟨[.ref s'.heap.objs.size], []⟩) _ _ _
  refine wpAny_mono (body _) (fun f s2 hf => ?_) fun _ _ e => e
  obtain ⟨rfl, hq⟩ := hf
  exact ⟨_, rfl, wpAny_pure ⟨_, rfl, hq⟩⟩
end
section
variable {g : Gx} {l : Lx} {X : Cx} {pins : List (Addr × Obj)} {σ : Pk.St} {W : WX} {tg elt iter : Expr} {ifs : List Expr} {it : CI} {t : Tg} {cnd : Option C} {e : C} {k : Nat} {c P : Addr} {pos : Pos}
theorem sort_here {A : Around} {u : Vw} {s : Shared} {xs ys : List Val} {ws : List V} {its : List Value} {Q : PySem.Fin → Shared → Prop} {E : Value → Shared → Prop} (hu : A.units + 65 < cLine) (I : Inv X pins σ u.H s) (r : HR g l u) (e4 : RepVs l u xs ws) (rv : Vals ws its) (e5 : Pk.sorted xs = some ys)
    (hQ : ∀ zs s', RepVs l u ys zs → u.H s.heap.objs.size = none → Inv X pins σ (upd u.H s.heap.objs.size (.lst zs)) s' → Q (.done (.ret .none)) s') :
    wpAny (model X.prog X.w) A (Builtin.«list.sort» ⟨[.ref s.heap.objs.size], []⟩) Q E { s with heap := s.heap.push (seqObj "list" its.toArray 0) } := by
  obtain ⟨ok, hb, ey⟩ := sorted_eq e5
  have dt : ∀ x ∈ xs, x.data = true := fun x hx => (sortOk_at ok hx hx).1
  obtain ⟨q1, q2⟩ := each_zip (K := X.K) I e4 rv (datas_all dt)
  have fst : ∀ b ∈ xs.zip ws, b.1 ∈ xs := fun b hb => (List.of_mem_zip (show (b.1, b.2) ∈ xs.zip ws from hb)).1
  have ho : (s.heap.push (seqObj "list" its.toArray 0)).get? s.heap.objs.size = some (seqObj "list" its.toArray 0) := Heap.get?_push_size _ rfl
  have old : ∀ b o, s.heap.get? b = some o → (sortingHeap (s.heap.push (seqObj "list" its.toArray 0)) s.heap.objs.size its).get? b = some o := fun b o e => sortingHeap_old (Nat.ne_of_lt (Heap.lt_size e)) (Heap.get?_push_of_some _ e)
  have er' : EachIs (fun (v : Value) (b : Val × V) => ∃ as, Reads (sortingHeap (s.heap.push (seqObj "list" its.toArray 0)) s.heap.objs.size its) v (toD b.1) as) its (xs.zip ws) := q2.mono fun _ _ ⟨as, r⟩ => ⟨as, PyProof.Rows.Reads.keeps old r⟩
  have hal : AllAlike ((xs.zip ws).map fun b : Val × V => toD b.1) := by
    intro d hd d' hd'
    obtain ⟨b, m1, rfl⟩ := List.mem_map.mp hd
    obtain ⟨b', m2, rfl⟩ := List.mem_map.mp hd'
    exact toD_alike _ _ (sortOk_at ok (fst b m1) (fst b' m2)).2.2.1
  have hk : Sortable ((xs.zip ws).map fun b : Val × V => toD b.1) := by
    by_cases ht : ∃ zs, Val.tup zs ∈ xs
    · refine Or.inl fun d hd => ?_
      obtain ⟨b, m1, rfl⟩ := List.mem_map.mp hd
      obtain ⟨zs, hz⟩ := ht
      obtain ⟨_, _, al, _, fl⟩ := sortOk_at ok (fst b m1) hz
      obtain ⟨ts, et⟩ := alike_tup al
      rw [et] at fl ⊢
      cases ts with
      | nil => exact Bool.noConfusion fl
      | cons t r => exact ⟨toD t, toDs r, rfl⟩
    · refine Or.inr fun d hd => ?_
      obtain ⟨b, m1, rfl⟩ := List.mem_map.mp hd
      refine ⟨alike_nn (sortOk_at ok (fst b m1) (fst b m1)).2.2.1, fun zs hz => ?_⟩
      obtain ⟨b1, b2⟩ := b
      have m1 := fst _ m1
      have hz : toD b1 = .tuple zs := hz
      have m1 : b1 ∈ xs := m1
      cases b1 with
      | tup ts => exact ht ⟨ts, m1⟩
      | _ => cases hz
  have hub : ∀ b, b ∈ xs.zip ws → A.units + (toD b.1).depth < cLine := fun b hb => by
    rw [toD_dep]
    have := (sortOk_at ok (fst b hb) (fst b hb)).2.2.2.1
    omega
  have hL : its.length ≤ sizeLine := by rw [← rv.length, ← e4.length]; exact le_line hb
  refine list_sort_vals (κ := dataKind (sortingHeap (s.heap.push (seqObj "list" its.toArray 0)) s.heap.objs.size its) ((xs.zip ws).map fun b : Val × V => toD b.1)) ho (SortsAt.data (s := { s with heap := sortingHeap (s.heap.push (seqObj "list" its.toArray 0)) s.heap.objs.size its }) (each_map (R := fun v d => ∃ as, Reads (sortingHeap (s.heap.push (seqObj "list" its.toArray 0)) s.heap.objs.size its) v d as) (fun b : Val × V => toD b.1) er') hal hk (bound_map hub)) hL ?_
  have eo := sortVals_data (enc := fun b : Val × V => toD b.1) false q1 er' hal
  have hl : ys.length = xs.length := by rw [ey, List.length_mergeSort]
  have hm : ((xs.zip ws).mergeSort (dataLe false fun b : Val × V => toD b.1)).map (·.1) = ys := by
    rw [ey, ← zip_fst e4.length, zip_fst e4.length]
    have := sort_maps (r := dataLe false fun b : Val × V => toD b.1) (s := dataLe false toD) (fun b : Val × V => b.1) (l := xs.zip ws) fun _ _ _ _ => rfl
    rw [this, zip_fst e4.length]
  have rep : RepVs l u ys (((xs.zip ws).mergeSort (dataLe false fun b : Val × V => toD b.1)).map (·.2)) := by
    rw [← hm]
    exact RepVs.of_pairs fun p hp => RepVs.zip_mem e4 p ((List.mem_mergeSort).mp hp)
  obtain ⟨c, he'⟩ := sortedHeap_at (out := (sortVals (dataKind (sortingHeap (s.heap.push (seqObj "list" its.toArray 0)) s.heap.objs.size its) ((xs.zip ws).map fun b : Val × V => toD b.1)) false its its).toArray) ho
  refine hQ _ _ rep (I.hok.fresh (Nat.le_refl _)) (I.laid (t' := s.toks) (fun b o e => (sortedHeap_old (Nat.ne_of_lt (Heap.lt_size e)) (by rw [Heap.size_push]; exact Nat.lt_succ_of_lt (Heap.lt_size e))).trans (Heap.get?_push_of_some _ e)) (Nat.le_refl _) ⟨?_, _, c, vals_each eo, he'⟩)
  rw [← rep.length, hl]
  exact le_line hb
end
end Pk

set_option maxRecDepth 100000
/-! Pk31: any, all, tuple, sorted of a generator expression: the rules. -/
namespace Pk
open PySem PySem.Spec PyProof.Rows L2 PySem.W

/-- what is known of a generator expression in its def -/
structure GxH (g : Gx) (l : Lx) (X : Cx) (W : WX) (k : Nat) (tg elt iter : Expr) (ifs : List Expr) (scope : Scope) (it : CI) (t : Tg) (cnd : Option C) (e : C) : Prop where
  calm : X.calm = true
  nd : X.N.Nodup
  dot : (".0" : Str) ∉ X.N
  tab : ∃ c P, LamX.TabB X.base X.mg c P ∧ X.env.code = .ref c ∧ (P, X.env.qual ++ "<genexpr>") ∈ g.tabs ∧ ∀ p ∈ g.tabs, p.1 = P → p.2 = X.env.qual ++ "<genexpr>"
  src : SIE g l X W tg iter it
  own : ∃ own : List (Str × Nat), GenOk X.N X.env.scope scope own ∧ own.map (·.2) = t.ixs
  tgt : ∀ (A : Around) (s : Shared) (H : Hp) (C : Addr) (code : Value) (fp : List Addr), PG (gxCx X A s H scope C code fp []) tg (gT g l t)
  tst : ∀ (A : Around) (s : Shared) (H : Hp) (C : Addr) (code : Value) (fp : List Addr), Room k (A.deeper (gxEnv X scope C code)) → PTs (gxCx X A s H scope C code fp []) ifs (tC g l cnd)
  elt : ∀ (A : Around) (s : Shared) (H : Hp) (C : Addr) (code : Value) (fp : List Addr), Room k (A.deeper (gxEnv X scope C code)) → SE g l (gxCx X A s H scope C code fp []) W0 elt e
  fold : ∀ x, genFold iter X.env x = pure x
section
variable {g : Gx} {l : Lx} {X : Cx} {W : WX} {k : Nat} {tg elt iter : Expr} {ifs : List Expr} {scope : Scope} {it : CI} {t : Tg} {cnd : Option C} {e : C} {p pos gpos : Pos} {x : Str}
theorem gx_run (G : GxH g l X W k tg elt iter ifs scope it t cnd e) (hr : Room (k + 1) X.A) {pins : List (Addr × Obj)} {σ : Pk.St} {s : Shared} {z : Hp} {u : Vw} {fr : Fr} {Q : Value → Shared → Prop} (I : Inv X pins σ u.H s) (r : HR g l u) (f : FR l z u fr σ)
    (hexc : ∀ n hh, it fr u.h = .exc n hh → ∀ u', u'.h = hh → Ext u u' → HR g l u' → W (g.err n) none σ u'.H) (hbad : it fr u.h ≠ .bad)
    (hQ : ∀ xs lk h1 u1 a s5, it fr u.h = .ok (xs, lk) h1 → u1.h = h1 → Ext u u1 → Born g l X pins σ t cnd e (wipeF fr t.ixs) u1 xs lk (k + 2) a s5 → Q (.ref a) s5) :
    wpAny (model X.prog X.w) X.A (eval (.GeneratorExp elt [⟨tg, iter, ifs, 0⟩] scope gpos) X.env) Q X.xe s := by
  obtain ⟨c, P, h1, h2, h3, h4⟩ := G.tab
  obtain ⟨own, h5, h6⟩ := G.own
  exact gx_make hr G.calm G.nd G.dot h1 h2 h3 h4 G.src h5 h6 G.tgt G.tst G.elt G.fold I r f hexc hbad hQ
theorem se_any (hr : Room (k + 3) X.A) (G : GxH g l X W k tg elt iter ifs scope it t cnd e) (hgl : Gl X "any" := by rfl) (hm : X.mg "any" = none) (hes : starEach [.GeneratorExp elt [⟨tg, iter, ifs, 0⟩] scope gpos] X.env = (false, eval (.GeneratorExp elt [⟨tg, iter, ifs, 0⟩] scope gpos) X.env) :: starEach [] X.env := by rfl) :
    SE g l X W (.Call (.Name "any" p) [.GeneratorExp elt [⟨tg, iter, ifs, 0⟩] scope gpos] [] pos) (cAnyS true t it cnd e) := by
  obtain ⟨c, P, h1, h2, h3, h4⟩ := G.tab
  obtain ⟨own, h5, h6⟩ := G.own
  exact se_anyS (x := "any") (.inl ⟨rfl, rfl⟩) hr (fun _ _ _ _ I => I.ok.frames) hgl hm boot_any G.calm G.nd G.dot h1 h2 h3 h4 G.src h5 h6 G.tgt G.tst G.elt G.fold hes
theorem se_all (hr : Room (k + 3) X.A) (G : GxH g l X W k tg elt iter ifs scope it t cnd e) (hgl : Gl X "all" := by rfl) (hm : X.mg "all" = none) (hes : starEach [.GeneratorExp elt [⟨tg, iter, ifs, 0⟩] scope gpos] X.env = (false, eval (.GeneratorExp elt [⟨tg, iter, ifs, 0⟩] scope gpos) X.env) :: starEach [] X.env := by rfl) :
    SE g l X W (.Call (.Name "all" p) [.GeneratorExp elt [⟨tg, iter, ifs, 0⟩] scope gpos] [] pos) (cAnyS false t it cnd e) := by
  obtain ⟨c, P, h1, h2, h3, h4⟩ := G.tab
  obtain ⟨own, h5, h6⟩ := G.own
  exact se_anyS (x := "all") (.inr ⟨rfl, rfl⟩) hr (fun _ _ _ _ I => I.ok.frames) hgl hm boot_all G.calm G.nd G.dot h1 h2 h3 h4 G.src h5 h6 G.tgt G.tst G.elt G.fold hes
theorem se_tupG (hr : Room (k + 4) X.A) (G : GxH g l X W k tg elt iter ifs scope it t cnd e) (hgl : Gl X "tuple" := by rfl) (hm : X.mg "tuple" = none) (hes : starEach [.GeneratorExp elt [⟨tg, iter, ifs, 0⟩] scope gpos] X.env = (false, eval (.GeneratorExp elt [⟨tg, iter, ifs, 0⟩] scope gpos) X.env) :: starEach [] X.env := by rfl) :
    SE g l X W (.Call (.Name "tuple" p) [.GeneratorExp elt [⟨tg, iter, ifs, 0⟩] scope gpos] [] pos) (cTupG t it cnd e) := by
  refine ⟨fun pins s σ H Q I ⟨z, u, fr, e1, e2, e3, e4⟩ => ?_⟩
  subst e1
  refine wpAny_Call_Name_kw (ld_blt I hgl hm PyProof.Rows.boot_tuple ?_)
  refine PyProof.Rows.callWith_type1 ?_ hes rfl
  rw [hes]
  show wpAny _ _ (spliced ((false, eval (.GeneratorExp elt [⟨tg, iter, ifs, 0⟩] scope gpos) X.env) :: backTo pos (starEach [] X.env))) _ _ s
  have e4 : Run g l W σ (RepV l) Q u ((it fr u.h).bind fun p h1 => (genS t cnd e (wipeF fr t.ixs) (p.1.length + 1) p.1 (lockO h1 p.2)).calm.bind fun ys h2 => if ys.length ≤ big then .ok (.tup ys) (unlockO h2 p.2) else .bad) := e4
  refine Calls.spliced_cons (gx_run G ⟨hr.hd, by have := hr.dp; omega, by have := hr.un; omega⟩ I e2 e3 (fun n hh q => by rw [q] at e4; exact e4) (fun q => by rw [q] at e4; exact e4) fun xs lk h1 u1 a s5 q eh x1 b => ?_)
  rw [q] at e4
  have e4 : Run g l W σ (RepV l) Q u ((genS t cnd e (wipeF fr t.ixs) (xs.length + 1) xs (lockO h1 lk)).calm.bind fun ys h2 => if ys.length ≤ big then .ok (.tup ys) (unlockO h2 lk) else .bad) := e4
  refine Calls.spliced_nil ?_
  rw [← eh] at e4
  cases q2 : genS t cnd e (wipeF fr t.ixs) (xs.length + 1) xs (lockO u1.h lk) with
  | exc _ _ => rw [q2] at e4; exact e4.elim
  | bad => rw [q2] at e4; exact e4.elim
  | ok ys h2 =>
    rw [q2] at e4
    have e4 : Run g l W σ (RepV l) Q u (if ys.length ≤ big then .ok (.tup ys) (unlockO h2 lk) else .bad) := e4
    split at e4
    · rename_i hb
      refine tup_born hr I.ok.frames b q2 hb fun u' s' ws p eu x2 r2 rw2 hp I2 => ?_
      rw [← eu] at e4
      have k1 := newTup r2 rw2 (Run.mono (x1.trans x2) e4) p hp
      exact ⟨.ref p, _, I2, rfl, k1⟩
    · exact e4.elim
theorem sf_sortG (hr : Room (k + 4) X.A) (G : GxH g l X W k tg elt iter ifs scope it t cnd e) (hgl : Gl X "sorted" := by rfl) (hm : X.mg "sorted" = none) (hes : starEach [.GeneratorExp elt [⟨tg, iter, ifs, 0⟩] scope gpos] X.env = (false, eval (.GeneratorExp elt [⟨tg, iter, ifs, 0⟩] scope gpos) X.env) :: starEach [] X.env := by rfl) :
    SF g l X W (.Call (.Name "sorted" p) [.GeneratorExp elt [⟨tg, iter, ifs, 0⟩] scope gpos] [] pos) (fSortG t it cnd e) := by
  refine ⟨fun pins s σ H Q I ⟨z, u, fr, e1, e2, e3, e4⟩ => ?_⟩
  subst e1
  refine wpAny_Call_Name_kw (ld_blt I hgl hm boot_sorted ?_)
  refine PyProof.Rows.callWith_builtin1 ?_ hes (by rfl)
  rw [hes]
  show wpAny _ _ (spliced ((false, eval (.GeneratorExp elt [⟨tg, iter, ifs, 0⟩] scope gpos) X.env) :: backTo pos (starEach [] X.env))) _ _ s
  have e4 : Run g l W σ (RepN l u) Q u ((it fr u.h).bind fun p h1 => (genS t cnd e (wipeF fr t.ixs) (p.1.length + 1) p.1 (lockO h1 p.2)).calm.bind fun ys h2 => match Pk.sorted ys with | some zs => .ok (.l zs) (unlockO h2 p.2) | none => .bad) := e4
  refine Calls.spliced_cons (gx_run G ⟨hr.hd, by have := hr.dp; omega, by have := hr.un; omega⟩ I e2 e3 (fun n hh q => by rw [q] at e4; exact e4) (fun q => by rw [q] at e4; exact e4) fun xs lk h1 u1 a s5 q eh x1 b => ?_)
  rw [q] at e4
  have e4 : Run g l W σ (RepN l u) Q u ((genS t cnd e (wipeF fr t.ixs) (xs.length + 1) xs (lockO h1 lk)).calm.bind fun ys h2 => match Pk.sorted ys with | some zs => .ok (.l zs) (unlockO h2 lk) | none => .bad) := e4
  refine Calls.spliced_nil ?_
  rw [← eh] at e4
  cases q2 : genS t cnd e (wipeF fr t.ixs) (xs.length + 1) xs (lockO u1.h lk) with
  | exc _ _ => rw [q2] at e4; exact e4.elim
  | bad => rw [q2] at e4; exact e4.elim
  | ok ys h2 =>
    rw [q2] at e4
    have e4 : Run g l W σ (RepN l u) Q u (match Pk.sorted ys with | some zs => .ok (.l zs) (unlockO h2 lk) | none => .bad) := e4
    cases hs : Pk.sorted ys with
    | none => rw [hs] at e4; exact e4.elim
    | some zs =>
      rw [hs] at e4
      have hb := (sorted_eq hs).2.1
      have hr2 : Room (k + 3) X.A.in1 := ⟨hr.hd, by have := hr.dp; show X.A.depth + 3 * (k + 3) + 5 < _; omega, by have := hr.un; show X.A.units + 1 + 16 * (k + 3) + 200 < _; omega⟩
      refine sorted_col (A := X.A) (PC := fun vs s' => ∃ u' ws, u'.h = unlockO h2 lk ∧ Ext u1 u' ∧ HR g l u' ∧ Inv X pins σ u'.H s' ∧ Vals ws vs ∧ RepVs l u' ys ws) (fun {Q E} hh => ?_) fun vs s' ⟨u', ws, q1, q2, q3, q4, q5, q6⟩ => ⟨?_, fun E' => ?_⟩
      · exact collect_born (A := X.A.in1) hr2 I.ok.frames b q2 hb fun u' s' vs ws q1 q2 q3 q4 q5 q6 => hh vs s' ⟨u', ws, q1, q2, q3, q4, q5, q6⟩
      · rw [← q5.length, ← q6.length]
        exact le_line hb
      · refine sort_here (X := X) (by have := hr.un; show X.A.units + 1 + 1 + 65 < _; omega) q4 q3 q6 q5 hs fun rs s2 r2 hp I2 => ⟨rfl, .ref s'.heap.objs.size, _, I2, rfl, ?_⟩
        rw [← q1] at e4
        exact newN_lst (x1.trans q2) q3 r2 (Run.mono (x1.trans q2) e4) _ hp
end
end Pk

set_option maxRecDepth 100000
/-! Pk32: small helps for the printed derivations. -/
namespace Pk
open PySem PySem.Spec PyProof.Rows L2

theorem rm {a b : Nat} {A : Around} (h : Room a A) (hb : b ≤ a := by omega) : Room b A := ⟨h.hd, by have := h.dp; omega, by have := h.un; omega⟩
theorem u65 {k : Nat} {A : Around} (r : Room k A) : A.units + 65 < cLine := Pk.Room.u65 r
/-- an error of the program's own -/
structure ErrF (g : Gx) (K : PySem.W.Frag) (mg : Str → Option Value) (x : Str) (k : Nat) : Prop where
  ex : ∃ (C : Addr) (bmB : List Value) (B newId initId : String), g.err k = .ref C ∧ ExcBaseFacts B newId initId bmB ∧ PySem.W.excIn K C bmB newId = true ∧ mg x = some (.ref C) ∧ PySem.W.keepIn K (.ref C) = true ∧
    PySem.W.subIn K (.ref C) (.type "BaseException") = some true ∧ PySem.W.typeIn K (.ref C) = some (.type "type")
section
variable {g : Gx} {l : Lx} {X : Cx} {W : WX} {pos p p2 pos2 : Pos} {x : Str}
theorem ss_err {k : Nat} {m : Str} {j : Nat} (E : ErrF g X.K X.mg x k) (hc : X.calm = true) (tk : Takes X W) (hg : Gl X x := by rfl) (hdb : (x == ("__debug__" : Str)) = false := by decide) :
    SS g l X W (.Raise (some (.Call (.Name x p) [.Constant (.str m) j p2] [] pos)) none pos2) (sRaise k) := by
  obtain ⟨C, bmB, B, newId, initId, e1, e2, e3, e4, e5, e6, e7⟩ := E.ex
  exact ss_raise hc tk e1 e2 e3 e4 e5 (raises_own e6 e7) hg hdb
end
end Pk

set_option maxRecDepth 100000
/-! Pk33: dict displays. -/
namespace Pk
open PySem PySem.Spec PyProof.Rows L2

section
variable {g : Gx} {l : Lx} {X : Cx} {W : WX} {pos : Pos}
theorem sf_d0 : SF g l X W (.Dict [] [] pos) (fDct []) := by
  refine PE.weak pe_dnewK fun σ H Q ⟨z, u, fr, e1, e2, e3, e4⟩ p hp => ?_
  subst e1
  obtain ⟨r2, x2, n2⟩ := repN_new (o := .dK []) (c := .d []) e2 hp fun u' x e => .inl ⟨[], e, rfl⟩
  exact e4 ⟨u.ρ, u.F, upd u.H p (.dK []), u.h⟩ rfl x2 r2 _ n2
/-- {k: v, ..}, the keys ints and texts -/
def dispL : List (C × C) → List (Val × Val) → Fr → Hv → Res Cont
  | [], acc, _, h => .ok (.d acc) h
  | (a, b) :: r, acc, fr, h => (a fr h).bind fun k h1 => (b fr h1).bind fun v h2 => if k.leafK then dispL r (dput acc k v) fr h2 else .bad
def fDisp (ps : List (C × C)) : CF := fun fr h => dispL ps [] fr h
inductive SDs (g : Gx) (l : Lx) (X : Cx) (W : WX) : List (Option Expr) → List Expr → List (C × C) → Prop
  | nil : SDs g l X W [] [] []
  | cons {k v : Expr} {a b : C} {ks : List (Option Expr)} {vs : List Expr} {ps : List (C × C)} : SE g l X W k a → SE g l X W v b → SDs g l X W ks vs ps → SDs g l X W (some k :: ks) (v :: vs) ((a, b) :: ps)
abbrev dTr (g : Gx) (l : Lx) (W : WX) (ps : List (C × C)) : List (TE × TE) := ps.map fun p => (tE g l W (RepV l) p.1, tE g l W (RepV l) p.2)
theorem SDs.pps {ks : List (Option Expr)} {vs : List Expr} {ps : List (C × C)} (h : SDs g l X W ks vs ps) : PPs X pos ks vs (dTr g l W ps) := by
  induction h with
  | nil => exact pps_nil
  | cons ha hb _ ih => exact pps_cons ha hb ih
theorem SDs.shape {ks : List (Option Expr)} {vs : List Expr} {ps : List (C × C)} (h : SDs g l X W ks vs ps) : ks.all (·.isSome) = true ∧ ks.length = vs.length ∧ ps.length = ks.length := by
  induction h with
  | nil => exact ⟨rfl, rfl, rfl⟩
  | cons _ _ _ ih => exact ⟨by simpa using ih.1, by simp [ih.2.1], by simp [ih.2.2]⟩
theorem disp_read {fr : Fr} {z : Hp} {σ : Pk.St} {Q : VK} {u0 ub : Vw} {D : Addr} (h0 : gone u0.H D) (hD : ub.H D = none) (hz : gone z D) : ∀ (ps : List (C × C)) (acc : List (Val × Val)) (ks : List (Key × V)) (u : Vw), HR g l u → FR l z u fr σ → Ext ub u → u.H D = some (.dK []) → ¬ u.F D → (∀ id, u.ρ id ≠ some D) → RepK l u acc ks →
    Run g l W σ (RepN l u0) Q ub (dispL ps acc fr u.h) → ∀ K : List (V × V) → Hp → Prop, (∀ prs H2, H2 D = some (.dK []) → ∀ kvs : List (Key × V), prs = kvs.map (fun kv => (kV kv.1, kv.2)) → kvs.length = ps.length → Q (.ref D) (upd H2 D (.dK (mergeK ks kvs))) → K prs H2) → tPairs (dTr g l W ps) σ u.H K
  | [], acc, ks, u, r, f, x, k1, k2, k3, rk, h, K, hK => by
    have h : Run g l W σ (RepN l u0) Q ub (.ok (.d acc) u.h) := h
    refine hK [] u.H k1 [] rfl rfl ?_
    have st : Sub u ⟨u.ρ, u.F, upd u.H D (.dK ks), u.h⟩ := Sub.upd k1 trivial k2
    exact h ⟨u.ρ, u.F, upd u.H D (.dK ks), u.h⟩ rfl (x.fresh hD k1 k3) (r.own (o' := .dK ks) k3 k2 hz k1 trivial trivial trivial).1 (.ref D) ⟨D, rfl, h0, k2, k3, .inl ⟨ks, upd_same, RepK.sub st _ _ rk⟩⟩
  | (a, b) :: ps, acc, ks, u, r, f, x, k1, k2, k3, rk, h, K, hK => by
    have keepD : ∀ {u2 : Vw}, Ext u u2 → u2.H D = some (.dK []) ∧ ¬ u2.F D ∧ (∀ id, u2.ρ id ≠ some D) := fun {u2} x2 =>
      ⟨x2.keep D _ k1 k3 (fun ps z => by cases z), fun z => (x2.Fn D z).elim k2 (not_gone k1), fun id z => (x2.ρn id D z).elim (k3 id) (not_gone k1)⟩
    have h : Run g l W σ (RepN l u0) Q ub ((a fr u.h).bind fun k h1 => (b fr h1).bind fun v h2 => if k.leafK then dispL ps (dput acc k v) fr h2 else .bad) := h
    refine ⟨z, u, fr, rfl, r, f, ?_⟩
    show Run g l W σ (RepV l) _ u (a fr u.h)
    cases ha : a fr u.h with
    | bad => rw [ha] at h; exact h.elim
    | exc n hh => rw [ha] at h; exact fun u1 e1 x1 r1 => h u1 e1 (x.trans x1) r1
    | ok kx hh =>
      rw [ha] at h
      intro u1 e1 x1 r1 kv rkx
      subst e1
      have h : Run g l W σ (RepN l u0) Q ub ((b fr u1.h).bind fun v h2 => if kx.leafK then dispL ps (dput acc kx v) fr h2 else .bad) := h
      refine ⟨z, u1, fr, rfl, r1, f.ext x1 r, ?_⟩
      show Run g l W σ (RepV l) _ u1 (b fr u1.h)
      cases hb : b fr u1.h with
      | bad => rw [hb] at h; exact h.elim
      | exc n hh => rw [hb] at h; exact fun u2 e2 x2 r2 => h u2 e2 ((x.trans x1).trans x2) r2
      | ok vx hh =>
        rw [hb] at h
        intro u2 e2 x2 r2 vv rvx
        subst e2
        have h : Run g l W σ (RepN l u0) Q ub (if kx.leafK then dispL ps (dput acc kx vx) fr u2.h else .bad) := h
        split at h
        · rename_i hl
          obtain ⟨q, eq⟩ := keyV_leaf hl
          obtain ⟨m1, m2, m3⟩ := keepD (x1.trans x2)
          have ih := disp_read h0 hD hz ps (dput acc kx vx) (putK ks q vv) u2 r2 ((f.ext x1 r).ext x2 r1) ((x.trans x1).trans x2) m1 m2 m3 (RepK.put eq rvx (RepK.sub ((x1.trans x2).sub r) _ _ rk)) h
          have ekv : kv = kV q := kv_rep eq rkx
          exact ih _ fun prs H2 n1 kvs n2 n3 n4 => hK _ H2 n1 ((q, vv) :: kvs) (by rw [n2, ekv]; rfl) (by simp [n3]) n4
        · exact h.elim
theorem sf_disp {ks : List (Option Expr)} {vs : List Expr} {ps : List (C × C)} (h : SDs g l X W ks vs ps) (h0 : ks ≠ [] := by exact List.cons_ne_nil _ _) (h15 : ks.length ≤ 15 := by decide) : SF g l X W (.Dict ks vs pos) (fDisp ps) := by
  obtain ⟨s1, s2, s3⟩ := h.shape
  refine PE.weak (pe_disp h.pps s1 s2 h0 h15) fun σ H Q ⟨z, u, fr, e1, e2, e3, e4⟩ p hp => ?_
  subst e1
  obtain ⟨r2, x2, q, q1, q2, q3, q4, q5⟩ := repN_new (o := .dK []) (c := .d []) e2 hp fun u' x e => .inl ⟨[], e, rfl⟩
  have : q = p := by cases q1; rfl
  subst this
  refine disp_read (g := g) (l := l) (u0 := u) (ub := u) (D := q) q2 hp (e3.live q (gone_none hp)) ps [] [] ⟨u.ρ, u.F, upd u.H q (.dK []), u.h⟩ r2 (e3.ext x2 e2) x2 upd_same q3 q4 rfl e4 _ fun prs H2 n1 kvs n2 n3 n4 => ⟨n1, kvs, n2, by omega, n4⟩
end
end Pk

set_option maxRecDepth 100000
/-! Pk34: x = {.. for ..} on one line, x a local name. -/
namespace Pk
open PySem PySem.Spec PyProof.Rows L2

section
variable {X : Cx}
theorem ps_setDc {i : Nat} {y : Str} {py : Pos} {kx vx tg iter : Expr} {ifs : List Expr} {scope : Scope} {own : List (Str × Nat)} {pos spos : Pos} {wi : TI} {g : TG} {tt : TT} {tk tv : TE} (hc : X.calm = true) (hN : X.N.Nodup) (hy : X.N[i]? = some y) (hyl : X.env.scope.names.lookup y = some .local)
    (hsw : swapsWith (.DictComp kx vx [⟨tg, iter, ifs, 0⟩] scope pos) (some (.Name y py)) spos.line X.env = pure true) (hi : PI X tg iter wi) (ok : BlkOk X.N X.env.scope scope own)
    (hg : ∀ (s : Shared) (H : Hp) (C : Addr) (cl : List (Str × Addr)) (fp : List Addr), PG (X.blk s H scope (compEnvC scope cl C X.env) fp) tg g) (ht : ∀ (s : Shared) (H : Hp) (C : Addr) (cl : List (Str × Addr)) (fp : List Addr), PTs (X.blk s H scope (compEnvC scope cl C X.env) fp) ifs tt)
    (hk : ∀ (s : Shared) (H : Hp) (C : Addr) (cl : List (Str × Addr)) (fp : List Addr), PE (X.blk s H scope (compEnvC scope cl C X.env) fp) kx tk) (he : ∀ (s : Shared) (H : Hp) (C : Addr) (cl : List (Str × Addr)) (fp : List Addr), PE (X.blk s H scope (compEnvC scope cl C X.env) fp) vx tv)
    (hs : ∀ x, foldedSetIterable iter X.env x = pure x := by intro _; rfl) :
    PS X (.Assign [.Name y py] (.DictComp kx vx [⟨tg, iter, ifs, 0⟩] scope pos) spos) (tAsg (tDc wi g tt tk tv (own.map (·.2))) (gName i)) := by
  refine ⟨fun pins s σ H D I h => ?_⟩
  rw [exec_Assign_Name_used _ _ _ _ hsw]
  refine wpAny_bind (wpAny_standAt (wpAny_bind ?_))
  show wpAny _ X.A (do let _ ← comprehension (.DictComp kx vx [⟨tg, iter, ifs, 0⟩] scope pos) scope X.env (firstIterPos [⟨tg, iter, ifs, 0⟩] pos) newDict false (eval iter X.env) (some (assign (.Name y py) X.env))) _ _ s
  have h : tDc wi g tt tk tv (own.map (·.2)) σ H (fun x H1 => gName i x σ H1 D.nx) := h
  refine wpAny_bind (thn (dc_core (Qf := fun _ s' => L2.SP X pins D .next s') hc hN I hi ok hg ht hk he hs h fun L C s' m H' I' q hn f => ?_) fun _ s' hq => wpAny_pure (wpAny_pure hq))
  show wpAny _ _ (assign (.Name y py) X.env (.ref L)) _ _ _
  refine wpAny_assign_Name (store_ok2 (v := V.ref L) I' hN hy (.inl hyl) rfl (fun s2 I2 ⟨a, sb, ha⟩ => ?_) (.inr hyl))
  obtain ⟨f0, f1, f2, f3, f4, f5⟩ := f
  have nCa : C ≠ a := by
    rcases ha with z | z
    · rw [z]; exact f1
    · exact fun e => f4 y a z e.symm
  exact ⟨m, hn.sameBut sb nCa, fun h3 sb3 => ⟨_, H', I2.turned (t' := s2.toks) (fun b o hb e => (sb3.2 b hb).trans e) f0 f1 f3 f4 f5, q⟩⟩
theorem sw_trueD {kx vx : Expr} {gs : List Comprehension} {scope : Scope} {pos py : Pos} {y : Str} {l : Nat} {env : Env} (hk : env.scope.kind = .function) (hy : env.scope.names.lookup y = some .local) (hl : (py.line == pos.line) = true)
    (ha : (scope.names.any fun (n, k) => n == y && (k == .local || k == .cell)) = false) : swapsWith (.DictComp kx vx gs scope pos) (some (.Name y py)) l env = pure true := by
  have q1 : env.kindOf y = some .local := hy
  have q2 : env.blockKind = .function := by unfold Env.blockKind; rw [hk]; rfl
  unfold swapsWith
  simp only [q2, q1, ha, Expr.pos, hl]
  rfl
end
section
variable {g : Gx} {l : Lx} {X : Cx} {W : WX} {tg kx vx iter : Expr} {ifs : List Expr} {it : CI} {t : Tg} {cnd : Option C} {k e : C} {pos : Pos}
theorem ss_setDc (i : Nat) {scope : Scope} {own : List (Str × Nat)} {y : Str} {py spos : Pos} (hc : X.calm = true) (hN : X.N.Nodup) (hy : X.N[i]? = some y) (hyl : X.env.scope.names.lookup y = some .local)
    (hsw : swapsWith (.DictComp kx vx [⟨tg, iter, ifs, 0⟩] scope pos) (some (.Name y py)) spos.line X.env = pure true) (hi : SIE g l X W tg iter it) (ok : BlkOk X.N X.env.scope scope own) (ho : own.map (·.2) = t.ixs)
    (hg : ∀ (s : Shared) (H : Hp) (C : Addr) (cl : List (Str × Addr)) (fp : List Addr), PG (X.blk s H scope (compEnvC scope cl C X.env) fp) tg (gT g l t))
    (ht : ∀ (s : Shared) (H : Hp) (C : Addr) (cl : List (Str × Addr)) (fp : List Addr), PTs (X.blk s H scope (compEnvC scope cl C X.env) fp) ifs (tC g l cnd))
    (hk : ∀ (s : Shared) (H : Hp) (C : Addr) (cl : List (Str × Addr)) (fp : List Addr), SE g l (X.blk s H scope (compEnvC scope cl C X.env) fp) W0 kx k)
    (he : ∀ (s : Shared) (H : Hp) (C : Addr) (cl : List (Str × Addr)) (fp : List Addr), SE g l (X.blk s H scope (compEnvC scope cl C X.env) fp) W0 vx e)
    (hs : ∀ x, foldedSetIterable iter X.env x = pure x := by intro _; rfl) : SS g l X W (.Assign [.Name y py] (.DictComp kx vx [⟨tg, iter, ifs, 0⟩] scope pos) spos) (sSet i (cFrz (fDComp t it cnd k e))) := by
  refine PS.weak (ps_post (ps_setDc hc hN hy hyl hsw hi ok hg ht hk he hs)) fun D σ H ⟨z, u, fr, e1, e2, e3, e4⟩ => ?_
  rw [ho]
  have e4 : RunS g l W z D u (((fDComp t it cnd k e fr u.h).bind fun c h1 => .ok c.val h1).bind fun v h1 => .ok (.nx (fr.set i (.val v))) h1) := e4
  refine dc_read (W := W) ⟨z, u, fr, e1, e2, e3, ?_⟩
  cases q : fDComp t it cnd k e fr u.h with
  | exc c hh => rw [q] at e4; exact fun u1 h1 x1 r1 => e4 u1 σ h1 (x1.s z) r1
  | bad => rw [q] at e4; exact e4
  | ok c hh =>
    rw [q] at e4
    intro u1 eh x1 r1 v n
    rcases n.frz x1 r1 with ⟨u2, k1, k2, k3, k4, k5⟩ | ⟨a, o, h1, h2, h3⟩
    · refine .inl ?_
      rw [← k1]
      exact e4 u2 (σ.set i (some v)) (k2.trans eh) (k3.s z) k4 ((e3.ext k3 e2).setV k5)
    · refine .inr ⟨a, o, h1, h2, fun od => ?_⟩
      obtain ⟨u2, k1, k2, k3, k4, k5⟩ := h3 od
      rw [← k1]
      exact e4 u2 (σ.set i (some v)) (k2.trans eh) (k3.s z) k4 ((e3.ext k3 e2).setV k5)
end
end Pk

set_option maxRecDepth 100000
/-! Pk35: an own container from a comprehension on one line. -/
namespace Pk
open PySem PySem.Spec PyProof.Rows L2

section
variable {g : Gx} {l : Lx} {X : Cx} {W : WX} {tg kx vx elt iter : Expr} {ifs : List Expr} {it : CI} {t : Tg} {cnd : Option C} {k e : C} {pos : Pos}
theorem ss_ownDc (i : Nat) {scope : Scope} {own : List (Str × Nat)} {y : Str} {py spos : Pos} (hc : X.calm = true) (hN : X.N.Nodup) (hy : X.N[i]? = some y) (hyl : X.env.scope.names.lookup y = some .local)
    (hsw : swapsWith (.DictComp kx vx [⟨tg, iter, ifs, 0⟩] scope pos) (some (.Name y py)) spos.line X.env = pure true) (hi : SIE g l X W tg iter it) (ok : BlkOk X.N X.env.scope scope own) (ho : own.map (·.2) = t.ixs)
    (hg : ∀ (s : Shared) (H : Hp) (C : Addr) (cl : List (Str × Addr)) (fp : List Addr), PG (X.blk s H scope (compEnvC scope cl C X.env) fp) tg (gT g l t))
    (ht : ∀ (s : Shared) (H : Hp) (C : Addr) (cl : List (Str × Addr)) (fp : List Addr), PTs (X.blk s H scope (compEnvC scope cl C X.env) fp) ifs (tC g l cnd))
    (hk : ∀ (s : Shared) (H : Hp) (C : Addr) (cl : List (Str × Addr)) (fp : List Addr), SE g l (X.blk s H scope (compEnvC scope cl C X.env) fp) W0 kx k)
    (he : ∀ (s : Shared) (H : Hp) (C : Addr) (cl : List (Str × Addr)) (fp : List Addr), SE g l (X.blk s H scope (compEnvC scope cl C X.env) fp) W0 vx e)
    (hs : ∀ x, foldedSetIterable iter X.env x = pure x := by intro _; rfl) : SS g l X W (.Assign [.Name y py] (.DictComp kx vx [⟨tg, iter, ifs, 0⟩] scope pos) spos) (sOwn i (fDComp t it cnd k e)) := by
  refine PS.weak (ps_setDc hc hN hy hyl hsw hi ok hg ht hk he hs) fun D σ H ⟨z, u, fr, e1, e2, e3, e4⟩ => ?_
  rw [ho]
  have e4 : RunS g l W z D u ((fDComp t it cnd k e fr u.h).bind fun c h1 => .ok (.nx (fr.set i c.sl)) h1) := e4
  refine dc_read (W := W) ⟨z, u, fr, e1, e2, e3, ?_⟩
  cases q : fDComp t it cnd k e fr u.h with
  | exc c hh => rw [q] at e4; exact fun u1 h1 x1 r1 => e4 u1 σ h1 (x1.s z) r1
  | bad => rw [q] at e4; exact e4
  | ok c hh =>
    rw [q] at e4
    intro u1 eh x1 r1 v n
    obtain ⟨a, ev, _⟩ := id n
    subst ev
    exact e4 u1 (σ.set i (some (.ref a))) eh (x1.s z) r1 (FR.fresh e3 (e3.ext x1 e2) n)
theorem ss_ownLc (i : Nat) {scope : Scope} {own : List (Str × Nat)} {y : Str} {py spos : Pos} (hc : X.calm = true) (hN : X.N.Nodup) (hy : X.N[i]? = some y) (hyl : X.env.scope.names.lookup y = some .local)
    (hsw : swapsWith (.ListComp elt [⟨tg, iter, ifs, 0⟩] scope pos) (some (.Name y py)) spos.line X.env = pure true) (hi : SIE g l X W tg iter it) (ok : BlkOk X.N X.env.scope scope own) (ho : own.map (·.2) = t.ixs)
    (hg : ∀ (s : Shared) (H : Hp) (C : Addr) (cl : List (Str × Addr)) (fp : List Addr), PG (X.blk s H scope (compEnvC scope cl C X.env) fp) tg (gT g l t))
    (ht : ∀ (s : Shared) (H : Hp) (C : Addr) (cl : List (Str × Addr)) (fp : List Addr), PTs (X.blk s H scope (compEnvC scope cl C X.env) fp) ifs (tC g l cnd))
    (he : ∀ (s : Shared) (H : Hp) (C : Addr) (cl : List (Str × Addr)) (fp : List Addr), SE g l (X.blk s H scope (compEnvC scope cl C X.env) fp) W0 elt e)
    (hs : ∀ x, foldedSetIterable iter X.env x = pure x := by intro _; rfl) : SS g l X W (.Assign [.Name y py] (.ListComp elt [⟨tg, iter, ifs, 0⟩] scope pos) spos) (sOwn i (fComp t it cnd e)) := by
  refine PS.weak (ps_setLc hc hN hy hyl hsw hi ok hg ht he hs) fun D σ H ⟨z, u, fr, e1, e2, e3, e4⟩ => ?_
  rw [ho]
  have e4 : RunS g l W z D u ((fComp t it cnd e fr u.h).bind fun c h1 => .ok (.nx (fr.set i c.sl)) h1) := e4
  refine lc_read (W := W) ⟨z, u, fr, e1, e2, e3, ?_⟩
  cases q : fComp t it cnd e fr u.h with
  | exc c hh => rw [q] at e4; exact fun u1 h1 x1 r1 => e4 u1 σ h1 (x1.s z) r1
  | bad => rw [q] at e4; exact e4
  | ok c hh =>
    rw [q] at e4
    intro u1 eh x1 r1 v n
    obtain ⟨a, ev, _⟩ := id n
    subst ev
    exact e4 u1 (σ.set i (some (.ref a))) eh (x1.s z) r1 (FR.fresh e3 (e3.ext x1 e2) n)
end
end Pk

set_option maxRecDepth 100000
/-! Pk36: a lambda that is kept: its function object is tracked; it is called later, from a comprehension's block. -/
namespace Pk
open PySem PySem.Spec PyProof.Rows L2

abbrev LamD := Arguments × Expr × Scope
section
variable {X : Cx} {pins : List (Addr × Obj)} {σ : L2.St} {H : Hp} {s : Shared}
/-- the function object of a lambda of the def X -/
def LamO (X : Cx) (f c' : Addr) (d : LamD) : HO := .ext fun h => ∃ pm ctv : Value, h.get? f = some (PySem.W.kla_obj "<lambda>" (X.env.qual ++ "<lambda>") d.1 d.2.1 d.2.2 (cloFrom X.env.cells d.2.2.names []) pm c' ctv)
theorem lamO_ne {f c' : Addr} {d : LamD} (ps : Array Value) : LamO X f c' d ≠ .tbl ps := fun z => by unfold LamO at z; cases z
theorem lamO_ok {P : Program} {w : World} {K : Hp} {h : Heap} {f c' : Addr} {d : LamD} {pm ctv : Value} (e : h.get? f = some (PySem.W.kla_obj "<lambda>" (X.env.qual ++ "<lambda>") d.1 d.2.1 d.2.2 (cloFrom X.env.cells d.2.2.names []) pm c' ctv)) : ObjOk P w K h f (LamO X f c' d) :=
  ⟨⟨pm, ctv, e⟩, ⟨_, e⟩, fun h1 h2 ⟨p, c, q⟩ st => ⟨p, c, st _ q⟩⟩
/-- a lambda is made and tracked -/
theorem lam_track {T : List (Addr × Str)} {c P : Addr} {params : Arguments} {body : Expr} {scope : Scope} {pos : Pos} {E Q : Value → Shared → Prop} (I : Inv X pins σ H s) (TB : LamX.TabB X.base X.mg c P) (hcode : X.env.code = .ref c)
    (hm : (P, X.env.qual ++ "<lambda>") ∈ T) (hu : ∀ p ∈ T, p.1 = P → p.2 = X.env.qual ++ "<lambda>") (hT : LamX.Tabs T H) (hdef : defaultsOf params X.env = ([], [])) (hfree : ∀ y ∈ scope.names, y.2 = .free → ∃ c, X.env.cells.lookup y.1 = some c)
    (h : ∀ (f c' : Addr) (H1 : Hp) (s' : Shared), Inv X pins σ (upd H1 f (LamO X f c' (params, body, scope))) s' → LamX.ExtN H H1 → LamX.Tabs T H1 → H1 f = none → H1 c' = some (LamX.CodeO c' (X.env.qual ++ "<lambda>")) → Q (.ref f) s') :
    wpAny (model X.prog X.w) X.A (eval (.Lambda params body scope pos) X.env) Q E s := by
  obtain ⟨tps, hTP, tok, tat⟩ := hT _ hm
  have bPs : s.heap.BuiltinsAt X.mg P := TB.bm.keeps I.bk
  have tblAt : s.heap.get? P = some { cls := .none, data := .fields tps } := I.hok P _ hTP
  refine PySem.W.kla_eval hdef ?_
  rcases hcs : codeAmong pos tps.toList with _ | cv
  · refine PySem.W.kla_makeFunction (mg := X.mg) (c := c) (P := P) (ps := tps) (closure_ok hfree) I.ok.glob (I.mod.glob.keeps I.bk) hcode (TB.code.keeps I.bk) tblAt tok hcs TB.gP bPs fun c' ctv h1 tk hk hge hlt hrec htb => ?_
    obtain ⟨cA, oc, vs, t, eA, hoc, hfd, hvs⟩ := hrec
    cases eA
    have freeC : H c' = none := I.hok.fresh hge
    have J := LamX.inv_table (t' := tk) (more := #[rawInt pos.line, rawInt pos.col, .ref c']) (h' := h1) I hTP hk htb hge ⟨oc, vs, t, hoc, hfd, hvs⟩
    have hE : LamX.ExtN H (upd (upd H P (.tbl (tps ++ #[rawInt pos.line, rawInt pos.col, .ref c']))) c' (LamX.CodeO c' (X.env.qual ++ "<lambda>"))) := fun b o e n => by
      have n1 : b ≠ P := fun z => by rw [z, hTP] at e; exact n tps (Option.some.inj e).symm
      rw [upd_ne (ne_of_none e freeC), upd_ne n1, e]
    have toL : (tps ++ #[rawInt pos.line, rawInt pos.col, .ref c']).toList = tps.toList ++ [rawInt pos.line, rawInt pos.col, .ref c'] := by simp
    have hfN := J.hok.fresh (Nat.le_refl h1.objs.size)
    have J2 := J.laid (t' := tk) (h' := h1.push (PySem.W.kla_obj "<lambda>" (X.env.qual ++ "<lambda>") params body scope (cloFrom X.env.cells scope.names []) ((X.mg "__name__").getD .none) c' ctv)) (a := h1.objs.size) (o := LamO X h1.objs.size c' (params, body, scope))
      (fun b u e => Heap.get?_push_of_some _ e) (Nat.le_refl _) (lamO_ok (Heap.get?_push_size _ rfl))
    refine h h1.objs.size c' _ _ J2 hE (fun p hp => ?_) hfN upd_same
    by_cases hb : p.1 = P
    · rw [hu p hp hb, hb]
      refine ⟨_, by rw [upd_ne (ne_of_none hTP freeC)]; exact upd_same, by rw [toL]; exact PySem.TriplesOk_snoc _ _ _ _ tok, fun p' cv hcv => ?_⟩
      rw [toL] at hcv
      rcases LamX.among_app _ tok hcv with z | z
      · obtain ⟨c0, e1, e2⟩ := tat p' cv z
        exact ⟨c0, e1, hE _ _ e2 LamX.codeO_ne⟩
      · exact ⟨c', z, upd_same⟩
    · obtain ⟨ps', a1, a2, a3⟩ := hT p hp
      refine ⟨ps', by rw [upd_ne (ne_of_none a1 freeC), upd_ne hb, a1], a2, fun p' cv hcv => ?_⟩
      obtain ⟨c0, e1, e2⟩ := a3 p' cv hcv
      exact ⟨c0, e1, hE _ _ e2 LamX.codeO_ne⟩
  · obtain ⟨c', e, hco⟩ := tat pos cv hcs
    subst e
    refine PySem.W.kla_makeFunctionHit (mg := X.mg) (c := c) (P := P) (ps := tps) (closure_ok hfree) I.ok.glob (I.mod.glob.keeps I.bk) hcode (TB.code.keeps I.bk) tblAt tok hcs bPs fun ctv h1 tk hk hsz => ?_
    have J : Inv X pins σ H { s with heap := h1, toks := tk } := I.kept hk
    have hfN : H h1.objs.size = none := J.hok.fresh (Nat.le_refl _)
    have J2 := J.laid (t' := tk) (h' := h1.push (PySem.W.kla_obj "<lambda>" (X.env.qual ++ "<lambda>") params body scope (cloFrom X.env.cells scope.names []) ((X.mg "__name__").getD .none) c' ctv)) (a := h1.objs.size) (o := LamO X h1.objs.size c' (params, body, scope))
      (fun b u e => Heap.get?_push_of_some _ e) (Nat.le_refl _) (lamO_ok (Heap.get?_push_size _ rfl))
    exact h h1.objs.size c' H _ J2 (LamX.ExtN.refl H) hT hfN hco
/-- the kept lambda is called in the def that got it -/
theorem lam_act {CXg : CXT} {Eg : XK} {Ng : List Str} {qg : Str} {sg : Scope} {g f c' : Addr} {cdg : Value} {d : LamD} {k i : Nat} {a : Str} {pn : List (Addr × Obj)} {xe : Value → Shared → Prop} {W : WX} {E : XK} {tb : TE} {p1 p2 : Pos}
    (I : Inv X pins σ H s) (L : LamX.LamS X.env.scope d.2.2)
    (hbind : ∀ (q : Str) (cl : List (Str × Addr)) (pm cv ctv : Value), bindArgs (PySem.W.kla_fn "<lambda>" q d.1 d.2.1 d.2.2 cl pm cv ctv) ⟨[], []⟩ = pure [])
    (tk : Takes ((cxOf CXg X.prog X.w X.K X.mg X.base Ng qg sg g cdg X.A X.stack s H Eg).tr pn xe) W) (hW : ∀ cls d σ' H', E cls d H' → W cls d σ' H') (hr : Room (k + 1) (X.A.deeper (envOfC qg sg s.heap.objs.size g cdg)))
    (hbody : ∀ (A : Around) (outer : List Env) (s : Shared) (H : Hp), Room k (A.deeper (LamX.lamEnv X d.2.2 s.heap.objs.size f c')) → PE (LamX.lamCx X A outer s H E d.2.2 f c') d.2.1 tb)
    (hN : Ng[i]? = some a) (hv : Vis sg a) (hd : (a == ("__debug__" : Str)) = false := by decide) (hcd : (a == ("__classdict__" : Str)) = false := by decide) :
    PE ((cxOf CXg X.prog X.w X.K X.mg X.base Ng qg sg g cdg X.A X.stack s H Eg).tr pn xe) (.Call (.Name a p1) [] [] p2)
      (fun σZ HZ Q => σZ[i]? = some (some (.ref f)) ∧ HZ f = some (LamO X f c' d) ∧ HZ c' = some (LamX.CodeO c' (X.env.qual ++ "<lambda>")) ∧ tb σ HZ Q) := by
  refine ⟨fun pinsZ sZ σZ HZ Q IZ ⟨hs, hl, hc, ht⟩ => ?_⟩
  refine wpAny_Call_Name_kw (thn ((pe_var (pos := p1) (i := i) hN hv hd hcd).run pinsZ sZ σZ HZ (fun v H1 => v = .ref f ∧ H1 = HZ) IZ ⟨.ref f, hs, rfl, rfl⟩) fun u s1 ⟨v, H1, I1, r1, ev, eH⟩ => ?_)
  rw [ev] at r1
  rw [eH] at I1
  obtain rfl : u = Value.ref f := r1
  obtain ⟨⟨pm, ctv, hf⟩, _, _⟩ := I1.hok f _ hl
  refine PySem.W.callWith_F0 ⟨_, _, _, _, hf⟩ ?_
  obtain ⟨⟨oc, vs, t, hoc, hdc, hvc⟩, _, _⟩ := I1.hok c' _ hc
  have un : Un (frs X.stack) [] H HZ s.heap s1.heap := I1.base
  have body : codeAny (model X.prog X.w) (X.A.deeper (envOfC qg sg s.heap.objs.size g cdg)) (.call (.ref f) ⟨[], []⟩) (CR (L2.CX X.prog X.w) (envOfC qg sg s.heap.objs.size g cdg :: X.stack) X.prog X.w HZ s1 Q E) s1 := by
    refine PySem.W.kla_callFunE hr.depth hf rfl L.co L.gen rfl ⟨c', oc, vs, t, rfl, hoc, hdc, hvc⟩ ?_
    rw [hbind]
    refine wpAny_pure (wpAny_newFunctionEnv (fun y hy => (L.own y hy).2) (fun y hy => absurd hy (by simp)) (fun h₁ hns hsb => ⟨I1.nolimit.fresh _ hsb, ?_⟩) L.kind)
    have kp : ∀ b o, s1.heap.get? b = some o → h₁.get? b = some o := fun b o e => hsb.extBut b o (Nat.ne_of_lt (Heap.lt_size e)) (Heap.get?_push_of_some _ e)
    have J : Inv (LamX.lamCx X (X.A.deeper (envOfC qg sg s.heap.objs.size g cdg)) (envOfC qg sg s.heap.objs.size g cdg :: X.stack) s1 HZ E d.2.2 f c') [] σ HZ { s1 with heap := h₁, toks := s1.toks + ([] : List (Str × Value)).length } :=
      LamX.lam_start2 I L I1.env0 hr.hd un hns kp
    refine PySem.W.kla_codeExpr (wpAny_mono ((hbody _ _ s1 HZ (hr.deeper _)).run [] _ _ HZ Q J ht) (fun v s' ⟨w', H', J', rv, q⟩ => ?_) fun e s' hq => hq)
    exact ⟨w', H', J'.os, J'.bare, J'.base, J'.hok, rv, q⟩
  have out : Passes (L2.CX X.prog X.w) ((cxOf CXg X.prog X.w X.K X.mg X.base Ng qg sg g cdg X.A X.stack s H Eg).tr pn xe) E := passes_call tk hW
  refine wpAny_call (codeAny_mono body fun r s' hq => ?_)
  match r, hq with
  | .error e, hq => exact out pinsZ σZ HZ s1 e s' I1 hq
  | .ok (.ret u), hq => exact I1.after hq
  | .ok .next, hq => exact False.elim hq
  | .ok .brk, hq => exact False.elim hq
  | .ok .cont, hq => exact False.elim hq
/-- the def's own state, seen from a block of it -/
theorem regain {pins' : List (Addr × Obj)} {σ' : L2.St} {H' : Hp} {s' : Shared} {scope : Scope} {ce : Env} {fp : List Addr} (I : Inv X pins σ H s) (f : ∀ b ∈ fp, FpOk X pins H b) (J : Inv (X.blk s H scope ce fp) pins' σ' H' s') : Inv X pins σ H' s' :=
  I.call' (ch := fp) J.os J.base J.hok J.bare fun b hb => ⟨(f b hb).2.2.2.1, (f b hb).2.1, (f b hb).2.2.2.2.1, (f b hb).2.2.2.2.2⟩
end
end Pk

set_option maxRecDepth 100000
/-! Pk37: a comprehension that asks each kept lambda: told(f) in the block; the comprehension whose tests know the def's own state. -/
namespace Pk
open PySem PySem.Spec PyProof.Rows L2

/-- a lambda and the code of its body -/
structure LamH (g : Gx) (X : Cx) (k : Nat) (d : LamD) (b : C) : Prop where
  L : LamX.LamS X.env.scope d.2.2
  bind : ∀ (q : Str) (cl : List (Str × Addr)) (pm cv ctv : Value), bindArgs (PySem.W.kla_fn "<lambda>" q d.1 d.2.1 d.2.2 cl pm cv ctv) ⟨[], []⟩ = pure []
  dfl : defaultsOf d.1 X.env = ([], [])
  body : ∀ (A : Around) (outer : List Env) (s : Shared) (H : Hp) (E : XK) (f c' : Addr), Room k (A.deeper (LamX.lamEnv X d.2.2 s.heap.objs.size f c')) → SE g Lx.no (LamX.lamCx X A outer s H E d.2.2 f c') (WK E) d.2.1 b
section
variable {g : Gx} {X : Cx} {pins : List (Addr × Obj)} {σ : L2.St} {H : Hp} {s : Shared}
/-- told(f) in a block of the def: f is a kept lambda, and its body raises what told tells -/
def tAsk (g : Gx) (X : Cx) (k : Nat) (es : List Nat) (ret : Str) (i : Nat) (σ : L2.St) : TE := fun σ' H Q => ∃ (f c' : Addr) (d : LamD) (b : C) (z : Hp) (u : Vw) (fr : Fr) (c : Nat) (hh : Hv),
  σ'[i]? = some (some (.ref f)) ∧ H f = some (LamO X f c' d) ∧ H c' = some (LamX.CodeO c' (X.env.qual ++ "<lambda>")) ∧ LamH g X k d b ∧ u.H = H ∧ HR g Lx.no u ∧ FR Lx.no z u fr σ ∧
  b fr u.h = .exc c hh ∧ es.contains c = true ∧ ∀ u' : Vw, u'.h = hh → Ext u u' → HR g Lx.no u' → Q (.str ret) u'.H
theorem pe_ask {es : List Nat} {x y ret : Str} {k i : Nat} {p p1 pos : Pos} {scope : Scope} {ce : Env} {fp : List Addr} (T : ToldF g X.K X.mg x es ret) (I : Inv X pins σ H s) (f : ∀ b ∈ fp, FpOk X pins H b) (hr : Room (k + 2) X.A)
    (hg : Gl (X.blk s H scope ce fp) x) (hN : X.N[i]? = some y) (hv : Vis ce.scope y) (hdb : (x == ("__debug__" : Str)) = false := by decide) (hd : (y == ("__debug__" : Str)) = false := by decide) (hcd : (y == ("__classdict__" : Str)) = false := by decide) :
    PE (X.blk s H scope ce fp) (.Call (.Name x p) [.Name y p1] [] pos) (tAsk g X k es ret i σ) := by
  obtain ⟨gA, CS, st, a, e, dV, kV, doc, pm, cdv, ct, oc, an, od, osl, Ng, j, q1, q2, q3, q4, q5, q6, q7, q8, m1, m2, m3, m4, m5, m6, m7, m8, m9, m10, m11, m12, m13, m14, m15, m16⟩ := T.ex
  rw [m15] at m3 m5
  refine ⟨fun pins' s' σ' H' Q J h => ?_⟩
  refine wpAny_Call_Name_kw (ld_glob J hg m1 ?_ hdb)
  refine PySem.W.callWith_K (h₀ := X.base) I.ok.mod.kin m2 ?_ (by rfl) (by rfl)
  show wpAny _ _ (spliced ((false, eval (.Name y p1) ce) :: backTo pos (starEach [] ce))) _ _ s'
  obtain ⟨fA, c', d, b, z, u, fr, c, hh, h1, h2, h3, hL, h4, h5, h6, h7, h8, h9⟩ := h
  refine Calls.spliced_cons (thn ((pe_var (X := X.blk s H scope ce fp) (pos := p1) (i := i) hN hv hd hcd).run pins' s' σ' H' (fun v H1 => v = .ref fA ∧ H1 = H') J ⟨.ref fA, h1, rfl, rfl⟩) fun uv s1 ⟨v, H1, J1, r1, ev, eH⟩ => ?_)
  rw [ev] at r1
  rw [eH] at J1
  obtain rfl : uv = Value.ref fA := r1
  refine Calls.spliced_nil ⟨J1.kIn, ?_⟩
  have I1 : Inv X pins σ H' s1 := regain I f J1
  have hG := LamX.told_gives (X := X) (Ng := Ng) (x := x) (a := a) (e := e) (q := X.env.qual ++ "<lambda>") (ret := ret) (sg := defScope st) (g := gA) (CS := CS) (cdg := cdv) (j := j) (p1 := q1) (p2 := q2) (p3 := q3) (p4 := q4) (p5 := q5) (p6 := q6) (p7 := q7) (p8 := q8) m11 m12 m13 m14
  have rc : codeAny (model X.prog X.w) X.A (.call (.ref gA) ⟨[.ref fA], []⟩) (CR C8.CX0 X.stack X.prog X.w H' s1 Q C8.E0) s1 := by
    refine LamX.run_ofS (N := Ng) (ps := [a]) (us := [.ref fA]) (vs := [.ref fA]) m3 m4 m6 hr I1.env0 (m5 s1 [.ref fA] I1.kIn rfl) (.cons rfl .nil) rfl fun hr' => ?_
    obtain ⟨t', ht', hq'⟩ := hG fA c' s1 H' Q (fun E H2 Q2 => H2 fA = some (LamO X fA c' d) ∧ tE g Lx.no (WK E) (RepV Lx.no) b σ H2 Q2) (fun W pn xe E p1 p2 tk hW =>
      PE.weak (lam_act (i := 0) I1 hL.L hL.bind tk hW hr' (fun A outer s H hr2 => hL.body A outer s H E fA c' hr2) m7 m8 m9 m10) fun σZ HZ QZ ⟨k1, k2, k3, k4⟩ => ⟨k1, k3, k2, k4⟩) h3
      ⟨h2, z, u, fr, h4, h5, h6, by
        rw [h7]
        exact fun u' e1 x1 r1 => ⟨true, m16 c h8, fun _ => h9 u' e1 x1 r1, fun h => by cases h⟩⟩
    exact ⟨t', ht'.nox, hq'⟩
  refine wpAny_call (codeAny_mono rc fun r s2 hq => ?_)
  match r, hq with
  | .error e, hq => exact (show False from hq).elim
  | .ok (.ret u), hq => exact J1.after hq
  | .ok .next, hq => exact False.elim hq
  | .ok .brk, hq => exact False.elim hq
  | .ok .cont, hq => exact False.elim hq
end

section
variable {X : Cx}
/-- a list comprehension; its tests are told of the state at the block's start -/
theorem lc_told {pins : List (Addr × Obj)} {s : Shared} {σ : L2.St} {H : Hp} {Q : VK} {elt tg iter : Expr} {ifs : List Expr} {scope : Scope} {own : List (Str × Nat)} {pos pos' : Pos} {wi : TI} {g : TG} {tt : TT} {te : TE} {Qf : Value → Shared → Prop}
    (hc : X.calm = true) (hN : X.N.Nodup) (I : Inv X pins σ H s) (hi : PI X tg iter wi) (ok : BlkOk X.N X.env.scope scope own)
    (hg : ∀ (s : Shared) (H : Hp) (C : Addr) (cl : List (Str × Addr)) (fp : List Addr), PG (X.blk s H scope (compEnvC scope cl C X.env) fp) tg g)
    (ht : ∀ (s : Shared) (H : Hp) (C : Addr) (cl : List (Str × Addr)) (fp : List Addr), Inv X pins σ H s → (∀ b ∈ fp, FpOk X pins H b) → PTs (X.blk s H scope (compEnvC scope cl C X.env) fp) ifs tt)
    (he : ∀ (s : Shared) (H : Hp) (C : Addr) (cl : List (Str × Addr)) (fp : List Addr), PE (X.blk s H scope (compEnvC scope cl C X.env) fp) elt te) (hs : ∀ x, foldedSetIterable iter X.env x = pure x)
    (h : tLc wi g tt te (own.map (·.2)) σ H Q)
    (hE : ∀ D C s' m H', Inv X pins σ H' s' → Q (.ref D) H' → s'.heap.Ns C m → FpOk X pins H' C → compPost (model X.prog X.w) X.A X.xe none Qf (.ref D) C (.ok .next) s') :
    wpAny (model X.prog X.w) X.A (comprehension (.ListComp elt [⟨tg, iter, ifs, 0⟩] scope pos) scope X.env pos' (newList []) false (eval iter X.env) none) Qf X.xe s := by
  have hfree : ∀ y ∈ scope.names, y.2 = .free → ∃ c, X.env.cells.lookup y.1 = some c := fun y hy e => by
    rcases ok.free y hy e with k | k
    · exact I.ok.has _ (Or.inl k)
    · exact I.ok.has _ (Or.inr k)
  refine wpAny_comprehension_free (use := none) rfl hs (closure_ok hfree) ok.kind (fun y hy e => by rw [ok.uniq y hy, e]) ?_
  refine thn (hi.run pins s σ H _ I h) fun xv s1 hx => thn hx fun itv s2 ⟨it, fp, tn, J, H2, e, I2, T, st2, f2, q⟩ => ?_
  subst e
  refine wpAny_newObj_type (newEnv_comp ?_) (by show 0 ≤ sizeLine; decide)
  obtain ⟨D, hD⟩ : ∃ D, s2.heap.objs.size = D := ⟨_, rfl⟩
  rw [hD]
  have hDn : H2 D = none := I2.hok.fresh (Nat.le_of_eq hD)
  obtain ⟨W, ⟨m0, w0⟩, turn⟩ := q D hDn
  obtain ⟨s3, hs3⟩ : ∃ s3 : Shared, ({ s2 with heap := s2.heap.push { cls := .type "list", data := .seq ([] : List Value).toArray } } : Shared) = s3 := ⟨_, rfl⟩
  have h3 : s3.heap = s2.heap.push { cls := .type "list", data := .seq ([] : List Value).toArray } := by rw [← hs3]
  have kp3 : ∀ b o, s2.heap.get? b = some o → s3.heap.get? b = some o := fun b o e => by rw [h3]; exact Heap.get?_push_of_some _ e
  have I3 : Inv X pins σ (upd H2 D (.lst [])) s3 := by
    rw [← hs3]
    exact I2.laid (t' := s2.toks) (fun b o e => Heap.get?_push_of_some _ e) (Nat.le_of_eq hD) ⟨Nat.zero_le _, [], 0, .nil, by rw [← hD]; exact Heap.get?_push_size _ rfl⟩
  have sz : ∀ b ∈ fp, b < s2.heap.objs.size := fun b hb => by
    obtain ⟨o, e, _⟩ := T.obj _ _ st2 b hb
    exact Heap.lt_size e
  have f3 : ∀ b ∈ fp, FpOk X pins (upd H2 D (.lst [])) b ∧ b < s3.heap.objs.size := fun b hb => by
    have lt := sz b hb
    have ne : b ≠ D := by rw [← hD]; exact Nat.ne_of_lt lt
    exact ⟨⟨(upd_ne ne).trans (f2 b hb).1, (f2 b hb).2⟩, by rw [h3, Heap.size_push]; exact Nat.lt_succ_of_lt lt⟩
  have st3 : tn 0 s3.heap := T.keep _ _ _ st2 fun b _ o e => kp3 b o e
  rw [show ({ s2 with heap := s2.heap.push { cls := .type "list", data := .seq ([] : List Value).toArray } } : Shared) = s3 from hs3]
  have I4 := block_start I3 ok hN f3
  generalize hH3 : upd H2 D (.lst []) = H3 at I3 I4 w0 f3
  have pg := hg s3 H3 s3.heap.objs.size (cellsFrom (s3.heap.objs.size + 1) scope.names (cloFrom X.env.cells scope.names [])) fp
  have pt := ht s3 H3 s3.heap.objs.size (cellsFrom (s3.heap.objs.size + 1) scope.names (cloFrom X.env.cells scope.names [])) fp I3 fun b hb => (f3 b hb).1
  have pe := he s3 H3 s3.heap.objs.size (cellsFrom (s3.heap.objs.size + 1) scope.names (cloFrom X.env.cells scope.names [])) fp
  have nfp : ∀ b ∈ fp, H3 b = none := fun b hb => (f3 b hb).1.1
  show codeAny _ _ (.compStart (.ListComp elt [⟨tg, iter, ifs, 0⟩] scope pos) 0 (.ref it) (.ref D) (compEnvC scope (cellsFrom (s3.heap.objs.size + 1) scope.names (cloFrom X.env.cells scope.names [])) s3.heap.objs.size X.env)) (compPost (model X.prog X.w) X.A X.xe none Qf (.ref D) s3.heap.objs.size) { s3 with heap := pushCells (s3.heap.push { cls := .type "dict", data := .dict #[] }) scope.names }
  obtain ⟨ce, hce⟩ : ∃ ce : Env, compEnvC scope (cellsFrom (s3.heap.objs.size + 1) scope.names (cloFrom X.env.cells scope.names [])) s3.heap.objs.size X.env = ce := ⟨_, rfl⟩
  rw [hce] at I4 pg pt pe ⊢
  have cL : ce.locals = s3.heap.objs.size := by subst hce; rfl
  obtain ⟨s4, hs4⟩ : ∃ s4 : Shared, ({ s3 with heap := pushCells (s3.heap.push { cls := .type "dict", data := .dict #[] }) scope.names } : Shared) = s4 := ⟨_, rfl⟩
  rw [hs4] at I4 ⊢
  have st4 : tn 0 s4.heap := T.keep _ _ _ st3 fun b _ o e => by rw [← hs4]; exact pushCells_keeps _ _ _ _ (Heap.get?_push_of_some _ e)
  have own' : ∀ {σ' : L2.St} {H' : Hp} {s' : Shared}, Inv (X.blk s3 H3 scope ce fp) [] σ' H' s' → (∀ b ∈ fp, H' b = none) → ∀ b ∈ fp, FpOk (X.blk s3 H3 scope ce fp) [] H' b := fun {σ' H' s'} I' hn b hb =>
    ⟨hn b hb, (I'.ok.exf b hb).1, I'.ok.exfs b hb, .inl hb, fun x c e => (I'.ok.exf b hb).2 x c e, fun p hp => absurd (show p ∈ ([] : List (Addr × Obj)) ++ [] from hp) (by simp)⟩
  have loop : codeAny (model X.prog X.w) X.A (.compLoop (.ListComp elt [⟨tg, iter, ifs, 0⟩] scope pos) 0 (.ref it) (.ref D) ce) (compPost (model X.prog X.w) X.A X.xe none Qf (.ref D) s3.heap.objs.size) s4 := by
    refine compLoop_any (fun n s' => ∃ i H', Inv (X.blk s3 H3 scope ce fp) [] (wipe σ (own.map (·.2))) H' s' ∧ tn i s'.heap ∧ (∀ b ∈ fp, H' b = none) ∧ W i n H') (fun n s5 ⟨i, H5, I5, st5, n5, w5⟩ => ?_) m0 ⟨0, H3, I4, st4, nfp, w0⟩
    rcases turn i n H5 w5 with ⟨stop, qq⟩ | ⟨go, Nx, hNx, step⟩
    · refine thnF (T.done (X.blk s3 H3 scope ce fp) rfl rfl rfl hc i [] s5 _ H5 (fun _ _ => False) I5 (own' I5 n5) st5 stop) fun r s6 ⟨hr, I6⟩ => ?_
      subst hr
      have nC : H5 s3.heap.objs.size = none := by rw [← cL]; exact I6.free
      obtain ⟨m, hn, _⟩ := I6.loc
      exact hE D s3.heap.objs.size s6 m H5 (regain I3 (fun b hb => (f3 b hb).1) I6) qq (by rw [← cL]; exact hn) (I3.fpOk (Nat.le_refl _) nC)
    · refine thnF (T.item (X.blk s3 H3 scope ce fp) rfl rfl rfl hc i [] s5 _ H5 (fun _ _ => False) I5 (own' I5 n5) st5 go) fun r s6 ⟨u, hr, h6⟩ => ?_
      subst hr
      refine thnF h6 fun _ s7 ⟨x, H7, I7, r7, y7, st7, n7⟩ => ?_
      refine thnF (pg.run _ s7 _ H7 x u _ (I7.pinned (own' I7 n7) (T.obj _ _ st7)) r7 (step x H7 y7)) fun _ s8 ⟨σ8, H8, I8, hw8, q8⟩ => ?_
      refine thnF (pt.run _ s8 σ8 H8 _ I8 q8) fun b s9 ⟨H9, I9, q9⟩ => ?_
      have fin : ∀ {s' : Shared} {H' : Hp}, Inv (X.blk s3 H3 scope ce fp) ([] ++ pinsAt fp s7.heap) σ8 H' s' → Nx H' → ∃ m, m < n ∧ ∃ i H', Inv (X.blk s3 H3 scope ce fp) [] (wipe σ (own.map (·.2))) H' s' ∧ tn i s'.heap ∧ (∀ b ∈ fp, H' b = none) ∧ W i m H' := fun {s' H'} I' nx => by
        obtain ⟨m', hm, w'⟩ := hNx H' nx
        have at7 : ∀ b ∈ fp, ∀ o, s7.heap.get? b = some o → s'.heap.get? b = some o ∧ H' b = none := fun b hb o e => by
          obtain ⟨z1, z2, _⟩ := I'.pin (b, o) (List.mem_append_right _ (List.mem_append_right _ (mem_pinsAt hb e)))
          exact ⟨z1, z2⟩
        have hl : (wipe σ (own.map (·.2))).length = σ8.length := by rw [← hw8, wipe_length]
        refine ⟨m', hm, i + 1, H', (I'.unpinned (pins := [])).weak hl (fun j v e => ?_), T.keep _ _ _ st7 fun b hb o e => (at7 b hb o e).1, fun b hb => ?_, w'⟩
        · rw [← hw8] at e
          exact (wipe_some e).1
        · obtain ⟨o, e, _⟩ := T.obj _ _ st7 b hb
          exact (at7 b hb o e).2
      cases b with
      | false =>
        simp only [Bool.false_eq_true, if_false] at q9 ⊢
        exact fin I9 q9
      | true =>
        simp only [if_true] at q9 ⊢
        exact thnF (pe.run _ s9 σ8 H9 _ I9 q9) fun z s10 ⟨yv, H10, I10, r10, acc, hD10, hz10, nx⟩ => app_ok (X := X.blk s3 H3 scope ce fp) I10 hD10 hz10 r10 fun s11 I11 => fin I11 nx
  exact codeAny_compStart_list loop (T.self X.A 0 _ _ _ st4 loop)
end
end Pk

set_option maxRecDepth 100000
/-! Pk38: a list of lambdas, and the comprehension behind it that finds that each raises. -/
namespace Pk
open PySem PySem.Spec PyProof.Rows L2

/-- each lambda in turn raises one of es -/
def lamsR (es : List Nat) : List C → Fr → Hv → Option Hv
  | [], _, h => some h
  | b :: r, fr, h => match b fr h with
    | .exc c h1 => if es.contains c then lamsR es r fr h1 else none
    | _ => none
/-- the lambdas, asked; then what follows -/
def sLams (i : Nat) (es : List Nat) (bs : List C) (k : CS) : CS := fun fr h => match lamsR es bs (fr.set i .no) h with
  | some h1 => k (fr.set i .no) h1
  | none => .bad
/-- if c: a; b (a falls through to b) -/
def sIfThen (c : C) (a b : CS) : CS := fun fr h => (c fr h).bind fun x h1 => match x with
  | .bl true => sSeq a b fr h1
  | .bl false => b fr h1
  | _ => .bad
/-- the lambdas' function objects, in a row -/
def AllLam (X : Cx) (H : Hp) : List LamD → List V → Prop
  | [], vs => vs = []
  | d :: ds, vs => ∃ f c' r, vs = .ref f :: r ∧ H f = some (LamO X f c' d) ∧ H c' = some (LamX.CodeO c' (X.env.qual ++ "<lambda>")) ∧ AllLam X H ds r
theorem AllLam.ext {X : Cx} {H H' : Hp} (e : ∀ b φ, H b = some (.ext φ) → H' b = some (.ext φ)) : ∀ {ds : List LamD} {vs : List V}, AllLam X H ds vs → AllLam X H' ds vs
  | [], _, h => h
  | _ :: _, _, ⟨f, c', r, h1, h2, h3, h4⟩ => ⟨f, c', r, h1, e _ _ h2, e _ _ h3, AllLam.ext e h4⟩
theorem AllLam.len {X : Cx} {H : Hp} : ∀ {ds : List LamD} {vs : List V}, AllLam X H ds vs → vs.length = ds.length
  | [], _, h => by rw [show _ = [] from h]; rfl
  | _ :: _, _, ⟨f, c', r, h1, _, _, h4⟩ => by rw [h1, List.length_cons, List.length_cons, AllLam.len h4]
theorem AllLam.get {X : Cx} {H : Hp} : ∀ {ds : List LamD} {vs : List V} {i : Nat} {x : V}, AllLam X H ds vs → vs[i]? = some x → ∃ d f c', ds[i]? = some d ∧ x = .ref f ∧ H f = some (LamO X f c' d) ∧ H c' = some (LamX.CodeO c' (X.env.qual ++ "<lambda>"))
  | [], _, _, _, h, q => by rw [show _ = [] from h] at q; simp at q
  | d :: _, _, 0, x, ⟨f, c', r, h1, h2, h3, _⟩, q => by
    rw [h1] at q
    exact ⟨d, f, c', rfl, (Option.some.inj q).symm, h2, h3⟩
  | _ :: _, _, i + 1, x, ⟨f, c', r, h1, _, _, h4⟩, q => by
    rw [h1] at q
    obtain ⟨d, f, c', k1, k2⟩ := AllLam.get (i := i) h4 (by simpa using q)
    exact ⟨d, f, c', by simpa using k1, k2⟩
inductive LamHs (g : Gx) (X : Cx) (k : Nat) : List Expr → List LamD → List C → Prop where
  | nil : LamHs g X k [] [] []
  | cons {params : Arguments} {body : Expr} {scope : Scope} {lpos : Pos} {b : C} {es : List Expr} {ds : List LamD} {bs : List C} : LamH g X k (params, body, scope) b → LamHs g X k es ds bs → LamHs g X k (.Lambda params body scope lpos :: es) ((params, body, scope) :: ds) (b :: bs)
theorem LamHs.get {g : Gx} {X : Cx} {k : Nat} : ∀ {es : List Expr} {ds : List LamD} {bs : List C} {i : Nat} {d : LamD}, LamHs g X k es ds bs → ds[i]? = some d → ∃ b, bs[i]? = some b ∧ LamH g X k d b
  | _, _, _, _, _, .nil, q => by simp at q
  | _, _, _, 0, d, .cons (b := b) h _, q => by
    obtain rfl := Option.some.inj q
    exact ⟨b, rfl, h⟩
  | _, _, _, i + 1, d, .cons _ h, q => by
    obtain ⟨b, h1, h2⟩ := LamHs.get (i := i) h (by simpa using q)
    exact ⟨b, by simpa using h1, h2⟩
theorem LamHs.len {g : Gx} {X : Cx} {k : Nat} : ∀ {es : List Expr} {ds : List LamD} {bs : List C}, LamHs g X k es ds bs → bs.length = ds.length
  | _, _, _, .nil => rfl
  | _, _, _, .cons _ h => by rw [List.length_cons, List.length_cons, LamHs.len h]
theorem extN_ext {H H' : Hp} (e : LamX.ExtN H H') : ∀ b φ, H b = some (.ext φ) → H' b = some (.ext φ) := fun b φ h => e b _ h fun ps z => by cases z
section
variable {g : Gx} {X : Cx} {k : Nat}
/-- the row of lambdas is made -/
def tMk (g : Gx) (X : Cx) (ds : List LamD) : TA := fun _ H Q => LamX.Tabs g.tabs H ∧ ∀ vs H1, LamX.ExtN H H1 → LamX.Tabs g.tabs H1 → AllLam X H1 ds vs → Q vs H1
theorem pe_lamT {c P : Addr} {params : Arguments} {body : Expr} {scope : Scope} {lpos : Pos} {b : C} (TB : LamX.TabB X.base X.mg c P) (hcode : X.env.code = .ref c) (hmT : (P, X.env.qual ++ "<lambda>") ∈ g.tabs) (hu : ∀ p ∈ g.tabs, p.1 = P → p.2 = X.env.qual ++ "<lambda>") (L : LamH g X k (params, body, scope) b) :
    PE X (.Lambda params body scope lpos) fun _ H Q => LamX.Tabs g.tabs H ∧ ∀ f c' H1, LamX.ExtN H H1 → LamX.Tabs g.tabs H1 → H1 f = none → H1 c' = some (LamX.CodeO c' (X.env.qual ++ "<lambda>")) → Q (.ref f) (upd H1 f (LamO X f c' (params, body, scope))) :=
  ⟨fun pins s σ H Q I ⟨hT, h⟩ => lam_track I TB hcode hmT hu hT L.dfl (L.L.has I.ok) fun f c' H1 s' I1 eN T1 hf hc => ⟨.ref f, _, I1, rfl, h f c' H1 eN T1 hf hc⟩⟩
theorem pa_lams {c P : Addr} (TB : LamX.TabB X.base X.mg c P) (hcode : X.env.code = .ref c) (hmT : (P, X.env.qual ++ "<lambda>") ∈ g.tabs) (hu : ∀ p ∈ g.tabs, p.1 = P → p.2 = X.env.qual ++ "<lambda>") :
    ∀ {es : List Expr} {ds : List LamD} {bs : List C}, LamHs g X k es ds bs → PA X es (tMk g X ds)
  | _, _, _, .nil => PA.weak pa_nil fun σ H Q ⟨T, h⟩ => h [] H (LamX.ExtN.refl H) T rfl
  | _, _, _, .cons (params := pa) (body := bo) (scope := sc) L hs => PA.weak (pa_cons (pe_lamT TB hcode hmT hu L) (pa_lams TB hcode hmT hu hs)) fun σ H Q ⟨T, h⟩ => ⟨T, fun f c' H1 eN T1 hf hc => by
      have k1 : ∀ b o, H1 b = some o → upd H1 f (LamO X f c' (pa, bo, sc)) b = some o := fun b o e => (upd_ne (ne_of_none e hf)).trans e
      refine ⟨T1.ext k1, fun vs H2 eN2 T2 A => h _ H2 ((eN.trans (LamX.ExtN.of k1)).trans eN2) T2 ⟨f, c', vs, rfl, eN2 _ _ upd_same lamO_ne, eN2 _ _ (k1 _ _ hc) LamX.codeO_ne, A⟩⟩⟩
/-- a slot of which nothing is said -/
theorem FR.setNo {l : Lx} {z : Hp} {u : Vw} {fr : Fr} {σ : Pk.St} {i : Nat} {v : Option V} (f : FR l z u fr σ) : FR l z u (fr.set i .no) (σ.set i v) := by
  have out : ∀ {m : Nat} {s : Sl}, (fr.set i .no)[m]? = some s → s.isAc → i ≠ m := fun {m s} h k q => by
    subst q
    by_cases hl : i < fr.length
    · rw [List.getElem?_set_self hl] at h; cases h; exact k
    · rw [List.getElem?_eq_none (by rw [List.length_set]; omega)] at h; cases h
  refine ⟨f.live, by rw [List.length_set, List.length_set]; exact f.len, fun j s a h1 k h2 => ?_, fun j s v h1 h2 => ?_, fun j k s t w h1 h2 k1 k2 h3 h4 => ?_⟩
  · have n := out h1 k
    rw [List.getElem?_set_ne n] at h1 h2
    exact f.own j s a h1 k h2
  · by_cases q : i = j
    · subst q
      by_cases hl : i < fr.length
      · rw [List.getElem?_set_self hl] at h1; cases h1; trivial
      · rw [List.getElem?_eq_none (by rw [List.length_set]; omega)] at h1; cases h1
    · rw [List.getElem?_set_ne q] at h1 h2
      exact f.sl j s v h1 h2
  · have n1 := out h1 k1
    have n2 := out h2 k2
    rw [List.getElem?_set_ne n1] at h1 h3
    rw [List.getElem?_set_ne n2] at h2 h4
    exact f.apart j k s t w h1 h2 k1 k2 h3 h4
/-- the state behind the list's making -/
structure LamSt (g : Gx) (X : Cx) (iy : Nat) (ds : List LamD) (z : Hp) (u : Vw) (fr : Fr) (σ : Pk.St) (p : Addr) (vs : List V) : Prop where
  r : HR g Lx.no u
  f : FR Lx.no z u fr σ
  sl : σ[iy]? = some (some (.ref p))
  at_ : u.H p = some (.lst vs)
  nn : ∀ id, u.ρ id ≠ some p
  all : AllLam X u.H ds vs
def tAskAll (g : Gx) (X : Cx) (es : List Nat) (iy : Nat) (ds : List LamD) (bs : List C) : TE := fun σ H Q => ∃ z u fr p vs h1, u.H = H ∧ LamSt g X iy ds z u fr σ p vs ∧ lamsR es bs fr u.h = some h1 ∧
  ∀ (u1 : Vw) (D : Addr), u1.h = h1 → Ext u u1 → HR g Lx.no u1 → u1.H D = some (.lst []) → (∀ id, u1.ρ id ≠ some D) → Q (.ref D) u1.H
theorem lamsR_step {es : List Nat} {bs : List C} {fr : Fr} {h h1 : Hv} {i : Nat} {b : C} (hb : bs[i]? = some b) (e : lamsR es (bs.drop i) fr h = some h1) : ∃ c hh, b fr h = .exc c hh ∧ es.contains c = true ∧ lamsR es (bs.drop (i + 1)) fr hh = some h1 := by
  obtain ⟨hl, hb⟩ := List.getElem?_eq_some_iff.mp hb
  rw [List.drop_eq_getElem_cons hl, hb] at e
  unfold lamsR at e
  cases q : b fr h with
  | ok x hh => rw [q] at e; cases e
  | bad => rw [q] at e; cases e
  | exc c hh =>
    rw [q] at e
    have e : (if es.contains c = true then lamsR es (bs.drop (i + 1)) fr hh else none) = some h1 := e
    split at e
    · rename_i hc; exact ⟨c, hh, rfl, hc, e⟩
    · cases e
theorem pe_askAll {x y fx ret : Str} {es : List Nat} {les : List Expr} {ds : List LamD} {bs : List C} {iy jf : Nat} {elt : Expr} {w : V} {tp p1 cp yp ftp rp ccp pos : Pos} {j : Nat} {scope : Scope} (T : ToldF g X.K X.mg x es ret) (hL : LamHs g X k les ds bs) (hc : X.calm = true) (hN : X.N.Nodup) (hr : Room (k + 2) X.A)
    (hiy : X.N[iy]? = some y) (hvy : Vis X.env.scope y) (hij : iy ≠ jf) (hjf : X.N[jf]? = some fx) (ok : BlkOk X.N X.env.scope scope [(fx, jf)])
    (hg : ∀ (s : Shared) (H : Hp) (C : Addr) (cl : List (Str × Addr)) (fp : List Addr), PG (X.blk s H scope (compEnvC scope cl C X.env) fp) (.Name fx ftp) (gName jf))
    (hgl : ∀ (s : Shared) (H : Hp) (C : Addr) (cl : List (Str × Addr)) (fp : List Addr), Gl (X.blk s H scope (compEnvC scope cl C X.env) fp) x) (hvf : ∀ (C : Addr) (cl : List (Str × Addr)), Vis (compEnvC scope cl C X.env).scope fx)
    (he : ∀ (s : Shared) (H : Hp) (C : Addr) (cl : List (Str × Addr)) (fp : List Addr), PE (X.blk s H scope (compEnvC scope cl C X.env) fp) elt (L2.tC w))
    (hs : ∀ x, foldedSetIterable (.Name y yp) X.env x = pure x := by intro _; rfl) (hdx : (x == ("__debug__" : Str)) = false := by decide) (hdf : (fx == ("__debug__" : Str)) = false := by decide) (hcf : (fx == ("__classdict__" : Str)) = false := by decide) (hdy : (y == ("__debug__" : Str)) = false := by decide) (hcy : (y == ("__classdict__" : Str)) = false := by decide) :
    PE X (.ListComp elt [⟨.Name fx ftp, .Name y yp, [.Compare (.Call (.Name x tp) [.Name fx p1] [] cp) [.NotEq] [.Constant (.str ret) j rp] ccp], 0⟩] scope pos) (tAskAll g X es iy ds bs) := by
  refine ⟨fun pins s σ H Q I ⟨z, u, fr, p, vs, h1, e1, S, eR, hQ⟩ => ?_⟩
  subst e1
  rw [eval_ListComp]
  have hu : X.A.units + 65 < cLine := by have := hr.un; omega
  have pt : ∀ (s : Shared) (H : Hp) (C : Addr) (cl : List (Str × Addr)) (fp : List Addr), Inv X pins σ H s → (∀ b ∈ fp, FpOk X pins H b) →
      PTs (X.blk s H scope (compEnvC scope cl C X.env) fp) [.Compare (.Call (.Name x tp) [.Name fx p1] [] cp) [.NotEq] [.Constant (.str ret) j rp] ccp] (tTest (tOp (rC2 g Lx.no fun h => opCmp h .ne) (tAsk g X k es ret jf σ) (L2.tC (.str ret)))) := fun s H C cl fp I' f' =>
    pts_one (pt_cmpR (op_cmp (g := g) (l := Lx.no) (X := X.blk s H scope (compEnvC scope cl C X.env) fp) hu .ne) (pe_ask T I' f' hr (hgl s H C cl fp) hjf (hvf C cl) hdx hdf hcf) pe_str (by first | exact nomark _ | with_unfolding_all rfl))
  have h : tLc (iList X.K (tVar iy)) (gName jf) (tTest (tOp (rC2 g Lx.no fun h => opCmp h .ne) (tAsk g X k es ret jf σ) (L2.tC (.str ret)))) (L2.tC w) ([(fx, jf)].map (·.2)) σ u.H Q := by
    refine ⟨.ref p, S.sl, p, rfl, ⟨vs, SqL.of S.at_⟩, fun D hD => ?_⟩
    obtain ⟨rb, xb⟩ := S.r.new (p := D) (o := .lst []) hD
    have hz : gone u.H D := gone_none hD
    refine lc_list (xs := vs) (fun i H' => ∃ v : Vw, v.H = H' ∧ HR g Lx.no v ∧ Ext ⟨u.ρ, u.F, upd u.H D (.lst []), u.h⟩ v ∧ lamsR es (bs.drop i) fr v.h = some h1) ⟨_, rfl, rb, Ext.refl _, eR⟩ (fun i H' _ ⟨v, e, r, x, _⟩ => ?_) (fun i xv H' hx ⟨v, e, r, x, eRv⟩ => ?_) fun H' ⟨v, e, r, x, eRv⟩ => ?_
    · rw [← e]
      exact SqL.of (x.keep p _ ((upd_ne (ne_of_none S.at_ hD)).trans S.at_) S.nn fun ps z => by cases z)
    · subst e
      have xu := xb.trans x
      obtain ⟨d, f, c', k1, k2, k3, k4⟩ := S.all.get hx
      obtain ⟨b, k5, hb⟩ := hL.get k1
      obtain ⟨c, hh, k6, k7, k8⟩ := lamsR_step k5 eRv
      have ext : ∀ b φ, u.H b = some (.ext φ) → v.H b = some (.ext φ) := fun b φ h => xu.keep b _ h (S.r.not_num h fun m => m) fun ps z => by cases z
      have hjl : jf < σ.length := by rw [I.len]; exact (List.getElem?_eq_some_iff.mp hjf).1
      refine ⟨by show ((σ.set jf none).set jf (some xv)).set jf none = σ.set jf none; rw [List.set_set, List.set_set], ?_⟩
      refine ⟨f, c', d, b, z, v, fr, c, hh, ?_, ext _ _ k3, ext _ _ k4, hb, rfl, r, S.f.ext xu S.r, k6, k7, fun u' e' x' r' => ?_⟩
      · show ((σ.set jf none).set jf (some xv))[jf]? = _
        rw [List.getElem?_set_self (by rw [List.length_set]; exact hjl), k2]
      · refine ⟨W0, σ, u', .str ret, .str ret, rfl, r', rfl, rfl, ?_⟩
        have eq : opCmp u'.h .ne (.str ret) (.str ret) = some false := by
          show (eqV (.str ret) (.str ret)).map (!·) = some false
          unfold eqV
          simp [Val.data, Val.dep, Val.eqv]
        show Run g Lx.no W0 σ (RepV Lx.no) _ u' (liftB (opCmp u'.h .ne (.str ret) (.str ret)) u'.h)
        rw [eq]
        intro u3 e3 x3 r3 v3 rv3
        refine ⟨false, rv3, ?_⟩
        dsimp only
        rw [if_neg (by decide)]
        exact ⟨u3, rfl, r3, (x.trans x').trans x3, by rw [e3, e']; exact k8⟩
    · subst e
      have lenE : bs.drop vs.length = [] := by rw [S.all.len, ← hL.len]; exact List.drop_length
      rw [lenE] at eRv
      have hh : v.h = h1 := Option.some.inj eRv
      have nD : ∀ id, u.ρ id ≠ some D := fun id q => by
        obtain ⟨o, e, _⟩ := S.r.numbered q
        rw [hD] at e; cases e
      exact hQ v D hh (xb.trans x) r (x.keep D _ upd_same nD fun ps z => by cases z) fun id q => (x.ρn id D q).elim (nD id) (not_gone upd_same)
  refine lc_told hc hN I (pi_list (pe_var hiy hvy hdy hcy)) ok hg pt he hs h fun D C s' m H' I' q hn f => ⟨m, hn, fun h'' sb => ?_⟩
  obtain ⟨f0, f1, f2, f3, f4, f5⟩ := f
  exact ⟨.ref D, H', I'.turned (t' := s'.toks) (fun b o hb e => (sb.2 b hb).trans e) f0 f1 f3 f4 f5, rfl, q⟩
/-- [..] != [] -/
def tAskB (g : Gx) (X : Cx) (es : List Nat) (iy : Nat) (ds : List LamD) (bs : List C) : TT := fun σ H Q => ∃ z u fr p vs h1, u.H = H ∧ LamSt g X iy ds z u fr σ p vs ∧ lamsR es bs fr u.h = some h1 ∧
  ∀ u1 : Vw, u1.h = h1 → Ext u u1 → HR g Lx.no u1 → Q false u1.H
theorem pt_askB {es : List Nat} {ds : List LamD} {bs : List C} {iy : Nat} {lc : Expr} {lp pos : Pos} (hu : X.A.units + 65 < cLine) (h : PE X lc (tAskAll g X es iy ds bs)) : PT X (.Compare lc [.NotEq] [.List [] lp] pos) (tAskB g X es iy ds bs) := by
  refine PT.weak (pt_cmpR (op_cmp (g := g) (l := Lx.no) hu .ne) h (pe_lst pa_nil) (by first | exact nomark _ | with_unfolding_all rfl)) fun σ H Q ⟨z, u, fr, p, vs, h1, e1, S, eR, hQ⟩ => ?_
  refine ⟨z, u, fr, p, vs, h1, e1, S, eR, fun u1 D eh x r hD nD => ⟨Nat.zero_le _, fun q hq => ?_⟩⟩
  obtain ⟨r2, x2⟩ := r.new (p := q) (o := .lst []) hq
  have nq : ∀ id, u1.ρ id ≠ some q := fun id z => by
    obtain ⟨o, e, _⟩ := r.numbered z
    rw [hq] at e; cases e
  refine ⟨W0, σ, ⟨u1.ρ, u1.F, upd u1.H q (.lst []), u1.h⟩, .lst [], .lst [], rfl, r2, ⟨D, [], rfl, (upd_ne (ne_of_none hD hq)).trans hD, rfl, nD⟩, ⟨q, [], rfl, upd_same, rfl, nq⟩, ?_⟩
  have eq : opCmp u1.h .ne (.lst []) (.lst []) = some false := rfl
  show Run g Lx.no W0 σ (RepV Lx.no) _ _ (liftB (opCmp u1.h .ne (.lst []) (.lst [])) u1.h)
  rw [eq]
  intro u3 e3 x3 r3 v3 rv3
  exact ⟨false, rv3, hQ u3 (e3.trans eh) ((x.trans x2).trans x3) r3⟩
theorem RunS.seq {l : Lx} {W : WX} {z : Hp} {D : Ends} {u : Vw} {sa sb : CS} {fr : Fr} (h : RunS g l W z D u (sSeq sa sb fr u.h)) : RunS g l W z { D with nx := tS g l W sb D } u (sa fr u.h) := by
  unfold sSeq at h
  cases e : sa fr u.h with
  | ok x hh =>
    rw [e] at h
    cases x with
    | nx f2 => exact fun u' σ' q x' r' f' => ⟨z, u', f2, rfl, r', f', by rw [q]; exact RunS.mono x' h⟩
    | bk f2 => exact h
    | rt x => exact h
  | exc c hh => rw [e] at h; exact h
  | bad => rw [e] at h; exact h
section
variable {E : XK} {y : Str} {es : List Nat} {les : List Expr} {ds : List LamD} {bs : List C} {iy : Nat} {lc : Expr} {py lp lp2 spos pos ipos bpos : Pos} {c P : Addr} {rest sts : List Stmt} {crest sa : CS}
theorem lams_made {z : Hp} {u : Vw} {fr : Fr} {σ : Pk.St} {H1 : Hp} {vs : List V} {p : Addr} (hi : iy < σ.length) (r : HR g Lx.no u) (f : FR Lx.no z u fr σ) (eN : LamX.ExtN u.H H1) (T1 : LamX.Tabs g.tabs H1) (A : AllLam X H1 ds vs) (hp : H1 p = none) :
    LamSt g X iy ds z ⟨u.ρ, u.F, upd H1 p (.lst vs), u.h⟩ (fr.set iy .no) (σ.set iy (some (.ref p))) p vs ∧ Ext u ⟨u.ρ, u.F, upd H1 p (.lst vs), u.h⟩ := by
  obtain ⟨r1, x1⟩ := beside r eN T1
  obtain ⟨r2, x2⟩ := r1.new (p := p) (o := .lst vs) hp
  refine ⟨⟨r2, ((f.ext x1 r).ext x2 r1).setNo, List.getElem?_set_self hi, upd_same, fun id q => ?_, A.ext fun b φ h => (upd_ne (ne_of_none h hp)).trans h⟩, x1.trans x2⟩
  obtain ⟨o, e, _⟩ := r1.numbered q
  have e : H1 p = some o := e
  rw [hp] at e; cases e
/-- ys = [lambda: .., ..]; if [1 for f in ys if told(f) != '..'] != []: .. -/
theorem ss_lams1 (hL : LamHs g X k les ds bs) (TB : LamX.TabB X.base X.mg c P) (hcode : X.env.code = .ref c) (hmT : (P, X.env.qual ++ "<lambda>") ∈ g.tabs) (hu : ∀ p ∈ g.tabs, p.1 = P → p.2 = X.env.qual ++ "<lambda>") (h65 : X.A.units + 65 < cLine) (hlen : ds.length ≤ 1000)
    (hN : X.N.Nodup) (hiy : X.N[iy]? = some y) (hx : Loc X.env.scope y) (hs : swapsWith (.List les lp) (some (.Name y py)) spos.line X.env = pure false) (hf : X.fn y = true ∨ X.env.scope.names.lookup y = some .local)
    (hA : PE X lc (tAskAll g X es iy ds bs)) (ha : SSs g Lx.no X (WK E) sts sa) (hrest : SSs g Lx.no X (WK E) rest crest) :
    SSs g Lx.no X (WK E) (.Assign [.Name y py] (.List les lp) spos :: .If (.Compare lc [.NotEq] [.List [] lp2] pos) sts [] ipos :: rest) (sLams iy es bs crest) := by
  refine ⟨fun pins s σ H D I h => (pss_cons (ps_set hN hiy hx (pe_lst (pa_lams TB hcode hmT hu hL)) hs hf) (pss_cons (ps_if (pt_askB h65 hA) ha (ss_nil (g := g) (l := Lx.no) (W := WK E))) hrest)).run pins s σ H D I ?_⟩
  obtain ⟨z, u, fr, e1, e2, e3, e4⟩ := h
  subst e1
  have hi : iy < σ.length := by rw [I.len]; exact (List.getElem?_eq_some_iff.mp hiy).1
  refine ⟨e2.tab, fun vs H1 eN T1 A => ⟨by rw [A.len]; exact Nat.le_trans hlen (by decide), fun p hp => ?_⟩⟩
  obtain ⟨S, x1⟩ := lams_made hi e2 e3 eN T1 A hp
  unfold sLams at e4
  cases eR : lamsR es bs (fr.set iy .no) u.h with
  | none => rw [eR] at e4; exact (RunS.bad e4).elim
  | some h1 =>
    rw [eR] at e4
    refine ⟨z, _, _, p, vs, h1, rfl, S, eR, fun u1 eh x r => ?_⟩
    dsimp only
    rw [if_neg (by decide)]
    refine ⟨z, u1, _, rfl, r, S.f.ext x S.r, fun u' σ' q x' r' f' => ⟨z, u', _, rfl, r', f', ?_⟩⟩
    rw [q, eh]
    exact RunS.mono (((x1.trans x).s z).trans x') e4
/-- .. or ..: -/
theorem ss_lamsOr {R1 : Expr} {Rs : List Expr} {rc : C} (hL : LamHs g X k les ds bs) (TB : LamX.TabB X.base X.mg c P) (hcode : X.env.code = .ref c) (hmT : (P, X.env.qual ++ "<lambda>") ∈ g.tabs) (hu : ∀ p ∈ g.tabs, p.1 = P → p.2 = X.env.qual ++ "<lambda>") (h65 : X.A.units + 65 < cLine) (hlen : ds.length ≤ 1000)
    (hN : X.N.Nodup) (hiy : X.N[iy]? = some y) (hx : Loc X.env.scope y) (hs : swapsWith (.List les lp) (some (.Name y py)) spos.line X.env = pure false) (hf : X.fn y = true ∨ X.env.scope.names.lookup y = some .local)
    (hA : PE X lc (tAskAll g X es iy ds bs)) (hR : SW g Lx.no X (WK E) (.BoolOp .Or (R1 :: Rs) bpos) rc) (ha : SSs g Lx.no X (WK E) sts sa) (hrest : SSs g Lx.no X (WK E) rest crest) :
    SSs g Lx.no X (WK E) (.Assign [.Name y py] (.List les lp) spos :: .If (.BoolOp .Or (.Compare lc [.NotEq] [.List [] lp2] pos :: R1 :: Rs) bpos) sts [] ipos :: rest) (sLams iy es bs (sIfThen rc sa crest)) := by
  refine ⟨fun pins s σ H D I h => (pss_cons (ps_set hN hiy hx (pe_lst (pa_lams TB hcode hmT hu hL)) hs hf) (pss_cons (ps_if (PW.pt (pw_or (pt_askB h65 hA) hR)) ha (ss_nil (g := g) (l := Lx.no) (W := WK E))) hrest)).run pins s σ H D I ?_⟩
  obtain ⟨z, u, fr, e1, e2, e3, e4⟩ := h
  subst e1
  have hi : iy < σ.length := by rw [I.len]; exact (List.getElem?_eq_some_iff.mp hiy).1
  refine ⟨e2.tab, fun vs H1 eN T1 A => ⟨by rw [A.len]; exact Nat.le_trans hlen (by decide), fun p hp => ?_⟩⟩
  obtain ⟨S, x1⟩ := lams_made hi e2 e3 eN T1 A hp
  unfold sLams at e4
  cases eR : lamsR es bs (fr.set iy .no) u.h with
  | none => rw [eR] at e4; exact (RunS.bad e4).elim
  | some h1 =>
    rw [eR] at e4
    refine ⟨z, _, _, p, vs, h1, rfl, S, eR, fun u1 eh x r => ?_⟩
    dsimp only
    rw [if_neg (by decide)]
    have e5 : RunS g Lx.no (WK E) z D u1 (sIfThen rc sa crest (fr.set iy .no) u1.h) := by
      rw [eh]
      exact RunS.mono ((x1.trans x).s z) e4
    refine tT.firstS r (S.f.ext x S.r) e5 (fun x h n => by cases x with | bl q => exact absurd rfl (n q) | _ => rfl) fun u2 b x2 r2 f2 h2 => ?_
    cases b with
    | true =>
      rw [if_pos rfl]
      exact ⟨z, u2, _, rfl, r2, f2, RunS.seq h2⟩
    | false =>
      rw [if_neg (by decide)]
      exact ⟨z, u2, _, rfl, r2, f2, fun u' σ' q x' r' f' => ⟨z, u', _, rfl, r', f', by rw [q]; exact RunS.mono x' h2⟩⟩
/-- all of it at once -/
theorem ss_lams1X {x fx ret : Str} {elt : Expr} {w : V} {tp p1 cp yp ftp rp ccp lpos : Pos} {j jf : Nat} {scope : Scope} (hL : LamHs g X k les ds bs) (T : ToldF g X.K X.mg x es ret) (TB : LamX.TabB X.base X.mg c P) (hcode : X.env.code = .ref c) (hmT : (P, X.env.qual ++ "<lambda>") ∈ g.tabs) (hu : ∀ p ∈ g.tabs, p.1 = P → p.2 = X.env.qual ++ "<lambda>") (hr : Room (k + 2) X.A) (hc : X.calm = true) (hN : X.N.Nodup) (hij : iy ≠ jf) (ok : BlkOk X.N X.env.scope scope [(fx, jf)])
    (hg : ∀ (s : Shared) (H : Hp) (C : Addr) (cl : List (Str × Addr)) (fp : List Addr), PG (X.blk s H scope (compEnvC scope cl C X.env) fp) (.Name fx ftp) (gName jf))
    (hgl : ∀ (s : Shared) (H : Hp) (C : Addr) (cl : List (Str × Addr)) (fp : List Addr), Gl (X.blk s H scope (compEnvC scope cl C X.env) fp) x) (hvf : ∀ (C : Addr) (cl : List (Str × Addr)), Vis (compEnvC scope cl C X.env).scope fx)
    (he : ∀ (s : Shared) (H : Hp) (C : Addr) (cl : List (Str × Addr)) (fp : List Addr), PE (X.blk s H scope (compEnvC scope cl C X.env) fp) elt (L2.tC w)) (ha : SSs g Lx.no X (WK E) sts sa) (hrest : SSs g Lx.no X (WK E) rest crest)
    (hiy : X.N[iy]? = some y := by rfl) (hx : Loc X.env.scope y := by first | exact Or.inl rfl | exact Or.inr rfl) (hsw : swapsWith (.List les lp) (some (.Name y py)) spos.line X.env = pure false := by rfl) (hf : X.fn y = true ∨ X.env.scope.names.lookup y = some .local := by first | exact .inl rfl | exact .inr rfl) (hjf : X.N[jf]? = some fx := by rfl) (hlen : ds.length ≤ 1000 := by exact Nat.le_of_ble_eq_true rfl)
    (hs : ∀ x, foldedSetIterable (.Name y yp) X.env x = pure x := by intro _; rfl) (hdx : (x == ("__debug__" : Str)) = false := by decide) (hdf : (fx == ("__debug__" : Str)) = false := by decide) (hcf : (fx == ("__classdict__" : Str)) = false := by decide) (hdy : (y == ("__debug__" : Str)) = false := by decide) (hcy : (y == ("__classdict__" : Str)) = false := by decide) :
    SSs g Lx.no X (WK E) (.Assign [.Name y py] (.List les lp) spos :: .If (.Compare (.ListComp elt [⟨.Name fx ftp, .Name y yp, [.Compare (.Call (.Name x tp) [.Name fx p1] [] cp) [.NotEq] [.Constant (.str ret) j rp] ccp], 0⟩] scope lpos) [.NotEq] [.List [] lp2] pos) sts [] ipos :: rest) (sLams iy es bs crest) :=
  ss_lams1 hL TB hcode hmT hu (by have := hr.un; omega) hlen hN hiy hx hsw hf (pe_askAll T hL hc hN hr hiy (hx.elim .inl fun h => .inr (.inl h)) hij hjf ok hg hgl hvf he hs hdx hdf hcf hdy hcy) ha hrest
theorem ss_lamsOrX {R1 : Expr} {Rs : List Expr} {rc : C} {x fx ret : Str} {elt : Expr} {w : V} {tp p1 cp yp ftp rp ccp lpos : Pos} {j jf : Nat} {scope : Scope} (hL : LamHs g X k les ds bs) (T : ToldF g X.K X.mg x es ret) (TB : LamX.TabB X.base X.mg c P) (hcode : X.env.code = .ref c) (hmT : (P, X.env.qual ++ "<lambda>") ∈ g.tabs) (hu : ∀ p ∈ g.tabs, p.1 = P → p.2 = X.env.qual ++ "<lambda>") (hr : Room (k + 2) X.A) (hc : X.calm = true) (hN : X.N.Nodup) (hij : iy ≠ jf) (ok : BlkOk X.N X.env.scope scope [(fx, jf)])
    (hg : ∀ (s : Shared) (H : Hp) (C : Addr) (cl : List (Str × Addr)) (fp : List Addr), PG (X.blk s H scope (compEnvC scope cl C X.env) fp) (.Name fx ftp) (gName jf))
    (hgl : ∀ (s : Shared) (H : Hp) (C : Addr) (cl : List (Str × Addr)) (fp : List Addr), Gl (X.blk s H scope (compEnvC scope cl C X.env) fp) x) (hvf : ∀ (C : Addr) (cl : List (Str × Addr)), Vis (compEnvC scope cl C X.env).scope fx)
    (he : ∀ (s : Shared) (H : Hp) (C : Addr) (cl : List (Str × Addr)) (fp : List Addr), PE (X.blk s H scope (compEnvC scope cl C X.env) fp) elt (L2.tC w)) (hR : SW g Lx.no X (WK E) (.BoolOp .Or (R1 :: Rs) bpos) rc) (ha : SSs g Lx.no X (WK E) sts sa) (hrest : SSs g Lx.no X (WK E) rest crest)
    (hiy : X.N[iy]? = some y := by rfl) (hx : Loc X.env.scope y := by first | exact Or.inl rfl | exact Or.inr rfl) (hsw : swapsWith (.List les lp) (some (.Name y py)) spos.line X.env = pure false := by rfl) (hf : X.fn y = true ∨ X.env.scope.names.lookup y = some .local := by first | exact .inl rfl | exact .inr rfl) (hjf : X.N[jf]? = some fx := by rfl) (hlen : ds.length ≤ 1000 := by exact Nat.le_of_ble_eq_true rfl)
    (hs : ∀ x, foldedSetIterable (.Name y yp) X.env x = pure x := by intro _; rfl) (hdx : (x == ("__debug__" : Str)) = false := by decide) (hdf : (fx == ("__debug__" : Str)) = false := by decide) (hcf : (fx == ("__classdict__" : Str)) = false := by decide) (hdy : (y == ("__debug__" : Str)) = false := by decide) (hcy : (y == ("__classdict__" : Str)) = false := by decide) :
    SSs g Lx.no X (WK E) (.Assign [.Name y py] (.List les lp) spos :: .If (.BoolOp .Or (.Compare (.ListComp elt [⟨.Name fx ftp, .Name y yp, [.Compare (.Call (.Name x tp) [.Name fx p1] [] cp) [.NotEq] [.Constant (.str ret) j rp] ccp], 0⟩] scope lpos) [.NotEq] [.List [] lp2] pos :: R1 :: Rs) bpos) sts [] ipos :: rest) (sLams iy es bs (sIfThen rc sa crest)) :=
  ss_lamsOr hL TB hcode hmT hu (by have := hr.un; omega) hlen hN hiy hx hsw hf (pe_askAll T hL hc hN hr hiy (hx.elim .inl fun h => .inr (.inl h)) hij hjf ok hg hgl hvf he hs hdx hdf hcf hdy hcy) hR ha hrest
end
end
end Pk

set_option maxRecDepth 100000
/-! Pk39: walks over dicts that are locked (by the expression around, or for good). -/
namespace Pk
open PySem PySem.Spec PyProof.Rows L2

/-- the content of a dict that may be walked now -/
def lockedD (h : Hv) : Val → Option (List (Val × Val))
  | .dct kvs => some kvs
  | .ref id => match h[id]? with
    | some (.dct (_ + 1) kvs) => some kvs
    | _ => none
  | _ => none
def iDctL (a : C) : CI := fun fr h => (a fr h).bind fun x h1 => match lockedD h1 x with
  | some kvs => .ok (kvs.map (·.1), none) h1
  | none => .bad
def iValL (a : C) : CI := fun fr h => (a fr h).bind fun x h1 => match lockedD h1 x with
  | some kvs => if kvs.all (·.1.leafK) then .ok (kvs.map (·.2), none) h1 else .bad
  | none => .bad
def iItmL (a : C) : CI := fun fr h => (a fr h).bind fun x h1 => match lockedD h1 x with
  | some kvs => if kvs.all (·.1.leafK) then .ok (kvs.map fun p => .tup [p.1, p.2], none) h1 else .bad
  | none => .bad
/-- the same of an own dict -/
def ownD (fr : Fr) (j : Nat) : Option (List (Val × Val)) := match fr[j]? with
  | some (.acd (_ + 1) kvs) => some kvs
  | _ => none
def iDctO (j : Nat) : CI := fun fr h => match ownD fr j with
  | some kvs => .ok (kvs.map (·.1), none) h
  | none => .bad
def iValO (j : Nat) : CI := fun fr h => match ownD fr j with
  | some kvs => if kvs.all (·.1.leafK) then .ok (kvs.map (·.2), none) h else .bad
  | none => .bad
def iItmO (j : Nat) : CI := fun fr h => match ownD fr j with
  | some kvs => if kvs.all (·.1.leafK) then .ok (kvs.map fun p => .tup [p.1, p.2], none) h else .bad
  | none => .bad
section
variable {g : Gx} {l : Lx} {u u' : Vw}
/-- nobody writes at d while it is locked -/
def Prot (w : Vw) (d : Addr) : Prop := (∀ id, w.ρ id ≠ some d) ∨ ∃ id o, w.ρ id = some d ∧ w.h[id]? = some o ∧ o.locked
theorem Prot.keepS {z : Hp} {d : Addr} {od : Obj} {o : HO} (p : Prot u d) (h : u.H d = some (.frz od o)) (e : ExS z u u') : u'.H d = some (.frz od o) ∧ Prot u' d := by
  rcases p with p | ⟨id, ob, h1, h2, h3⟩
  · exact ⟨e.keep d _ h p (fun ps z => by cases z) (.inr (.inr fun z => z)), .inl fun id q => (e.ρn id d q).elim (p id) (not_gone h)⟩
  · obtain ⟨h4, h5⟩ := e.lock id ob d h2 h3 h1
    exact ⟨h5.trans h, .inr ⟨id, ob, e.ρm id d h1, h4, h3⟩⟩
theorem Prot.keep {d : Addr} {od : Obj} {o : HO} (p : Prot u d) (h : u.H d = some (.frz od o)) (e : Ext u u') : u'.H d = some (.frz od o) ∧ Prot u' d := p.keepS h (e.s u.H)
theorem keyV_rep {x : Val} {q : Key} (h : keyV x = some q) : RepV l u x (kV q) := by
  cases x <;> first | (cases h; done) | skip
  all_goals (cases h; exact rfl)
theorem keyVs_rep : ∀ {xs : List Val} {q : List Key}, keyVs xs = some q → RepVs l u xs (q.map kV)
  | [], _, h => by cases h; rfl
  | x :: xs, q, h => by
    obtain ⟨k, ks, e, h1, h2⟩ := keyVs_cons h
    rw [e]
    exact ⟨kV k, ks.map kV, rfl, keyV_rep h1, keyVs_rep h2⟩
theorem RepK.at {kvs : List (Val × Val)} : ∀ {ks : List (Key × V)} {i : Nat} {x : Val × Val}, RepK l u kvs ks → kvs[i]? = some x → ∃ q v, ks[i]? = some (q, v) ∧ keyV x.1 = some q ∧ RepV l u x.2 v := by
  induction kvs with
  | nil => intro ks i x _ e; simp at e
  | cons p r ih =>
    intro ks i x h e
    obtain ⟨k, y⟩ := p
    obtain ⟨q, v, t, e1, h1, h2, h3⟩ := h
    rw [e1]
    cases i with
    | zero =>
      obtain rfl := Option.some.inj e
      exact ⟨q, v, rfl, h1, h2⟩
    | succ i =>
      obtain ⟨q', v', k1, k2, k3⟩ := ih (i := i) h3 (by simpa using e)
      exact ⟨q', v', by simpa using k1, k2, k3⟩
theorem RepT.at {kvs : List (Val × Val)} : ∀ {ks : List (List Key × V)} {i : Nat} {x : Val × Val}, RepT l u kvs ks → kvs[i]? = some x → ∃ q v, ks[i]? = some (q, v) ∧ keyT x.1 = some q ∧ RepV l u x.2 v := by
  induction kvs with
  | nil => intro ks i x _ e; simp at e
  | cons p r ih =>
    intro ks i x h e
    obtain ⟨k, y⟩ := p
    obtain ⟨q, v, t, e1, h1, h2, h3⟩ := h
    rw [e1]
    cases i with
    | zero =>
      obtain rfl := Option.some.inj e
      exact ⟨q, v, rfl, h1, h2⟩
    | succ i =>
      obtain ⟨q', v', k1, k2, k3⟩ := ih (i := i) h3 (by simpa using e)
      exact ⟨q', v', by simpa using k1, k2, k3⟩
/-- locked at d, its content ks -/
def AlK (l : Lx) (d : Addr) (od : Obj) (kvs : List (Val × Val)) (ks : List (Key × V)) (w : Vw) : Prop := w.H d = some (.frz od (.dK ks)) ∧ RepK l w kvs ks ∧ Prot w d
def AlT (l : Lx) (d : Addr) (od : Obj) (kvs : List (Val × Val)) (ks : List (List Key × V)) (w : Vw) : Prop := w.H d = some (.frz od (.dT ks)) ∧ RepT l w kvs ks ∧ Prot w d
theorem AlK.keepS {z : Hp} {d : Addr} {od : Obj} {kvs : List (Val × Val)} {ks : List (Key × V)} (a : AlK l d od kvs ks u) (r : HR g l u) (e : ExS z u u') : AlK l d od kvs ks u' := by
  obtain ⟨h1, h2⟩ := a.2.2.keepS a.1 e
  exact ⟨h1, RepK.sub (e.sub r) _ _ a.2.1, h2⟩
theorem AlT.keepS {z : Hp} {d : Addr} {od : Obj} {kvs : List (Val × Val)} {ks : List (List Key × V)} (a : AlT l d od kvs ks u) (r : HR g l u) (e : ExS z u u') : AlT l d od kvs ks u' := by
  obtain ⟨h1, h2⟩ := a.2.2.keepS a.1 e
  exact ⟨h1, RepT.sub (e.sub r) _ _ a.2.1, h2⟩
theorem map_at {α β : Type} {f : α → β} {xs : List α} {i : Nat} {y : β} (h : (xs.map f)[i]? = some y) : ∃ x, xs[i]? = some x ∧ y = f x := by
  rw [List.getElem?_map] at h
  cases e : xs[i]? with
  | none => rw [e] at h; cases h
  | some x => rw [e] at h; exact ⟨x, rfl, (Option.some.inj h).symm⟩
theorem src_keys {d : Addr} {od : Obj} {kvs : List (Val × Val)} {ks : List (Key × V)} : SrcS g l (Itk d od ks) (kvs.map (·.1)) (AlK l d od kvs ks) where
  go := fun w i x a r e => by
    obtain ⟨p, h1, _⟩ := map_at e
    obtain ⟨q, v, h2, _⟩ := a.2.1.at h1
    exact ⟨a.1, (List.getElem?_eq_some_iff.mp h2).1⟩
  yld := fun w i x v H' a r e ⟨eH, k, y, h3, h4⟩ => by
    obtain ⟨p, h1, h5⟩ := map_at e
    obtain ⟨q, v', h2, h6, _⟩ := a.2.1.at h1
    rw [h2] at h3
    cases h3
    rw [h4, h5]
    exact ⟨w, eH.symm, rfl, Ext.refl w, r, keyV_rep h6⟩
  stop := fun w a r => ⟨a.1, by rw [List.length_map, a.2.1.length]; exact Nat.le_refl _⟩
  keep := fun w w' a r e => a.keepS r (e.s w.H)
  keepS := fun z w w' a r e => a.keepS r e
theorem src_keysT {d : Addr} {od : Obj} {kvs : List (Val × Val)} {ks : List (List Key × V)} : SrcS g l (Itkt d od ks) (kvs.map (·.1)) (AlT l d od kvs ks) where
  go := fun w i x a r e => by
    obtain ⟨p, h1, _⟩ := map_at e
    obtain ⟨q, v, h2, _⟩ := a.2.1.at h1
    exact ⟨a.1, (List.getElem?_eq_some_iff.mp h2).1⟩
  yld := fun w i x v H' a r e ⟨eH, k, y, b, h3, h4, h7⟩ => by
    obtain ⟨p, h1, h5⟩ := map_at e
    obtain ⟨q, v', h2, h6, _⟩ := a.2.1.at h1
    rw [h2] at h3
    cases h3
    rw [h4, h5]
    refine ⟨w, eH.symm, rfl, Ext.refl w, r, ?_⟩
    cases hp : p.1 <;> rw [hp] at h6 <;> first | (cases h6; done) | skip
    exact ⟨b, _, rfl, h7, keyVs_rep h6⟩
  stop := fun w a r => ⟨a.1, by rw [List.length_map, a.2.1.length]; exact Nat.le_refl _⟩
  keep := fun w w' a r e => a.keepS r (e.s w.H)
  keepS := fun z w w' a r e => a.keepS r e
theorem src_vals {d : Addr} {od : Obj} {kvs : List (Val × Val)} {ks : List (Key × V)} : SrcS g l (Itd d od ks) (kvs.map (·.2)) (AlK l d od kvs ks) where
  go := fun w i x a r e => by
    obtain ⟨p, h1, _⟩ := map_at e
    obtain ⟨q, v, h2, _⟩ := a.2.1.at h1
    exact ⟨a.1, (List.getElem?_eq_some_iff.mp h2).1⟩
  yld := fun w i x v H' a r e ⟨eH, k, h3⟩ => by
    obtain ⟨p, h1, h5⟩ := map_at e
    obtain ⟨q, v', h2, _, h6⟩ := a.2.1.at h1
    rw [h2] at h3
    cases h3
    rw [h5]
    exact ⟨w, eH.symm, rfl, Ext.refl w, r, h6⟩
  stop := fun w a r => ⟨a.1, by rw [List.length_map, a.2.1.length]; exact Nat.le_refl _⟩
  keep := fun w w' a r e => a.keepS r (e.s w.H)
  keepS := fun z w w' a r e => a.keepS r e
theorem src_items {d : Addr} {od : Obj} {kvs : List (Val × Val)} {ks : List (Key × V)} : SrcS g l (Iti d od ks) (kvs.map fun p => .tup [p.1, p.2]) (AlK l d od kvs ks) where
  go := fun w i x a r e => by
    obtain ⟨p, h1, _⟩ := map_at e
    obtain ⟨q, v, h2, _⟩ := a.2.1.at h1
    exact ⟨a.1, (List.getElem?_eq_some_iff.mp h2).1⟩
  yld := fun w i x v H' a r e ⟨T, k, y, h3, h4, h7, eH⟩ => by
    obtain ⟨p, h1, h5⟩ := map_at e
    obtain ⟨q, v', h2, h6, h8⟩ := a.2.1.at h1
    rw [h2] at h3
    cases h3
    rw [h4, h5]
    obtain ⟨r2, x2⟩ := r.new (p := T) (o := .tup [kV k, y]) h7
    exact ⟨⟨w.ρ, w.F, upd w.H T (.tup [kV k, y]), w.h⟩, eH.symm, rfl, x2, r2, T, _, rfl, upd_same, kV k, _, rfl, keyV_rep h6, y, [], rfl, h8.ext x2 r, rfl⟩
  stop := fun w a r => ⟨a.1, by rw [List.length_map, a.2.1.length]; exact Nat.le_refl _⟩
  keep := fun w w' a r e => a.keepS r (e.s w.H)
  keepS := fun z w w' a r e => a.keepS r e
/-- a value that is a dict, locked -/
theorem lockedD_rep {x : Val} {v : V} {kvs : List (Val × Val)} (r : HR g l u) (h : RepV l u x v) (e : lockedD u.h x = some kvs) : ∃ d od, v = .ref d ∧ ((∃ ks, AlK l d od kvs ks u) ∨ ∃ ks, kvs ≠ [] ∧ AlT l d od kvs ks u) := by
  cases x with
  | dct ys =>
    obtain ⟨d, e1, f, h1⟩ := h
    cases e
    rcases h1 with ⟨ks, ⟨od, k1⟩, k2⟩ | ⟨ks, ⟨od, k1⟩, k0, k2⟩
    · exact ⟨d, od, e1, .inl ⟨ks, k1, k2, .inl (r.frz_not f)⟩⟩
    · exact ⟨d, od, e1, .inr ⟨ks, k0, k1, k2, .inl (r.frz_not f)⟩⟩
  | ref id =>
    obtain ⟨d, e1, e2⟩ := h
    obtain ⟨o, h3, h4, h5⟩ := r.at e2
    unfold lockedD at e
    dsimp only at e
    rw [h3] at e
    cases o with
    | dct k ys =>
      cases k with
      | zero => cases e
      | succ k =>
        cases e
        have pr : Prot u d := .inr ⟨id, _, e2, h3, trivial⟩
        rcases h5 with ⟨od, ks, k1, k2⟩ | ⟨od, ks, k1, k2⟩
        · exact ⟨d, od, e1, .inl ⟨ks, k1, k2, pr⟩⟩
        · exact ⟨d, od, e1, .inr ⟨ks, k2.1, k1, k2.2, pr⟩⟩
    | lst k ys => cases e
    | ins c fs => cases e
  | _ => cases e
theorem ownD_rep {z : Hp} {fr : Fr} {σ : Pk.St} {j : Nat} {kvs : List (Val × Val)} (f : FR l z u fr σ) (e : ownD fr j = some kvs) : ∃ d od, σ[j]? = some (some (.ref d)) ∧ ((∃ ks, AlK l d od kvs ks u) ∨ ∃ ks, kvs ≠ [] ∧ AlT l d od kvs ks u) := by
  unfold ownD at e
  split at e
  · rename_i k ys hj
    cases e
    have hl : j < σ.length := by rw [← f.len]; exact (List.getElem?_eq_some_iff.mp hj).1
    have ej : σ[j]? = some σ[j] := by simp [hl]
    obtain ⟨d, e1, h1, h2, h3⟩ := f.sl j _ σ[j] hj ej
    rw [e1] at ej
    rcases h1 with ⟨od, ks, k1, k2⟩ | ⟨od, ks, k1, k2⟩
    · exact ⟨d, od, ej, .inl ⟨ks, k1, k2, .inl h3⟩⟩
    · exact ⟨d, od, ej, .inr ⟨ks, k2.1, k1, k2.2, .inl h3⟩⟩
  · cases e
theorem RepT.leaf {kvs : List (Val × Val)} {ks : List (List Key × V)} (h : RepT l u kvs ks) (hn : kvs ≠ []) (k : kvs.all (·.1.leafK) = true) : False := by
  cases kvs with
  | nil => exact hn rfl
  | cons p r =>
    obtain ⟨x, y⟩ := p
    obtain ⟨q, v, t, _, h1, _⟩ := h
    simp only [List.all_cons, Bool.and_eq_true] at k
    rw [leafK_not k.1] at h1
    cases h1
end
section
variable {g : Gx} {l : Lx} {X : Cx} {W : WX} {tg ea : Expr} {a : C} {pos pos' apos cpos : Pos} {x : Str} {j : Nat}
theorem si_dctL (ha : SE g l X W ea a) : SI g l X W tg ea (iDctL a) := by
  refine PI.weak (pi_keys ha) fun σ H R ⟨z, u, fr, e1, e2, e3, e4⟩ => ?_
  rw [← e1]
  refine tE.firstI e2 e3 e4 fun u1 y v x1 r1 f1 rx h1 => ?_
  cases hs : lockedD u1.h y with
  | none => rw [hs] at h1; exact (RunI.bad h1).elim
  | some kvs =>
    rw [hs] at h1
    obtain ⟨d, od, ev, ⟨ks, al⟩ | ⟨ks, _, al⟩⟩ := lockedD_rep r1 rx hs
    · exact ⟨d, od, ev, .inl ⟨ks, al.1, h1 u1 rfl (Ext.refl u1) r1 _ ⟨_, src_keys, trivial, al⟩⟩⟩
    · exact ⟨d, od, ev, .inr ⟨ks, al.1, h1 u1 rfl (Ext.refl u1) r1 _ ⟨_, src_keysT, trivial, al⟩⟩⟩
theorem si_valL (ha : SE g l X W ea a) (hbase : attributeBase ea "values" X.env (eval ea X.env) = eval ea X.env := by rfl) (hline : (apos.endLine == cpos.line) = true := by rfl) : SI g l X W tg (.Call (.Attribute ea "values" apos) [] [] cpos) (iValL a) := by
  refine PI.weak (pi_values ha hbase hline) fun σ H R ⟨z, u, fr, e1, e2, e3, e4⟩ => ?_
  rw [← e1]
  refine tE.firstI e2 e3 e4 fun u1 y v x1 r1 f1 rx h1 => ?_
  cases hs : lockedD u1.h y with
  | none => rw [hs] at h1; exact (RunI.bad h1).elim
  | some kvs =>
    rw [hs] at h1
    dsimp only at h1
    split at h1
    · rename_i hk
      obtain ⟨d, od, ev, ⟨ks, al⟩ | ⟨ks, hn, al⟩⟩ := lockedD_rep r1 rx hs
      · exact ⟨d, od, ks, ev, al.1, h1 u1 rfl (Ext.refl u1) r1 _ ⟨_, src_vals, trivial, al⟩⟩
      · exact (al.2.1.leaf hn hk).elim
    · exact (RunI.bad h1).elim
theorem si_itmL {elts : List Expr} {kk : Nat} {tpos : Pos} (ha : SE g l X W ea a) (hbase : attributeBase ea "items" X.env (eval ea X.env) = eval ea X.env := by rfl) (hline : (apos.endLine == cpos.line) = true := by rfl) : SI g l X W (.Tuple elts kk tpos) (.Call (.Attribute ea "items" apos) [] [] cpos) (iItmL a) := by
  refine PI.weak (pi_items ha hbase hline) fun σ H R ⟨z, u, fr, e1, e2, e3, e4⟩ => ?_
  rw [← e1]
  refine tE.firstI e2 e3 e4 fun u1 y v x1 r1 f1 rx h1 => ?_
  cases hs : lockedD u1.h y with
  | none => rw [hs] at h1; exact (RunI.bad h1).elim
  | some kvs =>
    rw [hs] at h1
    dsimp only at h1
    split at h1
    · rename_i hk
      obtain ⟨d, od, ev, ⟨ks, al⟩ | ⟨ks, hn, al⟩⟩ := lockedD_rep r1 rx hs
      · exact ⟨d, od, ks, ev, al.1, h1 u1 rfl (Ext.refl u1) r1 _ ⟨_, src_items, trivial, al⟩⟩
      · exact (al.2.1.leaf hn hk).elim
    · exact (RunI.bad h1).elim
/-- a name that is an own dict -/
theorem own_run {S : It → List Val → (Vw → Prop) → Prop} {R : It → Hp → Prop} {σ : Pk.St} {H : Hp} {z : Hp} {u : Vw} {fr : Fr} {k : List (Val × Val) → Res (List Val × Option Nat)} (e1 : u.H = H) (e2 : HR g l u) (e3 : FR l z u fr σ)
    (e4 : RunI g l W σ S R u (match ownD fr j with | some kvs => k kvs | none => .bad)) : ∃ kvs d od, RunI g l W σ S R u (k kvs) ∧ σ[j]? = some (some (.ref d)) ∧ ((∃ ks, AlK l d od kvs ks u) ∨ ∃ ks, kvs ≠ [] ∧ AlT l d od kvs ks u) := by
  cases hs : ownD fr j with
  | none => rw [hs] at e4; exact (RunI.bad e4).elim
  | some kvs =>
    rw [hs] at e4
    obtain ⟨d, od, h1, h2⟩ := ownD_rep e3 hs
    exact ⟨kvs, d, od, e4, h1, h2⟩
theorem si_dctO (j : Nat) (hN : X.N[j]? = some x := by rfl) (hv : Vis X.env.scope x := by first | exact Or.inl rfl | exact Or.inr (Or.inl rfl) | exact Or.inr (Or.inr rfl)) (hd : (x == ("__debug__" : Str)) = false := by decide) (hcd : (x == ("__classdict__" : Str)) = false := by decide) :
    SI g l X W tg (.Name x pos) (iDctO j) := by
  refine PI.weak (pi_keys (pe_var (i := j) hN hv hd hcd)) fun σ H R ⟨z, u, fr, e1, e2, e3, e4⟩ => ?_
  obtain ⟨kvs, d, od, h1, h2, h3⟩ := own_run e1 e2 e3 e4
  refine ⟨.ref d, h2, d, od, rfl, ?_⟩
  rw [← e1]
  rcases h3 with ⟨ks, al⟩ | ⟨ks, _, al⟩
  · exact .inl ⟨ks, al.1, h1 u rfl (Ext.refl u) e2 _ ⟨_, src_keys, trivial, al⟩⟩
  · exact .inr ⟨ks, al.1, h1 u rfl (Ext.refl u) e2 _ ⟨_, src_keysT, trivial, al⟩⟩
theorem si_valO (j : Nat) (hN : X.N[j]? = some x := by rfl) (hv : Vis X.env.scope x := by first | exact Or.inl rfl | exact Or.inr (Or.inl rfl) | exact Or.inr (Or.inr rfl)) (hd : (x == ("__debug__" : Str)) = false := by decide) (hcd : (x == ("__classdict__" : Str)) = false := by decide)
    (hbase : attributeBase (.Name x pos) "values" X.env (eval (.Name x pos) X.env) = eval (.Name x pos) X.env := by rfl) (hline : (apos.endLine == cpos.line) = true := by rfl) : SI g l X W tg (.Call (.Attribute (.Name x pos) "values" apos) [] [] cpos) (iValO j) := by
  refine PI.weak (pi_values (pe_var (i := j) hN hv hd hcd) hbase hline) fun σ H R ⟨z, u, fr, e1, e2, e3, e4⟩ => ?_
  obtain ⟨kvs, d, od, h1, h2, h3⟩ := own_run e1 e2 e3 e4
  split at h1
  · rename_i hk
    refine ⟨.ref d, h2, d, od, ?_⟩
    rw [← e1]
    rcases h3 with ⟨ks, al⟩ | ⟨ks, hn, al⟩
    · exact ⟨ks, rfl, al.1, h1 u rfl (Ext.refl u) e2 _ ⟨_, src_vals, trivial, al⟩⟩
    · exact (al.2.1.leaf hn hk).elim
  · exact (RunI.bad h1).elim
theorem si_itmO {elts : List Expr} {kk : Nat} {tpos : Pos} (j : Nat) (hN : X.N[j]? = some x := by rfl) (hv : Vis X.env.scope x := by first | exact Or.inl rfl | exact Or.inr (Or.inl rfl) | exact Or.inr (Or.inr rfl)) (hd : (x == ("__debug__" : Str)) = false := by decide) (hcd : (x == ("__classdict__" : Str)) = false := by decide)
    (hbase : attributeBase (.Name x pos) "items" X.env (eval (.Name x pos) X.env) = eval (.Name x pos) X.env := by rfl) (hline : (apos.endLine == cpos.line) = true := by rfl) : SI g l X W (.Tuple elts kk tpos) (.Call (.Attribute (.Name x pos) "items" apos) [] [] cpos) (iItmO j) := by
  refine PI.weak (pi_items (pe_var (i := j) hN hv hd hcd) hbase hline) fun σ H R ⟨z, u, fr, e1, e2, e3, e4⟩ => ?_
  obtain ⟨kvs, d, od, h1, h2, h3⟩ := own_run e1 e2 e3 e4
  split at h1
  · rename_i hk
    refine ⟨.ref d, h2, d, od, ?_⟩
    rw [← e1]
    rcases h3 with ⟨ks, al⟩ | ⟨ks, hn, al⟩
    · exact ⟨ks, rfl, al.1, h1 u rfl (Ext.refl u) e2 _ ⟨_, src_items, trivial, al⟩⟩
    · exact (al.2.1.leaf hn hk).elim
  · exact (RunI.bad h1).elim
end
end Pk

set_option maxRecDepth 100000
/-! Pk40: a dict is locked while an expression, a statement runs. -/
namespace Pk
open PySem PySem.Spec PyProof.Rows L2

/-- which lock a value wants: none (it is locked, or for good), its number, or it is no dict -/
def lkAt (h : Hv) : Val → Option (Option Nat)
  | .dct _ => some none
  | .ref id => match h[id]? with
    | some (.dct 0 _) => some (some id)
    | some (.dct (_ + 1) _) => some none
    | _ => none
  | _ => none
def unl {α : Type} (id : Nat) : Res α → Res α
  | .ok x h => .ok x (unlockOb h id)
  | _ => .bad
def unlS (id : Nat) : Res Out → Res Out
  | .ok x h => .ok x (unlockOb h id)
  | .exc c h => .exc c (unlockOb h id)
  | .bad => .bad
/-- c runs while the dict that a tells is locked -/
def cLkV {α : Type} (a : C) (c : Fr → Hv → Res α) : Fr → Hv → Res α := fun fr h => match a fr h with
  | .ok x _ => match lkAt h x with
    | some none => c fr h
    | some (some id) => unl id (c fr (lockOb h id))
    | none => .bad
  | _ => .bad
def sLkV (a : C) (s : CS) : CS := fun fr h => match a fr h with
  | .ok x _ => match lkAt h x with
    | some none => s fr h
    | some (some id) => unlS id (s fr (lockOb h id))
    | none => .bad
  | _ => .bad
def Res.calmly {α : Type} : Res α → Res α
  | .ok x h => .ok x h
  | _ => .bad
def cLkO {α : Type} (j : Nat) (c : Fr → Hv → Res α) : Fr → Hv → Res α := fun fr h => match fr[j]? with
  | some (.acd 0 kvs) => (c (fr.set j (.acd 1 kvs)) h).calmly
  | some (.acd (_ + 1) _) => c fr h
  | _ => .bad
/-- the own dict at j stands as it was -/
def backO (j : Nat) (f : Fr) : Option Fr := match f[j]? with
  | some (.acd 1 kvs) => some (f.set j (.acd 0 kvs))
  | _ => none
def endO (j : Nat) : Res Out → Res Out
  | .ok (.nx f) h => match backO j f with
    | some f' => .ok (.nx f') h
    | none => .bad
  | .ok (.bk f) h => match backO j f with
    | some f' => .ok (.bk f') h
    | none => .bad
  | r => r
def sLkO (j : Nat) (s : CS) : CS := fun fr h => match fr[j]? with
  | some (.acd 0 kvs) => endO j (s (fr.set j (.acd 1 kvs)) h)
  | some (.acd (_ + 1) _) => s fr h
  | _ => .bad

def isDc : HO → Prop
  | .dK _ => True
  | .dT _ => True
  | _ => False
theorem isDc.mut {o : HO} (h : isDc o) : Mut (some o) := by cases o <;> first | exact h.elim | trivial
theorem isDc.mut' {o : HO} (h : isDc o) : isMut o := by cases o <;> first | exact h.elim | trivial
theorem isDc.box {o : HO} (h : isDc o) : isBox o := by cases o <;> first | exact h.elim | trivial
theorem isDc.ne {o : HO} (h : isDc o) : (∀ vs, o ≠ .lst vs) ∧ (∀ o' x, o ≠ .frz o' x) ∧ ∀ vs, o ≠ .tup vs := by refine ⟨?_, ?_, ?_⟩ <;> intros <;> intro e <;> (rw [e] at h; exact h)
section
variable {g : Gx} {l : Lx} {u v : Vw} {d : Addr} {o : HO} {od : Obj} {oid : Option Nat} {z : Hp}
def lkV (u : Vw) (d : Addr) (od : Obj) (o : HO) (oid : Option Nat) : Vw := ⟨u.ρ, u.F, upd u.H d (.frz od o), lockO u.h oid⟩
def ulV (v : Vw) (d : Addr) (o : HO) (oid : Option Nat) : Vw := ⟨v.ρ, v.F, upd v.H d o, unlockO v.h oid⟩
structure CanLk (u : Vw) (d : Addr) (o : HO) (oid : Option Nat) : Prop where
  at_ : u.H d = some o
  dc : isDc o
  nf : ¬ u.F d
  own : match oid with
    | none => ∀ id, u.ρ id ≠ some d
    | some id => u.ρ id = some d ∧ ∃ kvs, u.h[id]? = some (.dct 0 kvs)
theorem CanLk.sub (k : CanLk u d o oid) : Sub u (lkV u d od o oid) := by
  have nm := isMut_cases k.dc.mut'
  have ne : ∀ {b : Addr} {x : HO}, u.H b = some x → x ≠ o → b ≠ d := fun {b x} h n w => by rw [w, k.at_] at h; exact n (Option.some.inj h).symm
  exact ⟨fun _ _ h => h, fun _ h => h, fun b vs h => (upd_ne (ne h fun w => nm.1 _ w.symm)).trans h, fun b φ h => (upd_ne (ne h fun w => nm.2.1 _ w.symm)).trans h, fun b vs f h => (upd_ne (ne h fun w => k.dc.ne.1 _ w.symm)).trans h,
    fun b ks f ⟨o', h⟩ => ⟨o', (upd_ne (ne h fun w => k.dc.ne.2.1 _ _ w.symm)).trans h⟩, fun b ks f ⟨o', h⟩ => ⟨o', (upd_ne (ne h fun w => k.dc.ne.2.1 _ _ w.symm)).trans h⟩⟩
theorem CanLk.other (r : HR g l u) (k : CanLk u d o oid) {id : Nat} {a : Addr} (h : u.ρ id = some a) (ni : oid ≠ some id) : a ≠ d := fun w => by
  subst w
  have own := k.own
  cases oid with
  | none => exact own id h
  | some j => exact ni (by rw [r.inj j id a own.1 h])
theorem CanLk.lock (r : HR g l u) (k : CanLk u d o oid) : HR g l (lkV u d od o oid) := by
  have s := k.sub (od := od)
  refine ⟨fun id a h => by show id < (lockO u.h oid).length; rw [lock_len]; exact r.dom id a h, r.inj, fun id ob h => ?_, fun a h => ?_, fun p hp => ?_⟩
  · have h : (lockO u.h oid)[id]? = some ob := h
    by_cases q : oid = some id
    · subst q
      obtain ⟨h1, kvs, h2⟩ := k.own
      have h : (lockOb u.h id)[id]? = some ob := h
      rw [lock_at, if_pos rfl, h2] at h
      obtain rfl := (Option.some.inj h).symm
      obtain ⟨a, h3, h4, h5⟩ := r.ob id _ h2
      rw [h1] at h3
      cases h3
      refine ⟨d, h1, h4, ?_⟩
      have at_ := k.at_
      rcases h5 with ⟨ks, h6, h7⟩ | ⟨ks, h6, h7⟩
      · rw [at_] at h6
        cases h6
        exact .inl ⟨od, ks, upd_same, RepK.sub s _ _ h7⟩
      · rw [at_] at h6
        cases h6
        exact .inr ⟨od, ks, upd_same, RepT1.sub s _ _ h7⟩
    · have h' : u.h[id]? = some ob := by
        cases oid with
        | none => exact h
        | some j =>
          have h : (lockOb u.h j)[id]? = some ob := h
          rw [lock_at, if_neg (fun w => q (by rw [w]))] at h
          exact h
      obtain ⟨a, h1, h2, h3⟩ := r.ob id ob h'
      exact ⟨a, h1, h2, h3.same s (upd_ne (k.other r h1 q))⟩
  · obtain ⟨x, h1, h2⟩ := r.frz a h
    by_cases w : a = d
    · exact ⟨.frz od o, by rw [w]; exact upd_same, k.dc.box⟩
    · exact ⟨x, (upd_ne w).trans h1, h2⟩
  · obtain ⟨ps, h1, h2, h3⟩ := r.tab p hp
    have np : p.1 ≠ d := fun w => by
      have at_ := k.at_
      rw [← w, h1] at at_
      cases at_
      exact k.dc
    refine ⟨ps, (upd_ne np).trans h1, h2, fun pos cv hcv => ?_⟩
    obtain ⟨c, e1, e2⟩ := h3 pos cv hcv
    exact ⟨c, e1, s.ext _ _ e2⟩
/-- what stands at the end of the locked run -/
theorem CanLk.stood (r : HR g l u) (k : CanLk u d o oid) (e : ExS z (lkV u d od o oid) v) : v.H d = some (.frz od o) ∧ ∀ id, oid = some id → ∃ kvs, u.h[id]? = some (.dct 0 kvs) ∧ v.h[id]? = some (.dct 1 kvs) ∧ v.ρ id = some d := by
  have own := k.own
  cases oid with
  | none => exact ⟨e.keep d _ upd_same own (fun ps z => by cases z) (.inr (.inr fun z => z)), fun id q => by cases q⟩
  | some id =>
    obtain ⟨h1, kvs, h2⟩ := own
    have h3 : (lkV u d od o (some id)).h[id]? = some (.dct 1 kvs) := by
      show (lockOb u.h id)[id]? = _
      rw [lock_at, if_pos rfl, h2]; rfl
    obtain ⟨h4, h5⟩ := e.lock id _ d h3 trivial h1
    exact ⟨h5.trans upd_same, fun j q => by cases q; exact ⟨kvs, h2, h4, e.ρm id d h1⟩⟩
theorem CanLk.nfE (r : HR g l u) (k : CanLk u d o oid) (e : Ext (lkV u d od o oid) v) : ¬ v.F d := fun w => (e.Fn d w).elim (fun w => k.nf w) fun w => by
  obtain ⟨ps, q⟩ := w _ upd_same
  cases q
theorem CanLk.nfN {id : Nat} (r : HR g l u) (k : CanLk u d o (some id)) (e : ExS z (lkV u d od o (some id)) v) (rv : HR g l v) : ¬ v.F d := by
  obtain ⟨_, kvs, h1, h2⟩ := (k.stood r e).2 id rfl
  obtain ⟨a, h3, h4, _⟩ := rv.ob id _ h1
  rw [h2] at h3
  cases h3
  exact h4
theorem CanLk.back (r : HR g l u) (k : CanLk u d o oid) (e : ExS z (lkV u d od o oid) v) (rv : HR g l v) (nF : ¬ v.F d) : ExS z u (ulV v d o oid) ∧ HR g l (ulV v d o oid) ∧ Sub v (ulV v d o oid) := by
  obtain ⟨hd, hid⟩ := k.stood r e
  have nm := isMut_cases k.dc.mut'
  have ne : ∀ {b : Addr} {x : HO}, v.H b = some x → (∀ o' y, x ≠ .frz o' y) → b ≠ d := fun {b x} h n w => by rw [w, hd] at h; exact n _ _ (Option.some.inj h).symm
  have s : Sub v (ulV v d o oid) :=
    ⟨fun _ _ h => h, fun _ h => h, fun b vs h => (upd_ne (ne h fun _ _ w => by cases w)).trans h, fun b φ h => (upd_ne (ne h fun _ _ w => by cases w)).trans h, fun b vs f h => (upd_ne (fun (w : b = d) => nF (w ▸ f))).trans h,
      fun b ks f ⟨o', h⟩ => ⟨o', (upd_ne (fun (w : b = d) => nF (w ▸ f))).trans h⟩, fun b ks f ⟨o', h⟩ => ⟨o', (upd_ne (fun (w : b = d) => nF (w ▸ f))).trans h⟩⟩
  have goneL : ∀ a, gone (lkV u d od o oid).H a → gone u.H a := fun a h x hx => by
    by_cases w : a = d
    · rw [w] at h
      obtain ⟨ps, q⟩ := h _ upd_same
      cases q
    · exact h x ((upd_ne w).trans hx)
  have goneU : ∀ a, gone (ulV v d o oid).H a → gone v.H a := fun a h x hx => by
    by_cases w : a = d
    · rw [w] at h
      obtain ⟨ps, q⟩ := h _ upd_same
      exact absurd q (nm.2.2 ps)
    · exact h x ((upd_ne w).trans hx)
  have otherV : ∀ {id : Nat} {a : Addr}, v.ρ id = some a → oid ≠ some id → a ≠ d := by
    intro id a h ni w
    rw [w] at h
    have own := k.own
    cases oid with
    | none =>
      rcases e.ρn id d h with q | q
      · exact own id q
      · obtain ⟨ps, q⟩ := q _ upd_same
        cases q
    | some j => exact ni (by rw [rv.inj j id d (e.ρm j d own.1) h])
  have atU : ∀ {id : Nat} {ob : Ob}, oid ≠ some id → ((unlockO v.h oid)[id]? = some ob ↔ v.h[id]? = some ob) := fun {id ob} ni => by
    cases oid with
    | none => exact Iff.rfl
    | some j =>
      show (unlockOb v.h j)[id]? = some ob ↔ _
      rw [unlock_at, if_neg (fun w => ni (by rw [w]))]
  have atL : ∀ {id : Nat} {ob : Ob}, oid ≠ some id → u.h[id]? = some ob → (lockO u.h oid)[id]? = some ob := fun {id ob} ni h => by
    cases oid with
    | none => exact h
    | some j =>
      show (lockOb u.h j)[id]? = some ob
      rw [lock_at, if_neg (fun w => ni (by rw [w]))]
      exact h
  refine ⟨⟨e.ρm, fun id a h => (e.ρn id a h).imp_right (goneL a), e.Fm, fun a h => (e.Fn a h).imp_right fun h => h.imp_left (goneL a), fun a x h n m c => ?_, fun a h => goneL a (e.live a (goneU a h)), fun id ob a h1 h2 h3 => ?_, ?_⟩, ⟨fun id a h => ?_, rv.inj, fun id ob h => ?_, fun a h => ?_, fun p hp => ?_⟩, s⟩
  · by_cases w : a = d
    · rw [w, k.at_] at h
      obtain rfl := Option.some.inj h
      rw [w]
      exact upd_same
    · exact (upd_ne w).trans (e.keep a x ((upd_ne w).trans h) n m c)
  · have ni : oid ≠ some id := fun w => by
      obtain ⟨kvs, q1, _⟩ := hid id w
      rw [q1] at h1
      cases h1
      exact h2
    have na := k.other r h3 ni
    obtain ⟨q1, q2⟩ := e.lock id ob a (atL ni h1) h2 h3
    exact ⟨(atU ni).mpr q1, (upd_ne na).trans (q2.trans (upd_ne na))⟩
  · have q := e.len
    show u.h.length ≤ (unlockO v.h oid).length
    rw [unlock_len]
    exact Nat.le_trans (by show u.h.length ≤ (lockO u.h oid).length; rw [lock_len]; exact Nat.le_refl _) q
  · show id < (unlockO v.h oid).length
    rw [unlock_len]
    exact rv.dom id a h
  · have h : (unlockO v.h oid)[id]? = some ob := h
    by_cases q : oid = some id
    · obtain ⟨kvs, q1, q2, q3⟩ := hid id q
      rw [q] at h
      have h : (unlockOb v.h id)[id]? = some ob := h
      rw [unlock_at, if_pos rfl, q2] at h
      obtain rfl := (Option.some.inj h).symm
      obtain ⟨a, h3, h4, h5⟩ := rv.ob id _ q2
      rw [q3] at h3
      cases h3
      refine ⟨d, q3, h4, ?_⟩
      rcases h5 with ⟨o', ks, h6, h7⟩ | ⟨o', ks, h6, h7⟩
      · rw [hd] at h6
        cases h6
        exact .inl ⟨ks, upd_same, RepK.sub s _ _ h7⟩
      · rw [hd] at h6
        cases h6
        exact .inr ⟨ks, upd_same, RepT1.sub s _ _ h7⟩
    · obtain ⟨a, h1, h2, h3⟩ := rv.ob id ob ((atU q).mp h)
      exact ⟨a, h1, h2, h3.same s (upd_ne (otherV h1 q))⟩
  · obtain ⟨x, h1, h2⟩ := rv.frz a h
    exact ⟨x, (upd_ne (fun (w : a = d) => nF (w ▸ h))).trans h1, h2⟩
  · obtain ⟨ps, h1, h2, h3⟩ := rv.tab p hp
    refine ⟨ps, (upd_ne (ne h1 fun _ _ w => by cases w)).trans h1, h2, fun pos cv hcv => ?_⟩
    obtain ⟨c, e1, e2⟩ := h3 pos cv hcv
    exact ⟨c, e1, s.ext _ _ e2⟩
theorem CanLk.backE (r : HR g l u) (k : CanLk u d o oid) (e : Ext (lkV u d od o oid) v) (rv : HR g l v) : v.H d = some (.frz od o) ∧ Ext u (ulV v d o oid) ∧ HR g l (ulV v d o oid) ∧ Sub v (ulV v d o oid) := by
  obtain ⟨h1, h2, h3⟩ := k.back (z := u.H) r (e.s u.H) rv (k.nfE r e)
  exact ⟨(k.stood r (e.s u.H)).1, h1.all, h2, h3⟩
theorem CanLk.gone (k : CanLk u d o oid) (a : Addr) (h : gone (lkV u d od o oid).H a) : gone u.H a := fun x hx => by
  by_cases w : a = d
  · rw [w] at h
    obtain ⟨ps, q⟩ := h _ upd_same
    cases q
  · exact h x ((upd_ne w).trans hx)
/-- what is handed on -/
theorem RepN.unlk {l : Lx} {u0 : Vw} {c : Cont} {w : V} (k : CanLk u d o oid) (s : Sub v (ulV v d o oid)) (h : RepN l (lkV u d od o oid) v c w) : RepN l u (ulV v d o oid) c w := by
  obtain ⟨a, h1, h2, h3, h4, h5⟩ := h
  have h2' := k.gone a h2
  have na : a ≠ d := fun q => not_gone k.at_ ((isMut_cases k.dc.mut').2.2) (q ▸ h2')
  exact ⟨a, h1, h2', h3, h4, h5.sub s (upd_ne na)⟩
/-- the frame of a numbered dict's lock -/
theorem FR.lkN {fr : Fr} {σ : Pk.St} {id : Nat} (f : FR l z u fr σ) (k : CanLk u d o (some id)) : FR l z (lkV u d od o (some id)) fr σ := by
  refine ⟨fun a h => f.live a (k.gone a h), f.len, f.own, fun i s v h1 h2 => ?_, f.apart⟩
  have q := f.sl i s v h1 h2
  refine q.sub k.sub fun ac a e => ⟨upd_ne ?_, fun h => h, fun _ h => h⟩
  subst e
  intro w
  subst w
  have own := k.own
  cases s with
  | no => exact ac
  | val x => exact ac
  | acl n xs => obtain ⟨b, vs, q1, _, _, _, q5⟩ := q; cases q1; exact q5 id own.1
  | acd n kvs =>
    cases n with
    | zero => obtain ⟨b, q1, _, _, q5⟩ := q; cases q1; exact q5 id own.1
    | succ n => obtain ⟨b, q1, _, _, q5⟩ := q; cases q1; exact q5 id own.1
end

/-- a reading that changes nothing, of a value that is not an own container -/
def Pur (g : Gx) (l : Lx) (a : C) : Prop := ∀ (z : Hp) (u : Vw) (fr : Fr) (σ : Pk.St) (x : Val) (h : Hv), HR g l u → FR l z u fr σ → a fr u.h = .ok x h → ∃ v, RepV l u x v
theorem pur_v {g : Gx} {l : Lx} (i : Nat) : Pur g l (cV i) := fun z u fr σ x h r f e => by
  unfold cV at e
  split at e
  · rename_i w hw
    cases e
    have hl : i < σ.length := by rw [← f.len]; exact (List.getElem?_eq_some_iff.mp hw).1
    obtain ⟨v, _, h2⟩ := f.sl i _ σ[i] hw (by simp [hl])
    exact ⟨v, h2⟩
  · cases e
theorem pur_fld {g : Gx} {l : Lx} (i f : Nat) (hf : f < g.nf) : Pur g l (cFld (cV i) f) := fun z u fr σ x h r fr' e => by
  unfold cFld at e
  cases q : cV i fr u.h with
  | exc _ _ => rw [q] at e; cases e
  | bad => rw [q] at e; cases e
  | ok y h1 =>
    rw [q] at e
    obtain rfl : u.h = h1 := by
      unfold cV at q
      split at q
      · cases q; rfl
      · cases q
    cases y with
    | ref id =>
      obtain ⟨v, a, h2, h3⟩ := pur_v i z u fr σ _ _ r fr' q
      obtain ⟨ob, h4, _, h5⟩ := r.at h3
      have e : (match u.h[id]? with | some (.ins _ fs) => lift (fget fs f) u.h | _ => .bad) = Res.ok x h := e
      rw [h4] at e
      cases ob with
      | ins c fs =>
        obtain ⟨dx, fs', h6, h7⟩ := h5
        have e : lift (fget fs f) u.h = Res.ok x h := e
        cases hg : fget fs f with
        | none => rw [hg] at e; cases e
        | some w =>
          rw [hg] at e
          cases e
          obtain ⟨v', _, h8⟩ := h7.get hf hg
          exact ⟨v', h8⟩
      | _ => cases e
    | _ => cases e
section
variable {g : Gx} {l : Lx} {X : Cx} {W : WX} {e : Expr} {a : C}
theorem lk_some {z : Hp} {u : Vw} {fr : Fr} {σ : Pk.St} {x : Val} {v : V} {id : Nat} (r : HR g l u) (rx : RepV l u x v) (e : lkAt u.h x = some (some id)) : ∃ d o, CanLk u d o (some id) := by
  cases x with
  | dct ys => cases e
  | ref j =>
    obtain ⟨d, e1, e2⟩ := rx
    obtain ⟨ob, h3, h4, h5⟩ := r.at e2
    unfold lkAt at e
    dsimp only at e
    rw [h3] at e
    cases ob with
    | dct k ys =>
      cases k with
      | succ k => cases e
      | zero =>
        cases e
        rcases h5 with ⟨ks, k1, k2⟩ | ⟨ks, k1, k2⟩
        · exact ⟨d, _, k1, trivial, h4, e2, ys, h3⟩
        · exact ⟨d, _, k1, trivial, h4, e2, ys, h3⟩
    | lst k ys => cases e
    | ins c fs => cases e
  | _ => cases e
/-- the expression runs under the lock -/
theorem pe_lkV {α : Type} {rep : Vw → Vw → α → V → Prop} {c : Fr → Hv → Res α} (hp : Pur g l a)
    (hrep : ∀ (u v : Vw) (d : Addr) (od : Obj) (o : HO) (oid : Option Nat) (x : α) (w : V), CanLk u d o oid → HR g l v → Sub v (ulV v d o oid) → rep (lkV u d od o oid) v x w → rep u (ulV v d o oid) x w)
    (h : PE X e (fun σ H Q => ∃ z u fr, u.H = H ∧ HR g l u ∧ FR l z u fr σ ∧ Run g l W σ (rep u) Q u (c fr u.h))) : PE X e (fun σ H Q => ∃ z u fr, u.H = H ∧ HR g l u ∧ FR l z u fr σ ∧ Run g l W σ (rep u) Q u (cLkV a c fr u.h)) := by
  refine ⟨fun pins s σ H Q I ⟨z, u, fr, e1, e2, e3, e4⟩ => ?_⟩
  subst e1
  unfold cLkV at e4
  cases q : a fr u.h with
  | exc _ _ => rw [q] at e4; exact (Run.bad e4).elim
  | bad => rw [q] at e4; exact (Run.bad e4).elim
  | ok x hh =>
    rw [q] at e4
    have e4 : Run g l W σ (rep u) Q u (match lkAt u.h x with | some none => c fr u.h | some (some id) => unl id (c fr (lockOb u.h id)) | none => .bad) := e4
    cases hl : lkAt u.h x with
    | none => rw [hl] at e4; exact (Run.bad e4).elim
    | some oi =>
      rw [hl] at e4
      cases oi with
      | none => exact h.run pins s σ u.H Q I ⟨z, u, fr, rfl, e2, e3, e4⟩
      | some id =>
        obtain ⟨v, rv⟩ := hp z u fr σ x hh e2 e3 q
        obtain ⟨d, o, k⟩ := lk_some (z := z) (fr := fr) (σ := σ) e2 rv hl
        have e4 : Run g l W σ (rep u) Q u (unl id (c fr (lockOb u.h id))) := e4
        refine (pe_lock h).run pins s σ u.H Q I ⟨d, o, k.at_, k.dc.mut, fun od => ⟨z, lkV u d od o (some id), fr, rfl, k.lock e2, e3.lkN k, ?_⟩⟩
        show Run g l W σ (rep (lkV u d od o (some id))) _ _ (c fr (lockOb u.h id))
        cases qc : c fr (lockOb u.h id) with
        | exc _ _ => rw [qc] at e4; exact (Run.bad e4).elim
        | bad => rw [qc] at e4; exact (Run.bad e4).elim
        | ok y h1 =>
          rw [qc] at e4
          intro u' eh x' r' w rw'
          obtain ⟨k1, k2, k3, k4⟩ := k.backE e2 x' r'
          refine ⟨k1, e4 (ulV u' d o (some id)) ?_ k2 k3 w (hrep u u' d od o (some id) y w k r' k4 rw')⟩
          show unlockOb u'.h id = unlockOb h1 id
          rw [eh]
theorem se_lkV {c : C} (hp : Pur g l a) (h : SE g l X W e c) : SE g l X W e (cLkV a c) :=
  pe_lkV (rep := fun _ => RepV l) hp (fun u v d od o oid x w k r s h => RepV.sub s x w h) h
theorem sf_lkV {c : CF} (hp : Pur g l a) (h : SF g l X W e c) : SF g l X W e (cLkV a c) :=
  pe_lkV (rep := fun u => RepN l u) hp (fun u v d od o oid x w k r s h => RepN.unlk (u0 := u) k s h) h
end
end Pk

set_option maxRecDepth 100000
/-! Pk41: an own dict locked while an expression runs; a numbered one while a statement runs. -/
namespace Pk
open PySem PySem.Spec PyProof.Rows L2

section
variable {g : Gx} {l : Lx} {u v : Vw} {d : Addr} {o : HO} {od : Obj} {z : Hp}
theorem FR.lkO {fr : Fr} {σ : Pk.St} {j : Nat} {kvs : List (Val × Val)} (f : FR l z u fr σ) (hj : fr[j]? = some (.acd 0 kvs)) :
    ∃ d o, CanLk u d o none ∧ ∀ od, FR l z (lkV u d od o none) (fr.set j (.acd 1 kvs)) σ := by
  have hl : j < σ.length := by rw [← f.len]; exact (List.getElem?_eq_some_iff.mp hj).1
  have hlf : j < fr.length := (List.getElem?_eq_some_iff.mp hj).1
  have ej : σ[j]? = some σ[j] := by simp [hl]
  obtain ⟨d, e1, h1, h2, h3⟩ := f.sl j _ σ[j] hj ej
  rw [e1] at ej
  have key : ∀ o, u.H d = some o → isDc o → (∀ od, SlR l (lkV u d od o none) (.acd 1 kvs) (some (.ref d))) → ∃ d o, CanLk u d o none ∧ ∀ od, FR l z (lkV u d od o none) (fr.set j (.acd 1 kvs)) σ := fun o h4 h5 h6 => by
    have k : CanLk u d o none := ⟨h4, h5, h2, h3⟩
    have atP : ∀ {i : Nat} {s : Sl}, (fr.set j (.acd 1 kvs))[i]? = some s → ∃ s0, fr[i]? = some s0 ∧ (s.isAc → s0.isAc) ∧ (i = j ∧ s = .acd 1 kvs ∨ i ≠ j ∧ s = s0) := fun {i s} h => by
      by_cases q : j = i
      · subst q
        rw [List.getElem?_set_self hlf] at h
        cases h
        exact ⟨_, hj, fun _ => trivial, .inl ⟨rfl, rfl⟩⟩
      · rw [List.getElem?_set_ne q] at h
        exact ⟨s, h, fun h => h, .inr ⟨fun w => q w.symm, rfl⟩⟩
    refine ⟨d, o, k, fun od => ⟨fun a h => f.live a (k.gone a h), by rw [List.length_set]; exact f.len, fun i s a h1 ac h2 => ?_, fun i s v h1 h2 => ?_, fun i i' s t w h1 h2 k1 k2 h3 h4 => ?_⟩⟩
    · obtain ⟨s0, q1, q2, _⟩ := atP h1
      exact f.own i s0 a q1 (q2 ac) h2
    · obtain ⟨s0, q1, q2, q | ⟨q, q3⟩⟩ := atP h1
      · obtain ⟨rfl, rfl⟩ := q
        rw [ej] at h2
        cases h2
        exact h6 od
      · subst q3
        refine (f.sl i s v q1 h2).sub k.sub fun ac a e => ⟨upd_ne fun w => ?_, fun h => h, fun _ h => h⟩
        rw [e, w] at h2
        exact q (f.apart i j s _ _ q1 hj ac trivial h2 ej)
    · obtain ⟨s0, q1, q2, _⟩ := atP h1
      obtain ⟨t0, q3, q4, _⟩ := atP h2
      exact f.apart i i' s0 t0 w q1 q3 (q2 k1) (q4 k2) h3 h4
  rcases h1 with ⟨ks, k1, k2⟩ | ⟨ks, k1, k2⟩
  · have k : CanLk u d (.dK ks) none := ⟨k1, trivial, h2, h3⟩
    exact key _ k1 trivial fun od => ⟨d, rfl, .inl ⟨od, ks, upd_same, RepK.sub k.sub _ _ k2⟩, h2, h3⟩
  · have k : CanLk u d (.dT ks) none := ⟨k1, trivial, h2, h3⟩
    exact key _ k1 trivial fun od => ⟨d, rfl, .inr ⟨od, ks, upd_same, RepT1.sub k.sub _ _ k2⟩, h2, h3⟩
/-- the frame, the numbered dict unlocked -/
theorem FR.ulN {fr : Fr} {σ : Pk.St} {id : Nat} (f : FR l z v fr σ) (hd : v.H d = some (.frz od o)) (hr : v.ρ id = some d) (s : Sub v (ulV v d o (some id))) (hg : ∀ a, gone (ulV v d o (some id)).H a → gone v.H a) : FR l z (ulV v d o (some id)) fr σ := by
  refine ⟨fun a h => f.live a (hg a h), f.len, f.own, fun i sl w h1 h2 => ?_, f.apart⟩
  have q := f.sl i sl w h1 h2
  refine q.sub s fun ac a e => ⟨upd_ne ?_, fun h => h, fun _ h => h⟩
  subst e
  intro w
  subst w
  cases sl with
  | no => exact ac
  | val x => exact ac
  | acl n xs => obtain ⟨b, vs, q1, _, _, _, q5⟩ := q; cases q1; exact q5 id hr
  | acd n kvs =>
    cases n with
    | zero => obtain ⟨b, q1, _, _, q5⟩ := q; cases q1; exact q5 id hr
    | succ n => obtain ⟨b, q1, _, _, q5⟩ := q; cases q1; exact q5 id hr
end
section
variable {g : Gx} {l : Lx} {X : Cx} {W : WX} {e : Expr} {a : C} {j : Nat}
theorem pe_lkO {α : Type} {rep : Vw → Vw → α → V → Prop} {c : Fr → Hv → Res α}
    (hrep : ∀ (u v : Vw) (d : Addr) (od : Obj) (o : HO) (oid : Option Nat) (x : α) (w : V), CanLk u d o oid → HR g l v → Sub v (ulV v d o oid) → rep (lkV u d od o oid) v x w → rep u (ulV v d o oid) x w)
    (h : PE X e (fun σ H Q => ∃ z u fr, u.H = H ∧ HR g l u ∧ FR l z u fr σ ∧ Run g l W σ (rep u) Q u (c fr u.h))) : PE X e (fun σ H Q => ∃ z u fr, u.H = H ∧ HR g l u ∧ FR l z u fr σ ∧ Run g l W σ (rep u) Q u (cLkO j c fr u.h)) := by
  refine ⟨fun pins s σ H Q I ⟨z, u, fr, e1, e2, e3, e4⟩ => ?_⟩
  subst e1
  unfold cLkO at e4
  split at e4
  · rename_i kvs hj
    obtain ⟨d, o, k, hf⟩ := e3.lkO hj
    refine (pe_lock h).run pins s σ u.H Q I ⟨d, o, k.at_, k.dc.mut, fun od => ⟨z, lkV u d od o none, _, rfl, k.lock e2, hf od, ?_⟩⟩
    show Run g l W σ (rep (lkV u d od o none)) _ _ (c (fr.set j (.acd 1 kvs)) u.h)
    cases qc : c (fr.set j (.acd 1 kvs)) u.h with
    | exc _ _ => rw [qc] at e4; exact (Run.bad e4).elim
    | bad => rw [qc] at e4; exact (Run.bad e4).elim
    | ok y h1 =>
      rw [qc] at e4
      intro u' eh x' r' w rw'
      obtain ⟨k1, k2, k3, k4⟩ := k.backE e2 x' r'
      exact ⟨k1, e4 (ulV u' d o none) eh k2 k3 w (hrep u u' d od o none y w k r' k4 rw')⟩
  · exact h.run pins s σ u.H Q I ⟨z, u, fr, rfl, e2, e3, e4⟩
  · exact (Run.bad e4).elim
theorem se_lkO {c : C} (j : Nat) (h : SE g l X W e c) : SE g l X W e (cLkO j c) :=
  pe_lkO (rep := fun _ => RepV l) (fun u v d od o oid x w k r s h => RepV.sub s x w h) h
theorem sf_lkO {c : CF} (j : Nat) (h : SF g l X W e c) : SF g l X W e (cLkO j c) :=
  pe_lkO (rep := fun u => RepN l u) (fun u v d od o oid x w k r s h => RepN.unlk (u0 := u) k s h) h
/-- an error that leaves while the dict is locked -/
theorem takes_lk {E : XK} {d : Addr} {od : Obj} {o : HO} (tk : Takes X (WK E)) (hn : ∀ o' u', X.H_0 d ≠ some (.frz o' u')) : Takes X (WK fun c dd H => H d = some (.frz od o) ∧ E c dd (upd H d o)) := fun w s' ⟨b, B, sI, pins, σ, H, cls, dd, e, I, nb, up, sky, na, os, ag, h1, h2⟩ =>
  tk w s' ⟨b, B, sI, pins, σ, upd H d o, cls, dd, e, I.unlock h1 hn, nb, up, sky, (upd_ne (fun z => by rw [z, h1] at na; cases na)).trans na, os, ag, h2⟩
theorem ss_lkV {E : XK} {st : Stmt} {sc : CS} (hp : Pur g l a) (tk : Takes X (WK E)) (h : ∀ E' : XK, Takes X (WK E') → SS g l X (WK E') st sc) : SS g l X (WK E) st (sLkV a sc) := by
  refine ⟨fun pins s σ H D I ⟨z, u, fr, e1, e2, e3, e4⟩ => ?_⟩
  subst e1
  unfold sLkV at e4
  cases q : a fr u.h with
  | exc _ _ => rw [q] at e4; exact (RunS.bad e4).elim
  | bad => rw [q] at e4; exact (RunS.bad e4).elim
  | ok x hh =>
    rw [q] at e4
    have e4 : RunS g l (WK E) z D u (match lkAt u.h x with | some none => sc fr u.h | some (some id) => unlS id (sc fr (lockOb u.h id)) | none => .bad) := e4
    cases hl : lkAt u.h x with
    | none => rw [hl] at e4; exact (RunS.bad e4).elim
    | some oi =>
      rw [hl] at e4
      cases oi with
      | none => exact (h E tk).run pins s σ u.H D I ⟨z, u, fr, rfl, e2, e3, e4⟩
      | some id =>
        obtain ⟨v, rv⟩ := hp z u fr σ x hh e2 e3 q
        obtain ⟨d, o, k⟩ := lk_some (z := z) (fr := fr) (σ := σ) e2 rv hl
        have e4 : RunS g l (WK E) z D u (unlS id (sc fr (lockOb u.h id))) := e4
        obtain ⟨od, I1⟩ := I.lock k.at_ k.dc.mut
        have hn := I.nofrz k.at_ k.dc.mut
        have fin : ∀ {u' : Vw}, ExS z (lkV u d od o (some id)) u' → HR g l u' → u'.H d = some (.frz od o) ∧ ExS z u (ulV u' d o (some id)) ∧ HR g l (ulV u' d o (some id)) ∧ Sub u' (ulV u' d o (some id)) ∧ u'.ρ id = some d ∧ ∀ a, gone (ulV u' d o (some id)).H a → gone u'.H a := fun {u'} x' r' => by
          obtain ⟨k1, k2⟩ := k.stood e2 x'
          obtain ⟨_, _, _, k3⟩ := k2 id rfl
          obtain ⟨b1, b2, b3⟩ := k.back e2 x' r' (k.nfN e2 x' r')
          refine ⟨k1, b1, b2, b3, k3, fun a h y hy => ?_⟩
          by_cases w : a = d
          · rw [w] at h
            obtain ⟨ps, q⟩ := h _ upd_same
            exact absurd q ((isMut_cases k.dc.mut').2.2 ps)
          · exact h y ((upd_ne w).trans hy)
        refine thn ((h _ (takes_lk (od := od) (o := o) (d := d) tk hn)).run pins s σ _ ⟨fun σ' H' => H' d = some (.frz od o) ∧ D.nx σ' (upd H' d o), fun v H' => H' d = some (.frz od o) ∧ D.rt v (upd H' d o), fun σ' H' => H' d = some (.frz od o) ∧ D.bk σ' (upd H' d o), fun σ' H' => H' d = some (.frz od o) ∧ D.ct σ' (upd H' d o)⟩ I1 ⟨z, lkV u d od o (some id), fr, rfl, k.lock e2, e3.lkN k, ?_⟩) fun f s1 q => ?_
        · show RunS g l _ z _ _ (sc fr (lockOb u.h id))
          cases qc : sc fr (lockOb u.h id) with
          | bad => rw [qc] at e4; exact (RunS.bad e4).elim
          | exc c h1 =>
            rw [qc] at e4
            intro u' σ' eh x' r'
            obtain ⟨k1, k2, k3, k4, k5, k6⟩ := fin x' r'
            exact ⟨k1, e4 (ulV u' d o (some id)) σ' (by show unlockOb u'.h id = _; rw [eh]) k2 k3⟩
          | ok out h1 =>
            rw [qc] at e4
            cases out with
            | nx f2 =>
              intro u' σ' eh x' r' f'
              obtain ⟨k1, k2, k3, k4, k5, k6⟩ := fin x' r'
              exact ⟨k1, e4 (ulV u' d o (some id)) σ' (by show unlockOb u'.h id = _; rw [eh]) k2 k3 (f'.ulN k1 k5 k4 k6)⟩
            | bk f2 =>
              intro u' σ' eh x' r' f'
              obtain ⟨k1, k2, k3, k4, k5, k6⟩ := fin x' r'
              exact ⟨k1, e4 (ulV u' d o (some id)) σ' (by show unlockOb u'.h id = _; rw [eh]) k2 k3 (f'.ulN k1 k5 k4 k6)⟩
            | rt y =>
              intro u' eh x' r' w rw'
              obtain ⟨k1, k2, k3, k4, k5, k6⟩ := fin x' r'
              exact ⟨k1, e4 (ulV u' d o (some id)) (by show unlockOb u'.h id = _; rw [eh]) k2 k3 w (RepV.sub k4 _ _ rw')⟩
        · cases f with
          | next => obtain ⟨σ', H', I2, e, q⟩ := q; exact ⟨σ', _, I2.unlock e hn, q⟩
          | brk => obtain ⟨σ', H', I2, e, q⟩ := q; exact ⟨σ', _, I2.unlock e hn, q⟩
          | cont => obtain ⟨σ', H', I2, e, q⟩ := q; exact ⟨σ', _, I2.unlock e hn, q⟩
          | ret v => obtain ⟨x, σ', H', I2, r, e, q⟩ := q; exact ⟨x, σ', _, I2.unlock e hn, r, q⟩
end
end Pk

set_option maxRecDepth 100000
/-! Pk42: the script: cells = script[:most] in one def, for dice in _law_rounds(script, 1) in the law. -/
namespace Pk
open PySem PySem.Spec PyProof.Rows L2

/-- k = i[:j], i the script: the script's name is not told any more -/
def sScr (i j k : Nat) (c : CS) : CS := fun fr h => match fr[i]?, fr[j]? with
  | some (.val (.lst xs)), some (.val (.int m)) => if xs.length ≤ big then c ((fr.set i .no).set k (.val (.lst (sliceL xs none (some m))))) h else .bad
  | _, _ => .bad
/-- for t in f(script, 1): b; then c -/
def sForScr (O : Orc) (f i : Nat) (t : Tg) (b c : CS) : CS := fun fr h => match fr[i]? with
  | some (.val (.lst xs)) => (O f [.lst xs, .int 1] h).bind fun x h1 => match x with
    | .lst ys => sSeq (fun fr h => match forL t b ys fr h with
      | .ok (.nx f2) h2 => .ok (.nx f2) h2
      | .ok (.bk f2) h2 => .ok (.nx f2) h2
      | .ok (.rt v) h2 => .ok (.rt v) h2
      | .exc c h2 => .exc c h2
      | .bad => .bad) c (fr.set i .no) h1
    | _ => .bad
  | _ => .bad
section
variable {g : Gx} {X : Cx}
/-- the promise of the def that cuts the script -/
def spScr (g : Gx) (K : PySem.W.Frag) (F : List Val → Hv → Res Val) : Sp := fun vs H Q E => ∃ (a : Addr) (ns : List Int) (u : Vw), vs = [.ref a, .int 1] ∧ SqL K H a (ns.map V.int) ∧ u.H = H ∧ HR g Lx.no u ∧ Run g Lx.no (WK E) [] (RepV Lx.no) Q u (F [.lst (ns.map Val.int), .int 1] u.h)
/-- the promise of the law -/
def spLaw (g : Gx) (K : PySem.W.Frag) (F : List Val → Hv → Res Val) : Sp := fun vs H Q E => ∃ (a : Addr) (ns : List Int) (u : Vw), vs = [.ref a] ∧ SqL K H a (ns.map V.int) ∧ u.H = H ∧ HR g Lx.no u ∧ Run g Lx.no (WK E) [] (RepV Lx.no) Q u (F [.lst (ns.map Val.int)] u.h)
theorem ints_reps {l : Lx} {u : Vw} : ∀ ns : List Int, RepVs l u (ns.map Val.int) (ns.map V.int)
  | [] => rfl
  | n :: ns => ⟨.int n, ns.map V.int, rfl, rfl, ints_reps ns⟩
theorem SqL.ext' {K : PySem.W.Frag} {H H' : Hp} {a : Addr} {xs : List V} (h : SqL K H a xs) (e : H' = H) : SqL K H' a xs := e ▸ h
/-- cells = script[:most]; .. -/
def tScr (g : Gx) (K : PySem.W.Frag) (W : WX) (i j k : Nat) (c : CS) : TS := fun D σ H => ∃ (a : Addr) (ns : List Int) (m : Int) (z : Hp) (u : Vw) (fr : Fr), u.H = H ∧ HR g Lx.no u ∧ FR Lx.no z u (fr.set i .no) σ ∧ σ[i]? = some (some (.ref a)) ∧ σ[j]? = some (some (.int m)) ∧ SqL K H a (ns.map V.int) ∧
  RunS g Lx.no W z D u (c ((fr.set i .no).set k (.val (.lst (sliceL (ns.map Val.int) none (some m))))) u.h)
theorem ss_scr {W : WX} {rest : List Stmt} {x y : Str} {p1 p2 p3 p4 p5 p6 : Pos} {w : Str} {crest : CS} (i j k : Nat)
    (hN : X.N.Nodup) (hrest : SSs g Lx.no X W rest crest) (hi : X.N[i]? = some x := by rfl) (hj : X.N[j]? = some y := by rfl) (hk : X.N[k]? = some w := by rfl) (vx : Vis X.env.scope x := by first | exact Or.inl rfl | exact Or.inr (Or.inl rfl)) (vy : Vis X.env.scope y := by first | exact Or.inl rfl | exact Or.inr (Or.inl rfl))
    (lw : Loc X.env.scope w := by first | exact Or.inl rfl | exact Or.inr rfl) (fw : X.fn w = true ∨ X.env.scope.names.lookup w = some .local := by first | exact .inl rfl | exact .inr rfl)
    (hs : swapsWith (.Subscript (.Name x p2) (.Slice none (some (.Name y p3)) none p4) p5) (some (.Name w p1)) p6.line X.env = pure false := by rfl)
    (hdx : (x == ("__debug__" : Str)) = false := by decide) (hcx : (x == ("__classdict__" : Str)) = false := by decide) (hdy : (y == ("__debug__" : Str)) = false := by decide) (hcy : (y == ("__classdict__" : Str)) = false := by decide) :
    PSs X (.Assign [.Name w p1] (.Subscript (.Name x p2) (.Slice none (some (.Name y p3)) none p4) p5) p6 :: rest) (tScr g X.K W i j k crest) := by
  refine PSs.weak (pss_cons (ps_set (i := k) hN hk lw (pe_slice (r := rSlL X.K) sl_list (pe_var (i := i) hi vx hdx hcx) po_none (po_some (pe_var (i := j) hj vy hdy hcy))) hs fw) hrest) fun D σ H ⟨a, ns, m, z, u, fr, e1, e2, e3, hx, hm, hS, e4⟩ => ?_
  subst e1
  refine ⟨.ref a, hx, .int m, hm, m, rfl, a, ns.map V.int, rfl, hS, fun p hp => ?_⟩
  have key : sliceL (ns.map Val.int) none (some m) = (sliceL ns none (some m)).map Val.int := by unfold sliceL; simp
  have key2 : cutV (ns.map V.int) none (some m) = (sliceL ns none (some m)).map V.int := by rw [cut_eq]; unfold sliceL; simp
  rw [key2]
  obtain ⟨r2, x2⟩ := e2.newF (p := p) (o := .lst ((sliceL ns none (some m)).map V.int)) hp trivial
  have rx : RepV Lx.no ⟨u.ρ, fun b => u.F b ∨ b = p, upd u.H p (.lst ((sliceL ns none (some m)).map V.int)), u.h⟩ (.lst (sliceL (ns.map Val.int) none (some m))) (.ref p) := by
    rw [key]
    exact ⟨p, _, rfl, .inr rfl, upd_same, ints_reps _⟩
  have e5 := RunS.mono (x2.s z) e4
  exact ⟨z, _, _, rfl, r2, (e3.ext x2 e2).setV rx, e5⟩
/-- the loop over what was made of the script, and what follows -/
theorem loop_read {W : WX} {z : Hp} {D : Ends} {σ : Pk.St} {u1 : Vw} {fr : Fr} {t : Tg} {sb : CS} {xs : List Val} {J : It} {Al : Vw → Prop} (hS : SrcS g Lx.no J xs Al) (hal : Al u1) (r1 : HR g Lx.no u1) (f1 : FR Lx.no z u1 fr σ)
    (h1 : RunS g Lx.no W z { nx := D.nx, rt := D.rt, bk := D.nx } u1 (forL t sb xs fr u1.h)) :
    ∃ W' : Nat → Nat → Pk.St → Hp → Prop, (∃ m, W' 0 m σ u1.H) ∧ ∀ i m σ H, W' i m σ H → (J.stop i H ∧ D.nx σ H) ∨ (J.go i H ∧ ∃ N : Pk.St → Hp → Prop, (∀ σ' H', N σ' H' → ∃ m', m' < m ∧ W' (i + 1) m' σ' H') ∧ ∀ x H', J.yld i H x H' → gT g Lx.no t x σ H' fun σ2 H2 => tS g Lx.no W sb { D with nx := N, ct := N, bk := D.nx } σ2 H2) := by
  refine ⟨fun i m σ H => ∃ v fv, v.H = H ∧ HR g Lx.no v ∧ FR Lx.no z v fv σ ∧ Al v ∧ m = xs.length - i ∧ i ≤ xs.length ∧ RunS g Lx.no W z { nx := D.nx, rt := D.rt, bk := D.nx } v (forL t sb (xs.drop i) fv v.h), ⟨xs.length, u1, fr, rfl, r1, f1, hal, by simp, Nat.zero_le _, h1⟩, ?_⟩
  rintro i m σ' H' ⟨v, fv, rfl, r, f, al, rfl, hi, h⟩
  by_cases hlt : i < xs.length
  · have ei : xs[i]? = some xs[i] := by simp [hlt]
    rw [List.drop_eq_getElem_cons hlt] at h
    refine .inr ⟨hS.go v i _ al r ei, fun σ2 H2 => ∃ m', m' < xs.length - i ∧ ∃ w fw, w.H = H2 ∧ HR g Lx.no w ∧ FR Lx.no z w fw σ2 ∧ Al w ∧ m' = xs.length - (i + 1) ∧ i + 1 ≤ xs.length ∧ RunS g Lx.no W z { nx := D.nx, rt := D.rt, bk := D.nx } w (forL t sb (xs.drop (i + 1)) fw w.h), fun σ2 H2 h => h, fun y H2 hy => ?_⟩
    obtain ⟨w, rfl, ew, xw, rw', ry⟩ := hS.yld v i _ y H2 al r ei hy
    have h : RunS g Lx.no W z { nx := D.nx, rt := D.rt, bk := D.nx } w (forL t sb (xs[i] :: xs.drop (i + 1)) fv w.h) := by rw [ew]; exact RunS.mono (xw.s z) h
    unfold forL at h
    cases hb : t.bind xs[i] fv with
    | none => rw [hb] at h; exact (RunS.bad h).elim
    | some f2 =>
      rw [hb] at h
      refine ⟨z, w, fv, xs[i], f2, rfl, rw', f.ext xw r, ry, hb, fun σ3 f3 _ => ⟨z, w, f2, rfl, rw', f3, ?_⟩⟩
      have h : RunS g Lx.no W z { nx := D.nx, rt := D.rt, bk := D.nx } w ((sb f2 w.h).bind fun o h1 => match o with | .nx f3 => forL t sb (xs.drop (i + 1)) f3 h1 | o => .ok o h1) := h
      cases hsb : sb f2 w.h with
      | exc c hh => rw [hsb] at h; exact h
      | bad => rw [hsb] at h; exact h
      | ok o hh =>
        rw [hsb] at h
        cases o with
        | bk f4 => exact h
        | rt y => exact h
        | nx f4 => exact fun w2 σ4 eh2 x4 r4 f4' => ⟨_, by omega, w2, f4, rfl, r4, f4', hS.keepS z w w2 (hS.keep v w al r xw) rw' x4, rfl, hlt, by rw [eh2]; exact RunS.mono x4 h⟩
  · have ei : i = xs.length := by omega
    subst ei
    rw [List.drop_length] at h
    exact .inl ⟨hS.stop v al r, h v σ' rfl (ExS.refl z v) r f⟩
/-- for t in f(script, 1): b; then c -/
def tForScr (g : Gx) (K : PySem.W.Frag) (E : XK) (O : Orc) (f i : Nat) (t : Tg) (b c : CS) : TS := fun D σ H => ∃ (a : Addr) (ns : List Int) (z : Hp) (u : Vw) (fr : Fr), u.H = H ∧ HR g Lx.no u ∧ FR Lx.no z u (fr.set i .no) σ ∧ fr[i]? = some (.val (.lst (ns.map Val.int))) ∧ σ[i]? = some (some (.ref a)) ∧ SqL K H a (ns.map V.int) ∧
  RunS g Lx.no (WK E) z D u (sForScr O f i t b c fr u.h)
theorem ss_forScr {E : XK} {x : Str} {p q p1 pos ipos : Pos} {ip : Nat} {tg : Expr} {body rest : List Stmt} {t : Tg} {sb crest : CS} {O : Orc} {f k : Nat} {fa : Addr} {fd : FuncData} {ps : List Str} {sc : Str} (i : Nat)
    (F : FnOk X.prog X.w X.K X.mg X.base (L2.CX X.prog X.w) k fa fd ps (spScr g X.K (O f))) (hr : Room k X.A) (hg : Gl X x) (hm : X.mg x = some (.ref fa)) (hk : PySem.W.keepIn X.K (.ref fa) = true) (hb : L2.Binds X.K fd ps []) (hx : Passes (L2.CX X.prog X.w) X E)
    (hp : PassesOwn (model X.prog X.w) X.A X.env X.xe) (hc : X.calm = true) (hgt : PG X tg (gT g Lx.no t)) (hbody : SSs g Lx.no X (WK E) body sb) (hrest : SSs g Lx.no X (WK E) rest crest)
    (hi : X.N[i]? = some sc := by rfl) (vi : Vis X.env.scope sc := by first | exact Or.inl rfl | exact Or.inr (Or.inl rfl)) (hdb : (x == ("__debug__" : Str)) = false := by decide) (hds : (sc == ("__debug__" : Str)) = false := by decide) (hcs : (sc == ("__classdict__" : Str)) = false := by decide)
    (h1 : starEach [.Name sc p1, .Constant (.int 1) ip ipos] X.env = (false, eval (.Name sc p1) X.env) :: starEach [.Constant (.int 1) ip ipos] X.env := by rfl) (h2 : starEach [.Constant (.int 1) ip ipos] X.env = (false, eval (.Constant (.int 1) ip ipos) X.env) :: starEach [] X.env := by rfl) (hpl : (backTo q (starEach [.Constant (.int 1) ip ipos] X.env)).any (·.1) = false := by rfl)
    (hs : ∀ v, foldedSetIterable (.Call (.Name x p) [.Name sc p1, .Constant (.int 1) ip ipos] [] q) X.env v = pure v := by intro _; rfl) :
    PSs X (.For tg (.Call (.Name x p) [.Name sc p1, .Constant (.int 1) ip ipos] [] q) body [] pos :: rest) (tForScr g X.K E O f i t sb crest) := by
  refine PSs.weak (pss_cons (ps_for hp hc (pi_list (pe_call F hr hg hm hk hb .nil hx (pa_cons (pe_var (i := i) hi vi hds hcs) (pa_cons pe_int pa_nil h2) h1) hdb h1 hpl)) hgt hbody hs) hrest) fun D σ H ⟨a, ns, z, u, fr, e1, e2, e3, hsl, hσ, hS, e4⟩ => ?_
  subst e1
  unfold sForScr at e4
  rw [hsl] at e4
  have e4 : RunS g Lx.no (WK E) z D u ((O f [.lst (ns.map Val.int), .int 1] u.h).bind fun x h1 => match x with
    | .lst ys => sSeq (fun fr h => match forL t sb ys fr h with
      | .ok (.nx f2) h2 => .ok (.nx f2) h2
      | .ok (.bk f2) h2 => .ok (.nx f2) h2
      | .ok (.rt v) h2 => .ok (.rt v) h2
      | .exc c h2 => .exc c h2
      | .bad => .bad) crest (fr.set i .no) h1
    | _ => .bad) := e4
  refine ⟨.ref a, hσ, a, ns, u, rfl, hS, rfl, e2, ?_⟩
  cases q : O f [.lst (ns.map Val.int), .int 1] u.h with
  | exc c hh => rw [q] at e4; exact fun u1 h x r => e4 u1 [] h (x.s z) r
  | bad => rw [q] at e4; exact e4
  | ok y hh =>
    rw [q] at e4
    intro u1 eh x1 r1 v rv
    cases y with
    | lst ys =>
      have e4 : RunS g Lx.no (WK E) z D u (sSeq (fun fr h => match forL t sb ys fr h with
        | .ok (.nx f2) h2 => .ok (.nx f2) h2
        | .ok (.bk f2) h2 => .ok (.nx f2) h2
        | .ok (.rt v) h2 => .ok (.rt v) h2
        | .exc c h2 => .exc c h2
        | .bad => .bad) crest (fr.set i .no) hh) := e4
      obtain ⟨b, vs, k1, k2, k3, k4⟩ := id rv
      refine ⟨b, k1, ⟨vs, SqL.of k3⟩, ?_⟩
      have f1 := e3.ext x1 e2
      have e5 := RunS.mono (x1.s z) e4
      rw [← eh] at e5
      have e6 := RunS.seq e5
      have e7 := for_ends (lk := none) r1 trivial (D := { D with nx := tS g Lx.no (WK E) crest D }) (r := forL t sb ys (fr.set i .no) u1.h) e6
      obtain ⟨b', k1', sA⟩ := src_seq (K := X.K) r1 rv (xs := ys) rfl
      rw [k1'] at k1
      cases k1
      rcases sA with ⟨_, Al, s1, _, s3⟩ | ⟨⟨vs', s1⟩, _⟩
      · exact loop_read (D := { D with nx := tS g Lx.no (WK E) crest D }) s1 s3 r1 f1 e7
      · rw [k3] at s1; cases s1
    | _ => exact (RunS.bad e4).elim
end
end Pk

set_option maxRecDepth 100000
/-! Pk43: promises of defs, levels, the head's facts by names. -/
namespace Pk
open PySem PySem.Spec PyProof.Rows L2

section
variable {g : Gx} {P : Program} {w : World} {K : PySem.W.Frag} {mg : Str → Option Value} {base : Heap} {x qual : Str} {params : Arguments} {body : List Stmt} {scope : Scope} {dvs : List V} {kws : List (Str × V)} {f : Addr} {fd : FuncData} {N ps : List Str} {k : Nat} {d : Df}
/-- a def keeps its promise; its code object is the one at codeOf -/
theorem fn_runD {at_ : He.Defn} (F : FunD K x qual params body scope dvs kws (He.fAd K at_) fd) (S : FnScope N ps scope) (hp : d.np = ps.length) (hn : d.nn = N.length) (hle : d.np ≤ d.nn)
    (hb : ∀ (cdv : Value), cdv = .ref (He.codeOf K at_) → ∀ (A : Around) (outer : List Env) (s : Shared) (H : Hp) (E : XK), Room k (A.deeper (envOfC qual scope s.heap.objs.size (He.fAd K at_) cdv)) → SSs g Lx.no (cxOf (L2.CX P w) P w K mg base N qual scope (He.fAd K at_) cdv A outer s H E) (WK E) body d.body) :
    FnOk P w K mg base (L2.CX P w) (k + 1) (He.fAd K at_) fd ps (spO g ps.length (runD d)) := by
  obtain ⟨oc, od, dV, kV, doc, pm, an, cdv, ct, osl, rfl, lk, hcd, _, _⟩ := F.ex
  obtain ⟨c, ec⟩ := He.codeIn_ref hcd
  have ec2 : cdv = .ref (He.codeOf K at_) := by
    rw [ec, He.codeOf_eq lk (c := c) ec]
  refine fn_of lk hcd S (fun vs H Q E h => h.1) fun A outer s H vs Q E hr ⟨hl, u, xs, e1, e2, e3, e4⟩ => ⟨_, hb cdv ec2 A outer s H E hr, ?_⟩
  have hx : xs.length = d.np := by rw [e3.length, hl, hp]
  refine ⟨u.H, u, startF d xs, e1, e2, start_fr hn (by omega) e3, ?_⟩
  unfold runD at e4
  rw [if_pos hx] at e4
  cases q : d.body (startF d xs) u.h with
  | exc c hh => rw [q] at e4; exact fun u' σ' e x r => e4 u' e x.all r
  | bad => rw [q] at e4; exact e4
  | ok o hh =>
    rw [q] at e4
    cases o with
    | nx f2 => exact fun u' σ' e x r _ => e4 u' e x.all r .non rfl
    | rt v => exact fun u' e x r v rv => e4 u' e x.all r v rv
    | bk f2 => exact (Run.bad e4).elim
theorem run_end {Q : VK} {E : XK} {u : Vw} {r : Res Out} (e4 : Run g Lx.no (WK E) [] (RepV Lx.no) Q u (r.bind fun o h1 => match o with | .nx _ => .ok .non h1 | .rt v => .ok v h1 | .bk _ => .bad)) : RunS g Lx.no (WK E) u.H { nx := fun _ H' => Q .non H', rt := Q } u r := by
  cases r with
  | exc c hh => exact fun u' σ' e x r => e4 u' e x.all r
  | bad => exact e4
  | ok o hh =>
    cases o with
    | nx f2 => exact fun u' σ' e x r _ => e4 u' e x.all r .non rfl
    | rt v => exact fun u' e x r v rv => e4 u' e x.all r v rv
    | bk f2 => exact (Run.bad e4).elim
/-- the def that cuts the script -/
theorem fn_scr {at_ : He.Defn} {c : CS} {j k' : Nat} (F : FunD K x qual params body scope dvs kws (He.fAd K at_) fd) (S : FnScope N ps scope) (hp : ps.length = 2) (hn : 3 ≤ N.length)
    (hb : ∀ (cdv : Value) (A : Around) (outer : List Env) (s : Shared) (H : Hp) (E : XK), Room k (A.deeper (envOfC qual scope s.heap.objs.size (He.fAd K at_) cdv)) → PSs (cxOf (L2.CX P w) P w K mg base N qual scope (He.fAd K at_) cdv A outer s H E) body (tScr g K (WK E) 0 1 2 c)) :
    FnOk P w K mg base (L2.CX P w) (k + 1) (He.fAd K at_) fd ps (spScr g K (runD ⟨2, N.length, sScr 0 1 2 c⟩)) := by
  refine F.ok S (fun vs H Q E ⟨a, ns, u, e, _⟩ => by rw [e, hp]; rfl) fun cdv A outer s H vs Q E hr ⟨a, ns, u, ev, hS, e1, e2, e4⟩ => ⟨_, hb cdv A outer s H E hr, ?_⟩
  subst ev
  have e4 : Run g Lx.no (WK E) [] (RepV Lx.no) Q u ((sScr 0 1 2 c (startF ⟨2, N.length, sScr 0 1 2 c⟩ [.lst (ns.map .int), .int 1]) u.h).bind fun o h1 => match o with | .nx _ => .ok .non h1 | .rt v => .ok v h1 | .bk _ => .bad) := e4
  have e5 := run_end e4
  have e5 : RunS g Lx.no (WK E) u.H _ u (if (ns.map Val.int).length ≤ big then c (((startF ⟨2, N.length, sScr 0 1 2 c⟩ [.lst (ns.map .int), .int 1]).set 0 .no).set 2 (.val (.lst (sliceL (ns.map Val.int) none (some 1))))) u.h else .bad) := e5
  split at e5
  · refine ⟨a, ns, 1, u.H, u, startF ⟨2, N.length, sScr 0 1 2 c⟩ [.lst (ns.map .int), .int 1], e1, e2, ?_, rfl, rfl, hS, e5⟩
    have f0 : FR Lx.no u.H u (startF ⟨2, N.length, sScr 0 1 2 c⟩ [.non, .int 1]) (start N [.non, .int 1]) := start_fr rfl (by show 2 ≤ N.length; omega) ⟨_, _, rfl, rfl, _, _, rfl, rfl, rfl⟩
    exact f0.setNo (i := 0) (v := some (.ref a))
  · exact (RunS.bad e5).elim
/-- the law -/
theorem fn_law {at_ : He.Defn} {O : Orc} {fi : Nat} {t : Tg} {b c : CS} (F : FunD K x qual params body scope dvs kws (He.fAd K at_) fd) (S : FnScope N ps scope) (hp : ps.length = 1) (hn : 1 ≤ N.length)
    (hb : ∀ (cdv : Value), cdv = .ref (He.codeOf K at_) → ∀ (A : Around) (outer : List Env) (s : Shared) (H : Hp) (E : XK), Room k (A.deeper (envOfC qual scope s.heap.objs.size (He.fAd K at_) cdv)) → PSs (cxOf (L2.CX P w) P w K mg base N qual scope (He.fAd K at_) cdv A outer s H E) body (tForScr g K E O fi 0 t b c)) :
    FnOk P w K mg base (L2.CX P w) (k + 1) (He.fAd K at_) fd ps (spLaw g K (runD ⟨1, N.length, sForScr O fi 0 t b c⟩)) := by
  obtain ⟨oc, od, dV, kV, doc, pm, an, cdv, ct, osl, rfl, lk, hcd, _, _⟩ := F.ex
  obtain ⟨cc, ec⟩ := He.codeIn_ref hcd
  have ec2 : cdv = .ref (He.codeOf K at_) := by
    rw [ec, He.codeOf_eq lk (c := cc) ec]
  refine fn_of lk hcd S (fun vs H Q E ⟨a, ns, u, e, _⟩ => by rw [e, hp]; rfl) fun A outer s H vs Q E hr ⟨a, ns, u, ev, hS, e1, e2, e4⟩ => ⟨_, hb cdv ec2 A outer s H E hr, ?_⟩
  subst ev
  have e4 : Run g Lx.no (WK E) [] (RepV Lx.no) Q u ((sForScr O fi 0 t b c (startF ⟨1, N.length, sForScr O fi 0 t b c⟩ [.lst (ns.map .int)]) u.h).bind fun o h1 => match o with | .nx _ => .ok .non h1 | .rt v => .ok v h1 | .bk _ => .bad) := e4
  have e5 := run_end e4
  refine ⟨a, ns, u.H, u, startF ⟨1, N.length, sForScr O fi 0 t b c⟩ [.lst (ns.map .int)], e1, e2, ?_, rfl, rfl, hS, e5⟩
  have f0 : FR Lx.no u.H u (startF ⟨1, N.length, sForScr O fi 0 t b c⟩ [.non]) (start N [.non]) := start_fr rfl (by show 1 ≤ N.length; omega) ⟨_, _, rfl, rfl, rfl⟩
  exact f0.setNo (i := 0) (v := some (.ref a))
/-- at level 0 nothing is promised -/
theorem fn_zero {n : Nat} {F : List Val → Hv → Res Val} (h : ∀ xs hh, F xs hh = .bad) : FnOk P w K mg base (L2.CX P w) 0 f fd ps (spO g ps.length F) :=
  ⟨fun vs H Q E h => h.1, fun A outer s H args us vs Q E hr e0 hb hv ⟨_, u, xs, _, _, _, e⟩ => by rw [h] at e; exact e.elim⟩
theorem fn_zeroS {F : List Val → Hv → Res Val} (hp : ps.length = 2) (h : ∀ xs hh, F xs hh = .bad) : FnOk P w K mg base (L2.CX P w) 0 f fd ps (spScr g K F) :=
  ⟨fun vs H Q E ⟨a, ns, u, e, _⟩ => by rw [e, hp]; rfl, fun A outer s H args us vs Q E hr e0 hb hv ⟨a, ns, u, _, _, _, _, e⟩ => by rw [h] at e; exact e.elim⟩
end

/-! ### the head -/
theorem getD_at {α : Type} {l : List α} {n : Nat} (d : α) (h : n < l.length) : l.getD n d = l[n] := by rw [List.getD_eq_getElem?_getD, List.getElem?_eq_getElem h]; rfl
/-- what is told of a text: its classes, fields, errors, defs, constants, built-ins -/
structure Info where
  c0 : Str
  classes : List Str
  fields : List Str
  errs : List Str
  mkrs : List Str
  meths : List (Str × Str)
  exms : List (Str × Str)
  funs : List Str
  consts : List (Str × Int)
  blts : List Str
  tf : List (He.Defn × Str)
  nd : fields.Nodup
namespace Info
variable (i : Info)
def fa : List He.Fa := i.classes.map .cls ++ (i.classes.flatMap fun C => i.fields.map (.noat C)) ++ i.mkrs.map .mkr ++ i.classes.map .glo ++ i.meths.map (fun p => .meth p.1 p.2) ++ i.errs.map .exc ++ i.errs.map .glo ++ i.exms.map (fun p => .exm p.1 p.2 true) ++ i.funs.map .glo ++ i.consts.map (fun p => .int p.1 p.2) ++ i.blts.map .free ++ i.funs.map .keep
def gx (K : PySem.W.Frag) : Gx where
  cls c := He.ga K (i.classes.getD c i.c0)
  fld f := i.fields.getD f ""
  err k := .ref (He.ga K (i.errs.getD k ""))
  tabs := i.tf.map fun p => ((He.cT K p.1).2, p.2)
  nf := i.fields.length
  fldInj := fun a ha b hb e => by
    rw [getD_at _ ha, getD_at _ hb] at e
    exact (List.getElem_inj i.nd).mp e
/-- the tables stand apart -/
def apart (K : PySem.W.Frag) : Bool := decide ((i.tf.map fun p => (He.cT K p.1).2).Nodup) && decide (mainGlobals ∉ i.tf.map fun p => (He.cT K p.1).2)
variable {i} {K : PySem.W.Frag} {fn : List He.DefD} {h : Heap} {mg : Str → Option Value} (c : He.SaysD i.fa fn K)
include c
theorem cls_ {C : Str} (hC : C ∈ i.classes) : Cls K (He.ga K C) := He.cls_ok (c.facts (f := .cls C) (by simp [fa, hC]))
theorem noat {C f : Str} (hC : C ∈ i.classes) (hf : f ∈ i.fields) : NoAttr K (He.ga K C) f := He.noat_ok (c.facts (f := .noat C f) (by simp [fa, hC, hf]))
theorem kc (h0 : i.c0 ∈ i.classes) : ClsOk (i.gx K) K := by
  have mem : ∀ c, i.classes.getD c i.c0 ∈ i.classes := fun c => by
    by_cases q : c < i.classes.length
    · rw [getD_at _ q]; exact List.getElem_mem q
    · rw [List.getD_eq_getElem?_getD, List.getElem?_eq_none (by omega)]; exact h0
  refine ⟨fun k => cls_ c (mem k), fun k f hf => noat c (mem k) ?_⟩
  have hf : f < i.fields.length := hf
  show i.fields.getD f "" ∈ i.fields
  rw [getD_at _ hf]; exact List.getElem_mem hf
theorem meth {C m : Str} (hm : (C, m) ∈ i.meths) : Meth K (He.ga K C) m (He.ma K (He.ga K C) m) := He.meth_ok (c.facts (f := .meth C m) (by simp [fa, hm]))
theorem mkr {C : Str} (hC : C ∈ i.mkrs) : Mk K (He.ga K C) (He.ma K (He.ga K C) "__init__") := He.mkr_ok (c.facts (f := .mkr C) (by simp [fa, hC]))
theorem gloC (X : K.In h) (G : h.Ns mainGlobals mg) {C : Str} (hC : C ∈ i.classes) : mg C = some (.ref (He.ga K C)) := He.glo_ok X G (c.facts (f := .glo C) (by simp [fa, hC]))
theorem gloF (X : K.In h) (G : h.Ns mainGlobals mg) {C : Str} (hC : C ∈ i.funs) : mg C = some (.ref (He.ga K C)) := He.glo_ok X G (c.facts (f := .glo C) (by simp [fa, hC]))
theorem gloE (X : K.In h) (G : h.Ns mainGlobals mg) {C : Str} (hC : C ∈ i.errs) : mg C = some (.ref (He.ga K C)) := He.glo_ok X G (c.facts (f := .glo C) (by simp [fa, hC]))
theorem keepF {C : Str} (hC : C ∈ i.funs) : PySem.W.keepIn K (.ref (He.ga K C)) = true := He.keep_ok (c.facts (f := .keep C) (by simp [fa, hC]))
theorem free (X : K.In h) (G : h.Ns mainGlobals mg) {C : Str} (hC : C ∈ i.blts) : mg C = none := He.free_ok X G (c.facts (f := .free C) (by simp [fa, hC]))
theorem const (X : K.In h) (G : h.Ns mainGlobals mg) {C : Str} {n : Int} (hC : (C, n) ∈ i.consts) : ∃ t, mg C = some (.int n t) := He.int_ok X G (c.facts (f := .int C n) (by simp [fa, hC]))
theorem err (X : K.In h) (G : h.Ns mainGlobals mg) {C : Str} {k : Nat} (hk : i.errs[k]? = some C) : ErrF (i.gx K) K mg C k := by
  have hC := List.mem_of_getElem? hk
  obtain ⟨e1, e2, e3, e4⟩ := He.exc_ok (c.facts (f := .exc C) (by simp [fa, hC]))
  have e5 := He.glo_ok X G (c.facts (f := .glo C) (by simp [fa, hC]))
  refine ⟨He.ga K C, _, _, _, _, ?_, PySem.F.excBase_ValueError, e1, e5, e2, e3, e4⟩
  show Value.ref (He.ga K (i.errs.getD k "")) = _
  rw [List.getD_eq_getElem?_getD, hk]
  rfl
theorem exm {k : Nat} {C D : Str} (hk : i.errs[k]? = some C) (hC : (C, D) ∈ i.exms) : PySem.W.exmOne K ((i.gx K).err k) (.ref (He.ga K D)) = some true := by
  have e := He.exm_ok (c.facts (f := .exm C D true) (by simp [fa, hC]))
  show PySem.W.exmOne K (.ref (He.ga K (i.errs.getD k ""))) _ = _
  rw [List.getD_eq_getElem?_getD, hk]
  exact e
omit c
theorem tab_mem {p : He.Defn × Str} (hp : p ∈ i.tf) : ((He.cT K p.1).2, p.2) ∈ (i.gx K).tabs := List.mem_map.mpr ⟨p, hp, rfl⟩
theorem tab_one (ha : i.apart K = true) {p : He.Defn × Str} (hp : p ∈ i.tf) : ∀ q ∈ (i.gx K).tabs, q.1 = (He.cT K p.1).2 → q.2 = p.2 := by
  intro q hq e
  obtain ⟨r, hr, rfl⟩ := List.mem_map.mp hq
  obtain ⟨h1, _⟩ := He.ba ha
  have nd : (i.tf.map fun p => (He.cT K p.1).2).Nodup := of_decide_eq_true h1
  obtain ⟨a, ha', ea⟩ := List.mem_iff_getElem.mp hp
  obtain ⟨b, hb', eb⟩ := List.mem_iff_getElem.mp hr
  have hab : a = b := by
    have la : a < (i.tf.map fun p => (He.cT K p.1).2).length := by rw [List.length_map]; exact ha'
    have lb : b < (i.tf.map fun p => (He.cT K p.1).2).length := by rw [List.length_map]; exact hb'
    refine (List.getElem_inj nd (h₀ := la) (h₁ := lb)).mp ?_
    rw [List.getElem_map, List.getElem_map, ea, eb]
    exact e.symm
  subst hab
  rw [ea] at eb
  rw [eb]
end Info
end Pk

set_option maxRecDepth 100000
/-! Pk44: the law's end. -/
namespace Pk
open PySem PySem.Spec PyProof.Rows L2
theorem FunD.uniq {K : PySem.W.Frag} {x qual : Str} {params : Arguments} {body : List Stmt} {scope : Scope} {dvs dvs' : List V} {kws kws' : List (Str × V)} {f : Addr} {fd fd' : FuncData} (h : FunD K x qual params body scope dvs kws f fd) (h' : FunD K x qual params body scope dvs' kws' f fd') : fd = fd' := by
  obtain ⟨oc, od, dV, kV, doc, pm, an, cdv, ct, osl, e1, lk, _⟩ := h.ex
  obtain ⟨oc', od', dV', kV', doc', pm', an', cdv', ct', osl', e1', lk', _⟩ := h'.ex
  rw [lk] at lk'
  cases lk'
  rfl
theorem law_sp {inf : Info} {K : PySem.W.Frag} {F : List Val → Hv → Res Val} {tf : List He.Defn} (htf : tf = inf.tf.map (·.1)) {H : Hp} {a : Addr} {ns : List Int} (hp : ∃ h, F [.lst (ns.map Val.int)] [] = .ok (.bl true) h) (hT : ∀ p ∈ tf.map (He.cT K), H p.2 = some (.tbl #[])) (hS : SqL K H a (ns.map V.int)) :
    spLaw (inf.gx K) K F [.ref a] H (fun v _ => v = .bl true) fun _ _ _ => False := by
  obtain ⟨h, e⟩ := hp
  refine ⟨a, ns, ⟨fun _ => none, fun _ => False, H, []⟩, rfl, hS, rfl, ⟨fun id a q => (by cases q), fun i j a q => (by cases q), fun id o q => (by simp at q), fun a q => q.elim, fun p hp => ?_⟩, ?_⟩
  · obtain ⟨q, hq, e⟩ := List.mem_map.mp hp
    subst e
    refine LamX.TabS.nil (hT (He.cT K q.1) ?_)
    rw [htf]
    exact List.mem_map.mpr ⟨q.1, List.mem_map.mpr ⟨q, hq, rfl⟩, rfl⟩
  · show Run _ _ _ _ _ _ _ (F [.lst (ns.map Val.int)] [])
    rw [e]
    exact fun u' _ _ _ v rv => rv
end Pk

/-! Pk45: what a code gives, as rewriting rules. -/
namespace Pk
open PySem

/-- what comes behind is not looked at before its turn -/
structure Tag {γ : Type} (f : γ) : Type where
def Res.bnd {α β : Type} (r : Res α) (f : α → Hv → Res β) (_t : Tag f := ⟨⟩) : Res β := r.bind f
theorem bind_ok {α β : Type} (a : α) (h : Hv) (f : α → Hv → Res β) : (Res.ok a h).bind f = f a h := rfl
@[simp ↓] theorem bind_bnd {α β : Type} (r : Res α) (f : α → Hv → Res β) : r.bind f = r.bnd f := rfl
@[simp] theorem bnd_ok {α β : Type} (a : α) (h : Hv) (f : α → Hv → Res β) (t : Tag f) : (Res.ok a h).bnd f t = f a h := rfl
@[simp] theorem bnd_exc {α β : Type} (c : Nat) (h : Hv) (f : α → Hv → Res β) (t : Tag f) : (Res.exc c h : Res α).bnd f t = .exc c h := rfl
@[simp] theorem bnd_bad {α β : Type} (f : α → Hv → Res β) (t : Tag f) : (Res.bad : Res α).bnd f t = .bad := rfl
@[simp] theorem calm_ok {α : Type} (a : α) (h : Hv) : (Res.ok a h).calm = .ok a h := rfl
@[simp] theorem calmly_ok {α : Type} (a : α) (h : Hv) : (Res.ok a h).calmly = .ok a h := rfl
/-! ### the tests -/
@[simp] theorem ceq_str (h : Hv) (a b : Str) : opCmp h .eq (.str a) (.str b) = some (decide (a = b)) := by simp [opCmp, eqV, derefV, Val.data, Val.dep, Val.eqv]; rfl
@[simp] theorem ceq_int (h : Hv) (a b : Int) : opCmp h .eq (.int a) (.int b) = some (decide (a = b)) := by simp [opCmp, eqV, derefV, Val.data, Val.dep, Val.eqv]; rfl
@[simp] theorem ceq_bl (h : Hv) (a b : Bool) : opCmp h .eq (.bl a) (.bl b) = some (a == b) := by simp [opCmp, eqV, derefV, Val.data, Val.dep, Val.eqv]
@[simp] theorem cne_str (h : Hv) (a b : Str) : opCmp h .ne (.str a) (.str b) = some (!decide (a = b)) := by simp [opCmp, eqV, derefV, Val.data, Val.dep, Val.eqv]; rfl
@[simp] theorem cne_int (h : Hv) (a b : Int) : opCmp h .ne (.int a) (.int b) = some (!decide (a = b)) := by simp [opCmp, eqV, derefV, Val.data, Val.dep, Val.eqv]; rfl
@[simp] theorem cne_bl (h : Hv) (a b : Bool) : opCmp h .ne (.bl a) (.bl b) = some (!(a == b)) := by simp [opCmp, eqV, derefV, Val.data, Val.dep, Val.eqv]
@[simp] theorem clt_int (h : Hv) (a b : Int) : opCmp h .lt (.int a) (.int b) = some (decide (a < b)) := by simp [opCmp, ltV, Val.data, Val.dep, Val.alike, Val.lt]
@[simp] theorem cgt_int (h : Hv) (a b : Int) : opCmp h .gt (.int a) (.int b) = some (decide (b < a)) := by simp [opCmp, ltV, Val.data, Val.dep, Val.alike, Val.lt]
@[simp] theorem cle_int (h : Hv) (a b : Int) : opCmp h .le (.int a) (.int b) = some (!decide (b < a)) := by simp [opCmp, ltV, Val.data, Val.dep, Val.alike, Val.lt]
@[simp] theorem cge_int (h : Hv) (a b : Int) : opCmp h .ge (.int a) (.int b) = some (!decide (a < b)) := by simp [opCmp, ltV, Val.data, Val.dep, Val.alike, Val.lt]
/-! ### the operators -/
@[simp] theorem badd_int (h : Hv) (a b : Int) : opBin h .add (.int a) (.int b) = some (.int (a + b)) := rfl
@[simp] theorem bsub_int (h : Hv) (a b : Int) : opBin h .sub (.int a) (.int b) = some (.int (a - b)) := rfl
@[simp] theorem bmul_int (h : Hv) (a b : Int) : opBin h .mul (.int a) (.int b) = if smallZ a || smallZ b then some (.int (a * b)) else none := rfl
@[simp] theorem bdiv_int (h : Hv) (a b : Int) : opBin h .fdiv (.int a) (.int b) = if b ≠ 0 ∧ b.natAbs < 1073741824 then some (.int (a.fdiv b)) else none := rfl
@[simp] theorem bmod_int (h : Hv) (a b : Int) : opBin h .mod (.int a) (.int b) = if b ≠ 0 then some (.int (a.fmod b)) else none := rfl
@[simp] theorem badd_str (h : Hv) (a b : Str) : opBin h .add (.str a) (.str b) = if a.length + b.length ≤ big then some (.str (a ++ b)) else none := rfl
@[simp] theorem badd_tup (h : Hv) (a b : List Val) : opBin h .add (.tup a) (.tup b) = if a.length + b.length ≤ big then some (.tup (a ++ b)) else none := rfl
@[simp] theorem badd_lst (h : Hv) (a b : List Val) : opBin h .add (.lst a) (.lst b) = if a.length + b.length ≤ big then some (.lst (a ++ b)) else none := rfl
@[simp] theorem bmul_lst (h : Hv) (a : List Val) (n : Int) : opBin h .mul (.lst a) (.int n) = if -(2 ^ 62 : Int) ≤ n ∧ n < 2 ^ 62 ∧ a.length * n.toNat ≤ big then some (.lst (repL a n.toNat)) else none := rfl
/-! ### expressions -/
@[simp] theorem cK_ap (v : Val) (fr : Fr) (h : Hv) : cK v fr h = .ok v h := rfl
@[simp] theorem cV_ap (i : Nat) (fr : Fr) (h : Hv) : cV i fr h = (match fr[i]? with | some (.val v) => .ok v h | _ => .bad) := rfl
@[simp] theorem cA_ap (i : Nat) (fr : Fr) (h : Hv) : cA i fr h = (match fr[i]? with | some (.acl _ xs) => .ok (.lst xs) h | some (.acd _ kvs) => .ok (.dct kvs) h | _ => .bad) := rfl
@[simp] theorem cs0_ap (fr : Fr) (h : Hv) : cs0 fr h = .ok [] h := rfl
@[simp] theorem csC_ap (a : C) (r : CL) (fr : Fr) (h : Hv) : csC a r fr h = (a fr h).bnd fun x h1 => (r fr h1).bnd fun xs h2 => .ok (x :: xs) h2 := rfl
@[simp] theorem cTup_ap (r : CL) (fr : Fr) (h : Hv) : cTup r fr h = (r fr h).bnd fun xs h1 => if xs.length ≤ big then .ok (.tup xs) h1 else .bad := rfl
@[simp] theorem fLst_ap (r : CL) (fr : Fr) (h : Hv) : fLst r fr h = (r fr h).bnd fun xs h1 => if xs.length ≤ big then .ok (.l xs) h1 else .bad := rfl
@[simp] theorem cFrz_ap (f : CF) (fr : Fr) (h : Hv) : cFrz f fr h = (f fr h).bnd fun c h1 => .ok c.val h1 := rfl
@[simp] theorem cMk_ap (f : CF) (fr : Fr) (h : Hv) : cMk f fr h = (f fr h).bnd fun c h1 => .ok (.ref h1.length) (h1 ++ [c.ob]) := rfl
@[simp] theorem lval (xs : List Val) : (Cont.l xs).val = .lst xs := rfl
@[simp] theorem dval (xs : List (Val × Val)) : (Cont.d xs).val = .dct xs := rfl
@[simp] theorem lob (xs : List Val) : (Cont.l xs).ob = .lst 0 xs := rfl
@[simp] theorem dob (xs : List (Val × Val)) : (Cont.d xs).ob = .dct 0 xs := rfl
@[simp] theorem lsl (xs : List Val) : (Cont.l xs).sl = .acl 0 xs := rfl
@[simp] theorem dsl (xs : List (Val × Val)) : (Cont.d xs).sl = .acd 0 xs := rfl
@[simp] theorem fDct0_ap (fr : Fr) (h : Hv) : fDct [] fr h = .ok (.d []) h := rfl
@[simp] theorem lift_some (v : Val) (h : Hv) : lift (some v) h = .ok v h := rfl
@[simp] theorem lift_none (h : Hv) : lift none h = .bad := rfl
@[simp] theorem liftB_some' (v : Bool) (h : Hv) : liftB (some v) h = .ok (.bl v) h := rfl
@[simp] theorem liftB_none' (h : Hv) : liftB none h = .bad := rfl
@[simp] theorem cBin_ap (o : Bin) (a b : C) (fr : Fr) (h : Hv) : cBin o a b fr h = (a fr h).bnd fun x h1 => (b fr h1).bnd fun y h2 => lift (opBin h2 o x y) h2 := rfl
@[simp] theorem cNeg_ap (a : C) (fr : Fr) (h : Hv) : cNeg a fr h = (a fr h).bnd fun x h1 => match x with | .int i => .ok (.int (-i)) h1 | _ => .bad := rfl
@[simp] theorem cNot_ap (a : C) (fr : Fr) (h : Hv) : cNot a fr h = (a fr h).bnd fun x h1 => match x with | .bl b => .ok (.bl (!b)) h1 | _ => .bad := rfl
@[simp] theorem cCmp_ap (o : Cmp) (a b : C) (fr : Fr) (h : Hv) : cCmp o a b fr h = (a fr h).bnd fun x h1 => (b fr h1).bnd fun y h2 => liftB (opCmp h2 o x y) h2 := rfl
@[simp] theorem cChain_ap (o p : Cmp) (a b c : C) (fr : Fr) (h : Hv) : cChain o p a b c fr h = (a fr h).bnd fun x h1 => (b fr h1).bnd fun y h2 => match opCmp h2 o x y with
  | some true => (c fr h2).bnd fun z h3 => liftB (opCmp h3 p y z) h3
  | some false => .ok (.bl false) h2
  | none => .bad := rfl
@[simp] theorem cAnd_ap (a b : C) (fr : Fr) (h : Hv) : cAnd a b fr h = (a fr h).bnd fun x h1 => match x with | .bl true => b fr h1 | .bl false => .ok (.bl false) h1 | _ => .bad := rfl
@[simp] theorem cOr_ap (a b : C) (fr : Fr) (h : Hv) : cOr a b fr h = (a fr h).bnd fun x h1 => match x with | .bl true => .ok (.bl true) h1 | .bl false => b fr h1 | _ => .bad := rfl
@[simp] theorem cIf_ap (c a b : C) (fr : Fr) (h : Hv) : cIf c a b fr h = (c fr h).bnd fun x h1 => match x with | .bl true => a fr h1 | .bl false => b fr h1 | _ => .bad := rfl
@[simp] theorem fIf_ap (c : C) (a b : CF) (fr : Fr) (h : Hv) : fIf c a b fr h = (c fr h).bnd fun x h1 => match x with | .bl true => a fr h1 | .bl false => b fr h1 | _ => .bad := rfl
@[simp] theorem cIdx_ap (a i : C) (fr : Fr) (h : Hv) : cIdx a i fr h = (a fr h).bnd fun x h1 => (i fr h1).bnd fun y h2 => lift (opIdx h2 x y) h2 := rfl
@[simp] theorem cFld_ap (a : C) (f : Nat) (fr : Fr) (h : Hv) : cFld a f fr h = (a fr h).bnd fun x h1 => match x with | .ref id => (match h1[id]? with | some (.ins _ fs) => lift (fget fs f) h1 | _ => .bad) | _ => .bad := rfl
@[simp] theorem cCall_ap (O : Orc) (f : Nat) (ds : List Val) (r : CL) (fr : Fr) (h : Hv) : cCall O f ds r fr h = (r fr h).bnd fun xs h1 => O f (xs ++ ds) h1 := rfl
@[simp] theorem cMeth_ap (O : Orc) (c f : Nat) (ds : List Val) (a : C) (r : CL) (fr : Fr) (h : Hv) : cMeth O c f ds a r fr h = (a fr h).bnd fun x h1 => match x with
  | .ref id => (match h1[id]? with | some (.ins k _) => if k = c then (r fr h1).bnd fun xs h2 => O f (.ref id :: (xs ++ ds)) h2 else .bad | _ => .bad)
  | _ => .bad := rfl
@[simp] theorem cNew_ap (O : Orc) (c f : Nat) (ds : List Val) (r : CL) (fr : Fr) (h : Hv) : cNew O c f ds r fr h = (r fr h).bnd fun xs h1 => (O f (.ref h1.length :: (xs ++ ds)) (h1 ++ [.ins c []])).bnd fun v h2 => match v with | .non => .ok (.ref h1.length) h2 | _ => .bad := rfl
@[simp] theorem cTold_ap (es : List Nat) (w : Val) (b : C) (fr : Fr) (h : Hv) : cTold es w b fr h = (match b fr h with | .ok v h1 => .ok v h1 | .exc c h1 => if es.contains c then .ok w h1 else .bad | .bad => .bad) := rfl
@[simp] theorem cLen_ap (a : C) (fr : Fr) (h : Hv) : cLen a fr h = (a fr h).bnd fun x h1 => match lenV h1 x with | some n => .ok (.int n) h1 | none => .bad := rfl
@[simp] theorem cAbs_ap (a : C) (fr : Fr) (h : Hv) : cAbs a fr h = (a fr h).bnd fun x h1 => match x with | .int i => .ok (.int (if i < 0 then -i else i)) h1 | _ => .bad := rfl
@[simp] theorem cInt_ap (a : C) (fr : Fr) (h : Hv) : cInt a fr h = (a fr h).bnd fun x h1 => match x with | .int i => .ok (.int i) h1 | .bl b => .ok (.int (b2z b)) h1 | _ => .bad := rfl
@[simp] theorem cStr_ap (a : C) (fr : Fr) (h : Hv) : cStr a fr h = (a fr h).bnd fun x h1 => match x with | .int i => (if i.natAbs.log2 < 1920 then .ok (.str (strZ i)) h1 else .bad) | _ => .bad := rfl
@[simp] theorem cMax2_ap (a b : C) (fr : Fr) (h : Hv) : cMax2 a b fr h = (a fr h).bnd fun x h1 => (b fr h1).bnd fun y h2 => match x, y with | .int i, .int j => .ok (.int (if j > i then j else i)) h2 | _, _ => .bad := rfl
@[simp] theorem cMin2_ap (a b : C) (fr : Fr) (h : Hv) : cMin2 a b fr h = (a fr h).bnd fun x h1 => (b fr h1).bnd fun y h2 => match x, y with | .int i, .int j => .ok (.int (if j < i then j else i)) h2 | _, _ => .bad := rfl
@[simp] theorem cTupO_ap (a : C) (fr : Fr) (h : Hv) : cTupO a fr h = (a fr h).bnd fun x h1 => match seqOf h1 x with | some xs => .ok (.tup xs) h1 | none => .bad := rfl
@[simp] theorem fLstO_ap (a : C) (fr : Fr) (h : Hv) : fLstO a fr h = (a fr h).bnd fun x h1 => match seqOf h1 x with | some xs => .ok (.l xs) h1 | none => .bad := rfl
@[simp] theorem cSumO_ap (a : C) (fr : Fr) (h : Hv) : cSumO a fr h = (a fr h).bnd fun x h1 => match lstOf h1 x with | some xs => (match intsOf xs with | some ns => .ok (.int ns.sum) h1 | none => .bad) | none => .bad := rfl
@[simp] theorem fSortO_ap (a : C) (fr : Fr) (h : Hv) : fSortO a fr h = (a fr h).bnd fun x h1 => match lstOf h1 x with | some xs => (match sorted xs with | some ys => .ok (.l ys) h1 | none => .bad) | none => .bad := rfl
@[simp] theorem cGet_ap (d k x : C) (fr : Fr) (h : Hv) : cGet d k x fr h = (d fr h).bnd fun dv h1 => match dctOf h1 dv with
  | none => .bad
  | some _ => (k fr h1).bnd fun kv h2 => (x fr h2).bnd fun xv h3 => match dctOf h3 dv with
    | some kvs => if keyOk kvs kv then .ok ((dget kvs kv).getD xv) h3 else .bad
    | none => .bad := rfl
@[simp] theorem cCount_ap (a x : C) (fr : Fr) (h : Hv) : cCount a x fr h = (a fr h).bnd fun av h1 => match lstOf h1 av with
  | none => .bad
  | some _ => (x fr h1).bnd fun xv h2 => match lstOf h2 av with
    | some xs => (match cntV xv xs with | some k => .ok (.int (k : Int)) h2 | none => .bad)
    | none => .bad := rfl
/-! ### values -/
@[simp] theorem seqOf_lst (h : Hv) (xs : List Val) : seqOf h (.lst xs) = some xs := rfl
@[simp] theorem seqOf_tup (h : Hv) (xs : List Val) : seqOf h (.tup xs) = some xs := rfl
@[simp] theorem seqOf_ref (h : Hv) (id : Nat) : seqOf h (.ref id) = (match h[id]? with | some (.lst _ xs) => some xs | _ => none) := rfl
@[simp] theorem seqOf_dct (h : Hv) (kvs : List (Val × Val)) : seqOf h (.dct kvs) = none := rfl
@[simp] theorem seqOf_str (h : Hv) (s : Str) : seqOf h (.str s) = none := rfl
@[simp] theorem seqOf_int (h : Hv) (s : Int) : seqOf h (.int s) = none := rfl
@[simp] theorem lstOf_lst (h : Hv) (xs : List Val) : lstOf h (.lst xs) = some xs := rfl
@[simp] theorem lstOf_ref (h : Hv) (id : Nat) : lstOf h (.ref id) = (match h[id]? with | some (.lst _ xs) => some xs | _ => none) := rfl
@[simp] theorem dctOf_dct (h : Hv) (kvs : List (Val × Val)) : dctOf h (.dct kvs) = some kvs := rfl
@[simp] theorem dctOf_ref (h : Hv) (id : Nat) : dctOf h (.ref id) = (match h[id]? with | some (.dct _ kvs) => some kvs | _ => none) := rfl
@[simp] theorem opIdx_lst (h : Hv) (xs : List Val) (n : Int) : opIdx h (.lst xs) (.int n) = atI xs n := rfl
@[simp] theorem opIdx_tup (h : Hv) (xs : List Val) (n : Int) : opIdx h (.tup xs) (.int n) = atI xs n := rfl
@[simp] theorem opIdx_dctI (h : Hv) (kvs : List (Val × Val)) (n : Int) : opIdx h (.dct kvs) (.int n) = if keyOk kvs (.int n) then dget kvs (.int n) else none := rfl
@[simp] theorem opIdx_dctS (h : Hv) (kvs : List (Val × Val)) (n : Str) : opIdx h (.dct kvs) (.str n) = if keyOk kvs (.str n) then dget kvs (.str n) else none := rfl
@[simp] theorem opIdx_dctT (h : Hv) (kvs : List (Val × Val)) (n : List Val) : opIdx h (.dct kvs) (.tup n) = if keyOk kvs (.tup n) then dget kvs (.tup n) else none := rfl
theorem opIdx_refL (h : Hv) (id : Nat) (k : Nat) (xs : List Val) (n : Int) (e : h[id]? = some (.lst k xs)) : opIdx h (.ref id) (.int n) = atI xs n := by simp [opIdx, e]
theorem opIdx_refD (h : Hv) (id : Nat) (k : Nat) (kvs : List (Val × Val)) (x : Val) (e : h[id]? = some (.dct k kvs)) : opIdx h (.ref id) x = if keyOk kvs x then dget kvs x else none := by cases x <;> simp [opIdx, e]
@[simp] theorem lenV_lst (h : Hv) (xs : List Val) : lenV h (.lst xs) = some xs.length := rfl
@[simp] theorem lenV_tup (h : Hv) (xs : List Val) : lenV h (.tup xs) = some xs.length := rfl
@[simp] theorem lenV_dct (h : Hv) (xs : List (Val × Val)) : lenV h (.dct xs) = some xs.length := rfl
theorem lenV_refL (h : Hv) (id : Nat) (k : Nat) (xs : List Val) (e : h[id]? = some (.lst k xs)) : lenV h (.ref id) = some xs.length := by simp [lenV, e]
theorem lenV_refD (h : Hv) (id : Nat) (k : Nat) (xs : List (Val × Val)) (e : h[id]? = some (.dct k xs)) : lenV h (.ref id) = some xs.length := by simp [lenV, e]
/-! ### statements -/
@[simp] theorem sPass_ap (fr : Fr) (h : Hv) : sPass fr h = .ok (.nx fr) h := rfl
@[simp] theorem sSeq_ap (a b : CS) (fr : Fr) (h : Hv) : sSeq a b fr h = (a fr h).bnd fun o h1 => match o with | .nx f1 => b f1 h1 | o => .ok o h1 := rfl
@[simp] theorem sExp_ap (a : C) (fr : Fr) (h : Hv) : sExp a fr h = (a fr h).bnd fun _ h1 => .ok (.nx fr) h1 := rfl
@[simp] theorem sRet_ap (a : C) (fr : Fr) (h : Hv) : sRet a fr h = (a fr h).bnd fun v h1 => .ok (.rt v) h1 := rfl
@[simp] theorem sRetA_ap (i : Nat) (fr : Fr) (h : Hv) : sRetA i fr h = (match fr[i]? with | some (.acl 0 xs) => .ok (.rt (.lst xs)) h | some (.acd 0 kvs) => .ok (.rt (.dct kvs)) h | _ => .bad) := rfl
@[simp] theorem sRetN_ap (fr : Fr) (h : Hv) : sRetN fr h = .ok (.rt .non) h := rfl
@[simp] theorem sBrk_ap (fr : Fr) (h : Hv) : sBrk fr h = .ok (.bk fr) h := rfl
@[simp] theorem sIf_ap (c : C) (a b : CS) (fr : Fr) (h : Hv) : sIf c a b fr h = (c fr h).bnd fun x h1 => match x with | .bl true => a fr h1 | .bl false => b fr h1 | _ => .bad := rfl
@[simp] theorem sRaise_ap (c : Nat) (fr : Fr) (h : Hv) : sRaise c fr h = .exc c h := rfl
@[simp] theorem sSet_ap (i : Nat) (a : C) (fr : Fr) (h : Hv) : sSet i a fr h = (a fr h).bnd fun v h1 => .ok (.nx (fr.set i (.val v))) h1 := rfl
@[simp] theorem sOwn_ap (i : Nat) (f : CF) (fr : Fr) (h : Hv) : sOwn i f fr h = (f fr h).bnd fun c h1 => .ok (.nx (fr.set i c.sl)) h1 := rfl
@[simp] theorem sUnp_ap (is : List Nat) (a : C) (fr : Fr) (h : Hv) : sUnp is a fr h = (a fr h).bnd fun v h1 => match seqOf h1 v with | some vs => (match bindAll is vs fr with | some f1 => .ok (.nx f1) h1 | none => .bad) | none => .bad := rfl
@[simp] theorem parE_nil (fr : Fr) (h : Hv) : parE [] fr h = .ok [] h := rfl
@[simp] theorem parE_v (i : Nat) (c : C) (r : List Pt) (fr : Fr) (h : Hv) : parE (.v i c :: r) fr h = (c fr h).bnd fun x h1 => (parE r fr h1).bnd fun xs h2 => .ok ((i, .val x) :: xs) h2 := rfl
@[simp] theorem parE_o (i : Nat) (c : CF) (r : List Pt) (fr : Fr) (h : Hv) : parE (.o i c :: r) fr h = (c fr h).bnd fun x h1 => (parE r fr h1).bnd fun xs h2 => .ok ((i, x.sl) :: xs) h2 := rfl
@[simp] theorem sPar_ap (ps : List Pt) (fr : Fr) (h : Hv) : sPar ps fr h = (parE ps fr h).bnd fun xs h1 => .ok (.nx (xs.foldl (fun f p => f.set p.1 p.2) fr)) h1 := rfl
@[simp] theorem sFld_ap (a : C) (f : Nat) (e : C) (fr : Fr) (h : Hv) : sFld a f e fr h = (e fr h).bnd fun v h1 => (a fr h1).bnd fun x h2 => match x with
  | .ref id => (match h2[id]? with | some (.ins c fs) => (if fs.length ≤ 100 then .ok (.nx fr) (h2.set id (.ins c (fput f v fs))) else .bad) | _ => .bad)
  | _ => .bad := rfl
@[simp] theorem sAug_ap (o : Bin) (i : Nat) (e : C) (fr : Fr) (h : Hv) : sAug o i e fr h = (match fr[i]? with | some (.val old) => (e fr h).bnd fun v h1 => (match opAug h1 o old v with | some z => .ok (.nx (fr.set i (.val z))) h1 | none => .bad) | _ => .bad) := rfl
@[simp] theorem aug_add (h : Hv) (a b : Int) : opAug h .add (.int a) (.int b) = some (.int (a + b)) := rfl
@[simp] theorem aug_sub (h : Hv) (a b : Int) : opAug h .sub (.int a) (.int b) = some (.int (a - b)) := rfl
@[simp] theorem sSub_ap (a i e : C) (fr : Fr) (h : Hv) : sSub a i e fr h = (e fr h).bnd fun v h1 => (a fr h1).bnd fun x h2 => (i fr h2).bnd fun k h3 => match x with
  | .ref id => (match setO h3 id k v with | some h4 => .ok (.nx fr) h4 | none => .bad)
  | _ => .bad := rfl
@[simp] theorem sSubO_ap (j : Nat) (i e : C) (fr : Fr) (h : Hv) : sSubO j i e fr h = (e fr h).bnd fun v h1 => if isA fr j then (i fr h1).bnd fun k h2 => (match setA fr j k v with | some f1 => .ok (.nx f1) h2 | none => .bad) else .bad := rfl
@[simp] theorem sApp_ap (a e : C) (fr : Fr) (h : Hv) : sApp a e fr h = (a fr h).bnd fun x h1 => match lstOf h1 x with
  | none => .bad
  | some _ => (e fr h1).bnd fun v h2 => match x with
    | .ref id => (match h2[id]? with | some (.lst 0 xs) => (if xs.length ≤ big then .ok (.nx fr) (h2.set id (.lst 0 (xs ++ [v]))) else .bad) | _ => .bad)
    | _ => .bad := rfl
@[simp] theorem sAppO_ap (j : Nat) (e : C) (fr : Fr) (h : Hv) : sAppO j e fr h = if isL fr j then (e fr h).bnd fun v h1 => (match fr[j]? with | some (.acl 0 xs) => (if xs.length ≤ big then .ok (.nx (fr.set j (.acl 0 (xs ++ [v])))) h1 else .bad) | _ => .bad) else .bad := rfl
@[simp] theorem sFor_ap (tg : Tg) (it : CI) (b : CS) (fr : Fr) (h : Hv) : sFor tg it b fr h = (it fr h).bnd fun p h1 => match forL tg b p.1 fr (lockO h1 p.2) with
  | .ok (.nx f2) h2 => .ok (.nx f2) (unlockO h2 p.2)
  | .ok (.bk f2) h2 => .ok (.nx f2) (unlockO h2 p.2)
  | .ok (.rt v) h2 => .ok (.rt v) (unlockO h2 p.2)
  | .exc c h2 => .exc c (unlockO h2 p.2)
  | .bad => .bad := rfl
@[simp] theorem iSeq_ap (a : C) (fr : Fr) (h : Hv) : iSeq a fr h = (a fr h).bnd fun x h1 => match seqOf h1 x with | some xs => .ok (xs, idOf x) h1 | none => .bad := rfl
@[simp] theorem idOf_lst (xs : List Val) : idOf (.lst xs) = none := rfl
@[simp] theorem idOf_tup (xs : List Val) : idOf (.tup xs) = none := rfl
@[simp] theorem idOf_ref (i : Nat) : idOf (.ref i) = some i := rfl
@[simp] theorem lockO_none (h : Hv) : lockO h none = h := rfl
@[simp] theorem unlockO_none (h : Hv) : unlockO h none = h := rfl
@[simp] theorem iRange_ap (a b : C) (fr : Fr) (h : Hv) : iRange a b fr h = (a fr h).bnd fun x h1 => (b fr h1).bnd fun y h2 => match x, y with | .int i, .int j => (if smallR i && smallR j then .ok (rangeZ i j, none) h2 else .bad) | _, _ => .bad := rfl
@[simp] theorem tgn_bind (i : Nat) (v : Val) (fr : Fr) : (Tg.n i).bind v fr = some (fr.set i (.val v)) := rfl
@[simp] theorem tgt_bind (is : List Nat) (vs : List Val) (fr : Fr) : (Tg.t is).bind (.tup vs) fr = bindAll is vs fr := rfl
@[simp] theorem bindAll_nil (fr : Fr) : bindAll [] [] fr = some fr := rfl
@[simp] theorem bindAll_cons (i : Nat) (is : List Nat) (v : Val) (vs : List Val) (fr : Fr) : bindAll (i :: is) (v :: vs) fr = bindAll is vs (fr.set i (.val v)) := rfl
@[simp] theorem tgn_ixs (i : Nat) : (Tg.n i).ixs = [i] := rfl
@[simp] theorem tgt_ixs (is : List Nat) : (Tg.t is).ixs = is := rfl
@[simp] theorem wipeF_nil (fr : Fr) : wipeF fr [] = fr := rfl
@[simp] theorem wipeF_cons (fr : Fr) (v : Nat) (vs : List Nat) : wipeF fr (v :: vs) = (wipeF fr vs).set v .no := rfl
@[simp] theorem tstO_none (fr : Fr) (h : Hv) : tstO none fr h = .ok (.bl true) h := rfl
@[simp] theorem tstO_some (c : C) (fr : Fr) (h : Hv) : tstO (some c) fr h = (c fr h).calm := rfl
@[simp] theorem startF_ap (d : Df) (xs : List Val) : startF d xs = xs.map .val ++ List.replicate (d.nn - xs.length) .no := rfl
theorem runD_ap (d : Df) (xs : List Val) (h : Hv) (hl : xs.length = d.np) : runD d xs h = (d.body (startF d xs) h).bnd fun o h1 => match o with | .nx _ => .ok .non h1 | .rt v => .ok v h1 | .bk _ => .bad := if_pos hl
theorem call_s {T : Orc → Nat → Option Df} (n f : Nat) (xs : List Val) (h : Hv) (d : Df) (e : T (callN T n) f = some d) : callN T (n + 1) f xs h = runD d xs h := by
  show (match T (callN T n) f with | some d => runD d xs h | none => .bad) = _
  rw [e]
/-! ### loops -/
theorem forL_nil (tg : Tg) (b : CS) (fr : Fr) (h : Hv) : forL tg b [] fr h = .ok (.nx fr) h := rfl
theorem forL_cons (tg : Tg) (b : CS) (x : Val) (xs : List Val) (fr : Fr) (h : Hv) : forL tg b (x :: xs) fr h = match tg.bind x fr with
  | none => .bad
  | some f1 => (b f1 h).bnd fun o h1 => match o with
    | .nx f2 => forL tg b xs f2 h1
    | o => .ok o h1 := rfl
/-- a loop by its invariant, each item from a list of things of ours -/
theorem forL_inv {α S : Type} (tg : Tg) (b : CS) (val : α → Val) (step : S → α → S) (Inv : S → Fr → Hv → Prop)
    (hb : ∀ s x fr h, Inv s fr h → ∃ f1, tg.bind (val x) fr = some f1 ∧ ∃ f2 h2, b f1 h = .ok (.nx f2) h2 ∧ Inv (step s x) f2 h2) :
    ∀ (xs : List α) (s : S) (fr : Fr) (h : Hv), Inv s fr h → ∃ f2 h2, forL tg b (xs.map val) fr h = .ok (.nx f2) h2 ∧ Inv (xs.foldl step s) f2 h2
  | [], s, fr, h, i => ⟨fr, h, rfl, i⟩
  | x :: xs, s, fr, h, i => by
    obtain ⟨f1, e1, f2, h2, e2, i2⟩ := hb s x fr h i
    obtain ⟨f3, h3, e3, i3⟩ := forL_inv tg b val step Inv hb xs (step s x) f2 h2 i2
    refine ⟨f3, h3, ?_, i3⟩
    rw [List.map_cons, forL_cons, e1]
    show (b f1 h).bind _ = _
    rw [e2]
    exact e3
/-- .. of the members alone -/
theorem forL_inv' {α S : Type} (tg : Tg) (b : CS) (val : α → Val) (step : S → α → S) (Inv : S → Fr → Hv → Prop) : ∀ (xs : List α)
    (hb : ∀ s x fr h, x ∈ xs → Inv s fr h → ∃ f1, tg.bind (val x) fr = some f1 ∧ ∃ f2 h2, b f1 h = .ok (.nx f2) h2 ∧ Inv (step s x) f2 h2) (s : S) (fr : Fr) (h : Hv), Inv s fr h → ∃ f2 h2, forL tg b (xs.map val) fr h = .ok (.nx f2) h2 ∧ Inv (xs.foldl step s) f2 h2
  | [], _, s, fr, h, i => ⟨fr, h, rfl, i⟩
  | x :: xs, hb, s, fr, h, i => by
    obtain ⟨f1, e1, f2, h2, e2, i2⟩ := hb s x fr h (List.mem_cons_self) i
    obtain ⟨f3, h3, e3, i3⟩ := forL_inv' tg b val step Inv xs (fun s y fr h hy => hb s y fr h (List.mem_cons_of_mem _ hy)) (step s x) f2 h2 i2
    refine ⟨f3, h3, ?_, i3⟩
    rw [List.map_cons, forL_cons, e1]
    show (b f1 h).bind _ = _
    rw [e2]
    exact e3
/-- a comprehension that leaves the heap: each item tested, reckoned -/
theorem compL_pure {α : Type} (tg : Tg) (c : Option C) (e : C) (fr : Fr) (h : Hv) (val : α → Val) (p : α → Bool) (f : α → Val) : ∀ (xs : List α)
    (hb : ∀ x ∈ xs, ∃ f1, tg.bind (val x) fr = some f1 ∧ tstO c f1 h = .ok (.bl (p x)) h ∧ (p x = true → e f1 h = .ok (f x) h)), compL tg c e fr (xs.map val) h = .ok ((xs.filter p).map f) h
  | [], _ => rfl
  | x :: xs, hb => by
    obtain ⟨f1, e1, e2, e3⟩ := hb x List.mem_cons_self
    have ih := compL_pure tg c e fr h val p f xs fun y hy => hb y (List.mem_cons_of_mem _ hy)
    rw [List.map_cons]
    unfold compL
    rw [e1]
    show (tstO c f1 h).bind _ = _
    rw [e2]
    cases q : p x with
    | false =>
      rw [List.filter_cons_of_neg (by simp [q])]
      exact ih
    | true =>
      rw [List.filter_cons_of_pos q]
      show ((e f1 h).calm.bnd fun y h2 => (compL tg c e fr (xs.map val) h2).bnd fun ys h3 => .ok (y :: ys) h3) = _
      rw [e3 q]
      show (compL tg c e fr (xs.map val) h).bind _ = _
      rw [ih]
      rfl
end Pk

set_option maxRecDepth 100000
/-! Lcg: the drawing numbers x -> (1103515245 x + 12345) mod 2^31: within 99,840 steps every residue by 1..12 of x / 65536 comes, from wherever one starts. -/
namespace Lcg
def it {α : Type} (f : α → α) : Nat → α → α
  | 0, x => x
  | n + 1, x => it f n (f x)
theorem it_add {α : Type} (f : α → α) (m : Nat) : ∀ (n : Nat) (x : α), it f (n + m) x = it f m (it f n x)
  | 0, x => by rw [Nat.zero_add]; rfl
  | n + 1, x => by
    have e : n + 1 + m = (n + m) + 1 := by omega
    rw [e]
    exact it_add f m n (f x)
theorem it_one {α : Type} (f : α → α) (x : α) : it f 1 x = f x := rfl
theorem it_zero {α : Type} (f : α → α) (x : α) : it f 0 x = x := rfl
def nxt (x : Nat) : Nat := (x * 1103515245 + 12345) % 2147483648
def iter (n x : Nat) : Nat := it nxt n x
theorem iter_add (m n x : Nat) : iter (n + m) x = iter m (iter n x) := it_add nxt m n x
theorem iter_one (x : Nat) : iter 1 x = nxt x := it_one nxt x
theorem iter_zero (x : Nat) : iter 0 x = x := it_zero nxt x
theorem nxt_eq (x : Nat) : nxt x = (x * 1103515245 + 12345) % 2147483648 := by unfold nxt; rfl
/-- k steps are one step x -> (A x + C) mod 2^31 -/
def Aff (k A C : Nat) : Prop := ∀ x, iter k x % 2147483648 = (A * x + C) % 2147483648
theorem aff_one : Aff 1 1103515245 12345 := fun x => by
  rw [iter_one, nxt_eq, Nat.mod_mod, Nat.mul_comm]
theorem aff_zero : Aff 0 1 0 := fun x => by rw [iter_zero, Nat.one_mul, Nat.add_zero]
theorem aff_comp {k k' A C A' C' : Nat} (h : Aff k A C) (h' : Aff k' A' C') : Aff (k + k') (A * A' % 2147483648) ((A' * C + C') % 2147483648) := fun x => by
  rw [iter_add, h']
  have e := h x
  have e1 : (A' * iter k x + C') % 2147483648 = (A' * ((A * x + C) % 2147483648) + C') % 2147483648 := by
    rw [← e, Nat.add_mod, Nat.mul_mod, Nat.add_mod (A' * (iter k x % 2147483648)), Nat.mul_mod A' (iter k x % 2147483648), Nat.mod_mod]
  rw [e1, Nat.add_mod, Nat.mul_mod, Nat.mod_mod, ← Nat.mul_mod, ← Nat.add_mod]
  rw [Nat.add_mod (A * A' % 2147483648 * x), Nat.mul_mod (A * A' % 2147483648), Nat.mod_mod, Nat.mod_mod, ← Nat.mul_mod, ← Nat.add_mod]
  congr 1
  rw [Nat.mul_add, Nat.add_assoc]
  congr 1
  rw [← Nat.mul_assoc, Nat.mul_comm A' A]
/-- by doubling: 2^b steps -/
def dbl : Nat → Nat × Nat
  | 0 => (1103515245, 12345)
  | b + 1 => ((dbl b).1 * (dbl b).1 % 2147483648, ((dbl b).1 * (dbl b).2 + (dbl b).2) % 2147483648)
theorem aff_dbl : ∀ b : Nat, Aff (2 ^ b) (dbl b).1 (dbl b).2
  | 0 => aff_one
  | b + 1 => by
    have := aff_comp (aff_dbl b) (aff_dbl b)
    rw [show 2 ^ (b + 1) = 2 ^ b + 2 ^ b by rw [Nat.pow_succ]; omega]
    exact this
theorem dbl_low : ∀ b < 16, (dbl b).1 % 2 ^ (b + 1) = 1 ∧ (dbl b).2 % 2 ^ (b + 1) = 2 ^ b := by decide +kernel
theorem mod_mod_pow {x b : Nat} (hb : b ≤ 31) : x % 2147483648 % 2 ^ b = x % 2 ^ b := by
  have : (2147483648 : Nat) = 2 ^ b * 2 ^ (31 - b) := by rw [← Nat.pow_add, Nat.add_sub_cancel' hb]
  rw [this]
  exact Nat.mod_mul_right_mod x (2 ^ b) (2 ^ (31 - b))
/-- the low bits come to 0 one by one -/
theorem low : ∀ (b : Nat), b ≤ 16 → ∀ x, ∃ k, k < 2 ^ b ∧ iter k x % 2 ^ b = 0
  | 0, _, x => ⟨0, by decide, by simp [Nat.mod_one]⟩
  | b + 1, hb, x => by
    obtain ⟨k, hk, e⟩ := low b (by omega) x
    have hp : 2 ^ (b + 1) = 2 ^ b * 2 := Nat.pow_succ ..
    by_cases q : iter k x % 2 ^ (b + 1) = 0
    · exact ⟨k, by omega, q⟩
    · refine ⟨k + 2 ^ b, by omega, ?_⟩
      obtain ⟨d1, d2⟩ := dbl_low b (by omega)
      rw [iter_add]
      have h := aff_dbl b (iter k x)
      have h2 : iter (2 ^ b) (iter k x) % 2 ^ (b + 1) = ((dbl b).1 * iter k x + (dbl b).2) % 2 ^ (b + 1) := by
        rw [← mod_mod_pow (b := b + 1) (by omega), h, mod_mod_pow (by omega)]
      rw [h2, Nat.add_mod, Nat.mul_mod, d1, d2, Nat.one_mul, Nat.mod_mod]
      have h3 : iter k x % 2 ^ (b + 1) = 2 ^ b := by
        have l := Nat.mod_lt (iter k x) (Nat.two_pow_pos (b + 1))
        have h4 : iter k x % 2 ^ (b + 1) % 2 ^ b = 0 := by
          rw [hp, Nat.mod_mul_right_mod]; exact e
        obtain ⟨m, hm⟩ := Nat.dvd_of_mod_eq_zero h4
        have : m = 0 ∨ m = 1 ∨ 2 ≤ m := by omega
        rcases this with r | r | r
        · rw [r] at hm; omega
        · rw [r] at hm; omega
        · have : 2 ^ b * 2 ≤ 2 ^ b * m := Nat.mul_le_mul_left _ r
          omega
      rw [h3, hp, ← Nat.mul_two, Nat.mod_self]
/-! ### 135 points, 256 steps apart -/
def pts : Nat → List (Nat × Nat)
  | 0 => [(1, 0)]
  | n + 1 => match pts n with
    | (A, C) :: r => (A * (dbl 8).1 % 2147483648, ((dbl 8).1 * C + (dbl 8).2) % 2147483648) :: (A, C) :: r
    | [] => []
theorem pts_aff : ∀ n, ∃ A C r, pts n = (A, C) :: r ∧ Aff (256 * n) A C ∧ ∀ p ∈ pts n, ∃ k, k ≤ n ∧ Aff (256 * k) p.1 p.2
  | 0 => ⟨1, 0, [], rfl, aff_zero, fun p hp => by
      have : p = (1, 0) := by simpa [pts] using hp
      subst this
      exact ⟨0, Nat.le_refl _, aff_zero⟩⟩
  | n + 1 => by
    obtain ⟨A, C, r, e, h, ha⟩ := pts_aff n
    have h2 : Aff (256 * (n + 1)) (A * (dbl 8).1 % 2147483648) (((dbl 8).1 * C + (dbl 8).2) % 2147483648) := by
      have := aff_comp h (aff_dbl 8)
      rw [show 256 * (n + 1) = 256 * n + 2 ^ 8 by omega]
      exact this
    refine ⟨_, _, (A, C) :: r, by show (match pts n with | (A, C) :: r => _ | [] => _) = _; rw [e], h2, fun p hp => ?_⟩
    have : pts (n + 1) = (A * (dbl 8).1 % 2147483648, ((dbl 8).1 * C + (dbl 8).2) % 2147483648) :: pts n := by
      show (match pts n with | (A, C) :: r => _ | [] => _) = _
      rw [e]
    rw [this] at hp
    rcases List.mem_cons.mp hp with q | q
    · subst q; exact ⟨n + 1, Nat.le_refl _, h2⟩
    · obtain ⟨k, h3, h4⟩ := ha p q
      exact ⟨k, by omega, h4⟩
/-- the offset of a point for h of the class r by 32 -/
def off (r : Nat) (p : Nat × Nat) : Nat := ((p.1 - 1) * r + p.2 / 65536) % 32768
def tri : Nat → Nat
  | 0 => 0
  | n + 1 => tri n + (n + 1)
/-- all residues by 1..n of a number, as bits -/
def bitsN : Nat → Nat → Nat
  | 0, _ => 0
  | n + 1, y => Nat.lor (bitsN n y) (Nat.shiftLeft 1 (Nat.add (tri n) (Nat.mod y (n + 1))))
def bits (y : Nat) : Nat := bitsN 12 y
theorem tri_mono {m n : Nat} (h : m < n) : tri m + (m + 1) ≤ tri n := by
  induction n with
  | zero => omega
  | succ n ih =>
    show _ ≤ tri n + (n + 1)
    by_cases q : m = n
    · subst q; exact Nat.le_refl _
    · have := ih (by omega); omega
theorem bitsN_at {m e : Nat} (he : e ≤ m) : ∀ {n y : Nat}, (bitsN n y).testBit (tri m + e) = true → y % (m + 1) = e
  | 0, y, h => by simp [bitsN] at h
  | n + 1, y, h => by
    have h : (bitsN n y ||| (1 <<< (tri n + y % (n + 1)))).testBit (tri m + e) = true := h
    rw [Nat.testBit_or, Bool.or_eq_true] at h
    rcases h with h | h
    · exact bitsN_at he h
    · rw [Nat.one_shiftLeft, Nat.testBit_two_pow, decide_eq_true_eq] at h
      have l : y % (n + 1) < n + 1 := Nat.mod_lt y (Nat.succ_pos n)
      rcases Nat.lt_trichotomy m n with q | q | q
      · have := tri_mono q; omega
      · subst q; omega
      · have := tri_mono q; omega
def maskAt (t : Nat) : List (Nat × Nat × Nat) → Nat
  | [] => 0
  | d :: ds => Nat.lor (cond (Nat.ble d.1 t) d.2.2 d.2.1) (maskAt t ds)
def okTs (ds : List (Nat × Nat × Nat)) : List (Nat × Nat × Nat) → Bool
  | [] => true
  | d :: r => and (Nat.beq (maskAt d.1 ds) 302231454903657293676543) (okTs ds r)
def okD (ds : List (Nat × Nat × Nat)) : Bool := and (Nat.beq (maskAt 0 ds) 302231454903657293676543) (okTs ds ds)
@[irreducible] def pts134 : List (Nat × Nat) := pts 134
/-- where a point turns over, its bits ahead of that, behind it -/
@[irreducible] def table (r : Nat) : List (Nat × Nat × Nat) := pts134.map fun p => (Nat.sub 32768 (off r p), bits (off r p), bits (off r p + 32768 * 27719))
def okClass (r : Nat) : Bool := okD (table r)
theorem mask_bit {t b : Nat} : ∀ {ds : List (Nat × Nat × Nat)}, (maskAt t ds).testBit b = true → ∃ d ∈ ds, (cond (Nat.ble d.1 t) d.2.2 d.2.1).testBit b = true
  | [], h => by simp [maskAt] at h
  | d :: ds, h => by
    have h : ((cond (Nat.ble d.1 t) d.2.2 d.2.1) ||| (maskAt t ds)).testBit b = true := h
    rw [Nat.testBit_or, Bool.or_eq_true] at h
    rcases h with h | h
    · exact ⟨d, List.mem_cons_self, h⟩
    · obtain ⟨d', h1, h2⟩ := mask_bit h
      exact ⟨d', List.mem_cons_of_mem _ h1, h2⟩
theorem okTs_at {ds : List (Nat × Nat × Nat)} : ∀ {r : List (Nat × Nat × Nat)}, okTs ds r = true → ∀ d ∈ r, maskAt d.1 ds = 302231454903657293676543
  | [], _, d, hd => by simp at hd
  | x :: r, h, d, hd => by
    obtain ⟨h1, h2⟩ := Bool.and_eq_true_iff.mp (show (Nat.beq (maskAt x.1 ds) 302231454903657293676543 && okTs ds r) = true from h)
    rcases List.mem_cons.mp hd with q | q
    · subst q; exact Nat.eq_of_beq_eq_true h1
    · exact okTs_at h2 d q
theorem okD_at {ds : List (Nat × Nat × Nat)} (h : okD ds = true) {t : Nat} (ht : t = 0 ∨ ∃ d ∈ ds, t = d.1) : maskAt t ds = 302231454903657293676543 := by
  obtain ⟨k0, k1⟩ := Bool.and_eq_true_iff.mp (show (Nat.beq (maskAt 0 ds) 302231454903657293676543 && okTs ds ds) = true from h)
  rcases ht with e | ⟨d, hd, e⟩
  · rw [e]; exact Nat.eq_of_beq_eq_true k0
  · rw [e]; exact okTs_at k1 d hd
/-- the greatest of these that is not above h -/
theorem below (h : Nat) : ∀ T : List (Nat × Nat × Nat), ∃ t, (t = 0 ∨ ∃ d ∈ T, t = d.1) ∧ t ≤ h ∧ ∀ d ∈ T, d.1 ≤ h → d.1 ≤ t
  | [] => ⟨0, .inl rfl, Nat.zero_le _, fun d hd => by simp at hd⟩
  | x :: T => by
    obtain ⟨t, h1, h2, h3⟩ := below h T
    by_cases q : x.1 ≤ h ∧ t < x.1
    · refine ⟨x.1, .inr ⟨x, List.mem_cons_self, rfl⟩, q.1, fun d hd hl => ?_⟩
      rcases List.mem_cons.mp hd with e | e
      · subst e; exact Nat.le_refl _
      · have := h3 d e hl; omega
    · refine ⟨t, h1.imp_right fun ⟨d, hd, e⟩ => ⟨d, List.mem_cons_of_mem _ hd, e⟩, h2, fun d hd hl => ?_⟩
      rcases List.mem_cons.mp hd with e | e
      · subst e; omega
      · exact h3 d e hl
theorem full_bit {m e : Nat} (hm : m < 12) (he : e ≤ m) : (302231454903657293676543 : Nat).testBit (tri m + e) = true := by
  have e1 : (302231454903657293676543 : Nat) = 2 ^ 78 - 1 := by decide
  rw [e1, Nat.testBit_two_pow_sub_one, decide_eq_true_eq]
  have := tri_mono (m := m) (n := 12) hm
  have e2 : tri 12 = 78 := by decide
  omega
theorem it_succ {α : Type} (f : α → α) (n : Nat) (x : α) : it f (n + 1) x = it f n (f x) := rfl
theorem it_inv {α : Type} (f : α → α) (P : α → Prop) (h : ∀ x, P x → P (f x)) : ∀ (n : Nat) (x : α), P x → P (it f n x)
  | 0, x, hx => by rw [it_zero]; exact hx
  | n + 1, x, hx => by rw [it_succ]; exact it_inv f P h n (f x) (h x hx)
theorem nxt_lt (x : Nat) : nxt x < 2147483648 := by rw [nxt_eq]; exact Nat.mod_lt _ (by decide)
theorem iter_lt {x : Nat} (hx : x < 2147483648) (n : Nat) : iter n x < 2147483648 := by
  unfold iter
  exact it_inv nxt (fun y => y < 2147483648) (fun y _ => nxt_lt y) n x hx
theorem ones : ∀ p ∈ pts134, p.1 % 1024 = 1 := by decide +kernel
/-- one point -/
theorem at_point {p : Nat × Nat} {k h : Nat} (hp : p ∈ pts134) (ha : Aff k p.1 p.2) (hh : h < 32768) : iter k (65536 * h) / 65536 = (h + off (h % 32) p) % 32768 := by
  have e1 := ha (65536 * h)
  rw [Nat.mod_eq_of_lt (iter_lt (show 65536 * h < 2147483648 by omega) k)] at e1
  rw [e1, show (2147483648 : Nat) = 65536 * 32768 by decide, Nat.mod_mul_right_div_self]
  have e2 : (p.1 * (65536 * h) + p.2) / 65536 = p.1 * h + p.2 / 65536 := by
    rw [show p.1 * (65536 * h) = 65536 * (p.1 * h) by rw [← Nat.mul_assoc, Nat.mul_comm p.1 65536, Nat.mul_assoc]]
    omega
  rw [e2]
  have o := ones p hp
  obtain ⟨u, hu⟩ : ∃ u, p.1 = 1 + 1024 * u := ⟨p.1 / 1024, by omega⟩
  unfold off
  have e3 : p.1 * h = h + (p.1 - 1) * (h % 32) + 32768 * (u * (h / 32)) := by
    rw [hu, Nat.add_sub_cancel_left]
    have hd : h = 32 * (h / 32) + h % 32 := by omega
    have : 1024 * u * h = 1024 * u * (h % 32) + 32768 * (u * (h / 32)) := by
      have e : 1024 * u * h = 1024 * u * (32 * (h / 32) + h % 32) := by rw [← hd]
      rw [e, Nat.mul_add, Nat.add_comm, Nat.mul_mul_mul_comm 1024 u 32 (h / 32)]
    rw [Nat.add_mul, Nat.one_mul, this, Nat.add_assoc]
  rw [e3]
  omega
theorem res1 {h o s ρ : Nat} (hs : s < 12) (hρ : ρ ≤ s) (l : 32768 ≤ h + o) (e : (o + 32768 * 27719) % (s + 1) = (ρ + (s + 1) - h % (s + 1)) % (s + 1)) : (h + o - 32768) % (s + 1) = ρ := by
  have : s = 0 ∨ s = 1 ∨ s = 2 ∨ s = 3 ∨ s = 4 ∨ s = 5 ∨ s = 6 ∨ s = 7 ∨ s = 8 ∨ s = 9 ∨ s = 10 ∨ s = 11 := by omega
  rcases this with q | q | q | q | q | q | q | q | q | q | q | q <;> subst q <;> omega
theorem res2 {h o s ρ : Nat} (hs : s < 12) (hρ : ρ ≤ s) (e : o % (s + 1) = (ρ + (s + 1) - h % (s + 1)) % (s + 1)) : (h + o) % (s + 1) = ρ := by
  have : s = 0 ∨ s = 1 ∨ s = 2 ∨ s = 3 ∨ s = 4 ∨ s = 5 ∨ s = 6 ∨ s = 7 ∨ s = 8 ∨ s = 9 ∨ s = 10 ∨ s = 11 := by omega
  rcases this with q | q | q | q | q | q | q | q | q | q | q | q <;> subst q <;> omega
theorem parts3 {x y z : Nat} {d : Nat × Nat × Nat} (e : (x, y, z) = d) : d.1 = x ∧ d.2.1 = y ∧ d.2.2 = z := by
  subst e; exact ⟨rfl, rfl, rfl⟩
/-- from the low bits 0: all residues within 134 jumps -/
theorem cover0 (all : ∀ r < 32, okClass r = true) {h : Nat} (hh : h < 32768) {s ρ : Nat} (hs : s < 12) (hρ : ρ ≤ s) : ∃ k, k ≤ 134 ∧ iter (256 * k) (65536 * h) / 65536 % (s + 1) = ρ := by
  have ok := all (h % 32) (Nat.mod_lt _ (by decide))
  unfold okClass at ok
  obtain ⟨t, h1, h2, h3⟩ := below h (table (h % 32))
  have full := okD_at ok h1
  have he : (ρ + (s + 1) - h % (s + 1)) % (s + 1) ≤ s := Nat.le_of_lt_succ (Nat.mod_lt _ (Nat.succ_pos s))
  have fb : (maskAt t (table (h % 32))).testBit (tri s + (ρ + (s + 1) - h % (s + 1)) % (s + 1)) = true := by rw [full]; exact full_bit hs he
  obtain ⟨d, hd, hb⟩ := mask_bit fb
  have hd2 := hd
  unfold table at hd2
  obtain ⟨p, hp, e⟩ := List.mem_map.mp hd2
  obtain ⟨_, _, _, _, _, hall⟩ := pts_aff 134
  have hp2 := hp
  unfold pts134 at hp2
  clear hd2
  obtain ⟨k, hk, ha⟩ := hall p hp2
  refine ⟨k, hk, ?_⟩
  rw [at_point hp ha hh]
  have ol : off (h % 32) p < 32768 := by unfold off; exact Nat.mod_lt _ (by decide)
  obtain ⟨e1, e2, e3⟩ := parts3 e
  rw [Nat.sub_eq] at e1
  have h3 := h3 d hd
  rw [e1] at h3 hb
  rw [e2, e3] at hb
  clear e1 e2 e3 e full h1 hd ok ha hp hp2 hall hk fb
  revert h3 hb ol
  generalize off (h % 32) p = o
  intro hb ol h3
  cases q : Nat.ble (32768 - o) t with
  | true =>
    rw [q, cond_true] at hb
    unfold bits at hb
    have r := bitsN_at (n := 12) he hb
    have q := Nat.le_of_ble_eq_true q
    rw [show (h + o) % 32768 = h + o - 32768 by omega]
    exact res1 hs hρ (by omega) r
  | false =>
    rw [q, cond_false] at hb
    unfold bits at hb
    have r := bitsN_at (n := 12) he hb
    have q : ¬ 32768 - o ≤ t := fun z => by rw [Nat.ble_eq_true_of_le z] at q; cases q
    rw [show (h + o) % 32768 = h + o by omega]
    exact res2 hs hρ r
/-- from anywhere -/
theorem cover (all : ∀ r < 32, okClass r = true) {x : Nat} (hx : x < 2147483648) {s ρ : Nat} (hs : s < 12) (hρ : ρ ≤ s) : ∃ j, j ≤ 99839 ∧ iter j x / 65536 % (s + 1) = ρ := by
  obtain ⟨k, hk, e⟩ := low 16 (Nat.le_refl _) x
  have l := iter_lt hx k
  obtain ⟨h, hh⟩ : ∃ h, iter k x = 65536 * h := ⟨iter k x / 65536, by omega⟩
  obtain ⟨k2, h2, h3⟩ := cover0 all (h := h) (by omega) hs hρ
  refine ⟨k + 256 * k2, by omega, ?_⟩
  rw [iter_add, hh]
  exact h3
end Lcg

set_option maxRecDepth 100000
namespace Lcg
theorem ok_all : ∀ r < 32, okClass r = true := by decide +kernel
end Lcg

set_option maxRecDepth 100000
/-! fields: 0 name, 1 ballots, 2 voters, 3 rows, 4 is_open; classes: {'Station': 0}; errors: {'PollError': 0, 'StationError': 1} -/
namespace K07
open Pk PySem
/-- Station.__init__: 0 self 1 name 2 ballots 3 voters 4 voter -/
def p1_Station_init (O : Orc) : CF := (fDComp (.n 4) (iSeq (cV 3)) none (cV 4) (cK (.bl true)))
def d_Station_init (O : Orc) : Df := ⟨4, 5, (sSeq (sIf (cOr (cCmp .eq (cV 1) (cK (.str ""))) (cNot (cChain .le .le (cK (.int 0)) (cV 2) (cK (.int 2000)))))
  (sRaise 1)
  sPass)
  (sSeq (sFld (cV 0) 0 (cV 1))
  (sSeq (sFld (cV 0) 1 (cV 2))
  (sSeq (sFld (cV 0) 2 (cMk (p1_Station_init O)))
  (sSeq (sFld (cV 0) 3 (cMk (fLst cs0)))
  (sFld (cV 0) 4 (cK (.bl true))))))))⟩

/-- Station.state: 0 self 1 voter 2 found 3 one 4 deed -/
def b1_Station_state (O : Orc) : CS := (sSet 2 (cIf (cCmp .eq (cV 3) (cV 1)) (cV 4) (cV 2)))
def d_Station_state (O : Orc) : Df := ⟨2, 5, (sSeq (sIf (cCmp .notin (cV 1) (cFld (cV 0) 2))
  (sRaise 1)
  sPass)
  (sSeq (sSet 2 (cK (.str "")))
  (sSeq (sFor (.t [3, 4]) (iSeq (cFld (cV 0) 3)) (b1_Station_state O))
  (sRet (cV 2)))))⟩

/-- Station.blanks_left: 0 self 1 voter 2 deed -/
def p1_Station_blanks_left (O : Orc) : CF := (fComp (.t [1, 2]) (iSeq (cFld (cV 0) 3)) (some (cCmp .eq (cV 2) (cK (.str "given")))) (cK (.int 1)))
def d_Station_blanks_left (O : Orc) : Df := ⟨1, 3, (sRet (cBin .sub (cFld (cV 0) 1) (cLen (cFrz (p1_Station_blanks_left O)))))⟩

/-- Station.give: 0 self 1 voter -/
def d_Station_give (O : Orc) : Df := ⟨2, 2, (sSeq (sIf (cOr (cCmp .inn (cMeth O 0 1 [] (cV 0) (csC (cV 1) cs0)) (cTup (csC (cK (.str "given")) (csC (cK (.str "put")) cs0)))) (cOr (cCmp .lt (cMeth O 0 2 [] (cV 0) cs0) (cK (.int 1))) (cNot (cFld (cV 0) 4))))
  (sRaise 1)
  sPass)
  (sApp (cFld (cV 0) 3) (cTup (csC (cV 1) (csC (cK (.str "given")) cs0)))))⟩

/-- Station.spoil: 0 self 1 voter -/
def d_Station_spoil (O : Orc) : Df := ⟨2, 2, (sSeq (sIf (cCmp .ne (cMeth O 0 1 [] (cV 0) (csC (cV 1) cs0)) (cK (.str "given")))
  (sRaise 1)
  sPass)
  (sApp (cFld (cV 0) 3) (cTup (csC (cV 1) (csC (cK (.str "spoiled")) cs0)))))⟩

/-- Station.put: 0 self 1 voter -/
def d_Station_put (O : Orc) : Df := ⟨2, 2, (sSeq (sIf (cOr (cCmp .ne (cMeth O 0 1 [] (cV 0) (csC (cV 1) cs0)) (cK (.str "given"))) (cNot (cFld (cV 0) 4)))
  (sRaise 1)
  sPass)
  (sApp (cFld (cV 0) 3) (cTup (csC (cV 1) (csC (cK (.str "put")) cs0)))))⟩

/-- Station.close: 0 self -/
def d_Station_close (O : Orc) : Df := ⟨1, 1, (sSeq (sIf (cNot (cFld (cV 0) 4))
  (sRaise 1)
  sPass)
  (sFld (cV 0) 4 (cK (.bl false))))⟩

/-- Station.deeds: 0 self 1 many 2 voter 3 deed 4 word -/
def p1_Station_deeds (O : Orc) : CF := (fComp (.t [2, 3]) (iSeq (cFld (cV 0) 3)) (some (cCmp .eq (cV 3) (cV 4))) (cK (.int 1)))
def p2_Station_deeds (O : Orc) : CF := (fComp (.n 4) (iSeq (cTup (csC (cK (.str "given")) (csC (cK (.str "spoiled")) (csC (cK (.str "put")) cs0))))) none (cLen (cFrz (p1_Station_deeds O))))
def d_Station_deeds (O : Orc) : Df := ⟨1, 5, (sSeq (sSet 1 (cFrz (p2_Station_deeds O)))
  (sRet (cTup (csC (cIdx (cV 1) (cK (.int 0))) (csC (cIdx (cV 1) (cK (.int 1))) (csC (cIdx (cV 1) (cK (.int 2))) (csC (cBin .sub (cBin .sub (cIdx (cV 1) (cK (.int 0))) (cIdx (cV 1) (cK (.int 1)))) (cIdx (cV 1) (cK (.int 2)))) cs0)))))))⟩

/-- Station.faults: 0 self 1 counted 2 blanks 3 found -/
def d_Station_faults (O : Orc) : Df := ⟨3, 4, (sSeq (sOwn 3 (fLst cs0))
  (sSeq (sIf (cCmp .ne (cV 1) (cIdx (cMeth O 0 7 [] (cV 0) cs0) (cK (.int 2))))
  (sAppO 3 (cFmt [(cK (.str "ballots ")), (cFv (cBin .sub (cV 1) (cIdx (cMeth O 0 7 [] (cV 0) cs0) (cK (.int 2)))))]))
  sPass)
  (sSeq (sIf (cCmp .ne (cV 2) (cMeth O 0 2 [] (cV 0) cs0))
  (sAppO 3 (cFmt [(cK (.str "blanks ")), (cFv (cBin .sub (cV 2) (cMeth O 0 2 [] (cV 0) cs0)))]))
  sPass)
  (sRet (cTupO (cBin .add (cA 3) (cIf (cFld (cV 0) 4) (cFrz (fLst (csC (cK (.str "open")) cs0))) (cFrz (fLst cs0)))))))))⟩

/-- Station.turnout: 0 self -/
def d_Station_turnout (O : Orc) : Df := ⟨1, 1, (sRet (cIf (cCmp .dne (cFld (cV 0) 2) (cFrz (fDct []))) (cBin .fdiv (cBin .mul (cIdx (cMeth O 0 7 [] (cV 0) cs0) (cK (.int 2))) (cK (.int 10000))) (cLen (cFld (cV 0) 2))) (cK (.int 0))))⟩

/-- drawn: 0 seed 1 size 2 many 3 found 4 here 5 turns 6 number -/
def w1_drawn (O : Orc) : C := (cAnd (cCmp .lt (cLen (cA 3)) (cV 2)) (cCmp .lt (cV 5) (cK (.int 100000))))
def b1_drawn (O : Orc) : CS := (sSeq (sSet 4 (cBin .mod (cBin .add (cBin .mul (cV 4) (cK (.int 1103515245))) (cK (.int 12345))) (cK (.int 2147483648))))
  (sSeq (sAug .add 5 (cK (.int 1)))
  (sSeq (sSet 6 (cBin .mod (cBin .fdiv (cV 4) (cK (.int 65536))) (cV 1)))
  (sIf (cCmp .notin (cV 6) (cA 3))
  (sAppO 3 (cV 6))
  sPass))))
def d_drawn (O : Orc) : Df := ⟨3, 7, (sSeq (sIf (cOr (cCmp .lt (cV 2) (cK (.int 0))) (cOr (cCmp .gt (cV 2) (cV 1)) (cCmp .lt (cV 0) (cK (.int 0)))))
  (sRaise 1)
  sPass)
  (sSeq (sPar [.o 3 (fLst cs0), .v 4 (cV 0)])
  (sSeq (sSet 5 (cK (.int 0)))
  (sSeq (sWhile (w1_drawn O) (b1_drawn O) 1000000)
  (sSeq (sIf (cCmp .lt (cLen (cA 3)) (cV 2))
  (sRaise 1)
  sPass)
  (sRet (cTupO (cA 3))))))))⟩

/-- checked: 0 paper 1 told 2 places 3 place 4 table 5 name 6 order 7 less 8 over 9 under 10 shift -/
def p1_checked (O : Orc) : C := (cAnyS true (.n 3) (iSeq (cV 2)) none (cNot (cChain .le .lt (cK (.int 0)) (cV 3) (cLen (cV 1)))))
def b1_checked (O : Orc) : CS := (sIf (cCmp .ne (cV 5) (cK (.str "")))
  (sSubO 4 (cV 5) (cBin .add (cGet (cA 4) (cV 5) (cK (.int 0))) (cK (.int 1))))
  sPass)
def p2_checked (O : Orc) : CF := (cLkO 4 (fSortG (.n 5) (iDctO 4) none (cTup (csC (cBin .sub (cK (.int 0)) (cIdx (cA 4) (cV 5))) (csC (cV 5) cs0)))))
def p3_checked (O : Orc) : CF := (fComp (.t [7, 5]) (iSeq (cFrz (p2_checked O))) none (cV 5))
def b2_checked (O : Orc) : CS := (sSeq (sSet 10 (cBin .sub (cCall O 12 [] (csC (cIdx (cV 1) (cV 3)) (csC (cV 6) cs0))) (cCall O 12 [] (csC (cIdx (cV 0) (cV 3)) (csC (cV 6) cs0)))))
  (sSeq (sAug .add 8 (cMax2 (cK (.int 0)) (cV 10)))
  (sAug .add 9 (cMax2 (cK (.int 0)) (cBin .sub (cK (.int 0)) (cV 10))))))
def d_checked (O : Orc) : Df := ⟨3, 11, (sSeq (sIf (cOr (cCmp .ne (cLen (cV 0)) (cLen (cV 1))) (p1_checked O))
  (sRaise 1)
  sPass)
  (sSeq (sOwn 4 (fDct []))
  (sSeq (sFor (.n 5) (iSeq (cV 1)) (b1_checked O))
  (sSeq (sSet 6 (cFrz (p3_checked O)))
  (sSeq (sIf (cCmp .lt (cLen (cV 6)) (cK (.int 2)))
  (sRaise 1)
  sPass)
  (sSeq (sPar [.v 8 (cK (.int 0)), .v 9 (cK (.int 0))])
  (sSeq (sFor (.n 3) (iSeq (cV 2)) (b2_checked O))
  (sRet (cTup (csC (cV 8) (csC (cV 9) cs0)))))))))))⟩

/-- margin_of: 0 name 1 order -/
def d_margin_of (O : Orc) : Df := ⟨2, 2, (sRet (cIf (cCmp .eq (cV 0) (cIdx (cV 1) (cK (.int 0)))) (cK (.int 1)) (cIf (cCmp .eq (cV 0) (cIdx (cV 1) (cK (.int 1)))) (cBin .sub (cK (.int 0)) (cK (.int 1))) (cK (.int 0)))))⟩

/-- enough_checked: 0 margin 1 total 2 many 3 over -/
def d_enough_checked (O : Orc) : Df := ⟨4, 4, (sSeq (sIf (cOr (cCmp .lt (cV 0) (cK (.int 1))) (cOr (cCmp .lt (cV 1) (cK (.int 1))) (cOr (cCmp .lt (cV 2) (cK (.int 0))) (cCmp .lt (cV 3) (cK (.int 0))))))
  (sRaise 1)
  sPass)
  (sRet (cCmp .gt (cBin .mul (cV 2) (cV 0)) (cBin .add (cBin .mul (cK (.int 5)) (cV 1)) (cBin .mul (cBin .mul (cK (.int 2)) (cV 3)) (cV 1))))))⟩

/-- _law_dice: 0 cell -/
def d__law_dice (O : Orc) : Df := ⟨1, 1, (sSeq (sIf (cChain .lt .lt (cBin .sub (cK (.int 0)) (cK (.int 10))) (cV 0) (cK (.int 10)))
  (sRet (cMk (fLst (csC (cAbs (cV 0)) (csC (cK (.int 0)) (csC (cK (.int 2)) cs0))))))
  sPass)
  (sRet (cMk (fLst (csC (cV 0) (csC (cBin .add (cK (.int 1)) (cBin .mod (cInt (cV 0)) (cK (.int 1009)))) (csC (cInt (cCmp .ge (cV 0) (cBin .pow (cK (.int 10)) (cK (.int 18))))) cs0)))))))⟩

/-- _law_roll: 0 dice 1 many 2 found -/
def d__law_roll (O : Orc) : Df := ⟨2, 3, (sSeq (sIf (cOr (cCmp .eq (cIdx (cV 0) (cK (.int 2))) (cK (.int 2))) (cAnd (cCmp .eq (cIdx (cV 0) (cK (.int 2))) (cK (.int 1))) (cCmp .gt (cIdx (cV 0) (cK (.int 0))) (cK (.int 0)))))
  (sSeq (sSet 2 (cBin .mod (cInt (cIdx (cV 0) (cK (.int 0)))) (cV 1)))
  (sSeq (sSub (cV 0) (cK (.int 0)) (cBin .fdiv (cIdx (cV 0) (cK (.int 0))) (cV 1)))
  (sRet (cV 2))))
  sPass)
  (sSeq (sSub (cV 0) (cK (.int 2)) (cK (.int 0)))
  (sSeq (sIf (cCmp .gt (cV 1) (cK (.int 100000000)))
  (sRet (cBin .mod (cInt (cBin .add (cBin .mul (cCall O 15 [] (csC (cV 0) (csC (cBin .add (cBin .fdiv (cV 1) (cK (.int 100000000))) (cK (.int 1))) cs0))) (cK (.int 100000000))) (cCall O 15 [] (csC (cV 0) (csC (cK (.int 100000000)) cs0))))) (cV 1)))
  sPass)
  (sSeq (sSub (cV 0) (cK (.int 0)) (cBin .mod (cInt (cBin .add (cBin .add (cBin .mul (cIdx (cV 0) (cK (.int 0))) (cK (.int 48271))) (cBin .mul (cIdx (cV 0) (cK (.int 1))) (cK (.int 69621)))) (cK (.int 11)))) (cK (.int 2147483647))))
  (sSeq (sSub (cV 0) (cK (.int 1)) (cBin .add (cIdx (cV 0) (cK (.int 1))) (cK (.int 1))))
  (sRet (cBin .mod (cInt (cBin .fdiv (cIdx (cV 0) (cK (.int 0))) (cK (.int 7)))) (cV 1))))))))⟩

/-- _law_rounds: 0 script 1 most 2 cells 3 cell -/
def p1__law_rounds (O : Orc) : CF := (fComp (.n 3) (iSeq (cV 2)) none (cCall O 14 [] (csC (cV 3) cs0)))
def d__law_rounds (O : Orc) : Df := ⟨2, 4, (sScr 0 1 2 (sSeq (sIf (cCmp .eq (cV 2) (cFrz (fLst cs0)))
  (sSet 2 (cFrz (fLst (csC (cK (.int 0)) cs0))))
  sPass)
  (sRet (cFrz (p1__law_rounds O)))))⟩

/-- _law_looks: 0 dice 1 seed 2 size 3 many 4 here 5 due 6 told 7 k 8 paper 9 ranked 10 name 11 first 12 second 13 over 14 under 15 one 16 two 17 row 18 margin 19 total -/
def w1__law_looks (O : Orc) : C := (cCmp .lt (cLen (cV 5)) (cV 3))
def b1__law_looks (O : Orc) : CS := (sSeq (sSet 4 (cBin .mod (cBin .add (cBin .mul (cV 4) (cK (.int 1103515245))) (cK (.int 12345))) (cK (.int 2147483648))))
  (sSet 5 (cBin .add (cV 5) (cBin .mul (cFrz (fLst (csC (cBin .mod (cBin .fdiv (cV 4) (cK (.int 65536))) (cV 2)) cs0))) (cInt (cCmp .notin (cBin .mod (cBin .fdiv (cV 4) (cK (.int 65536))) (cV 2)) (cV 5)))))))
def p1__law_looks (O : Orc) : CF := (fComp (.n 7) (iRange (cK (.int 0)) (cV 2)) none (cIdx (cFrz (fLst (csC (cK (.str "ann")) (csC (cK (.str "bob")) (csC (cK (.str "cy")) (csC (cK (.str "")) cs0)))))) (cCall O 15 [] (csC (cV 0) (csC (cK (.int 4)) cs0)))))
def p2__law_looks (O : Orc) : CF := (fComp (.n 7) (iRange (cK (.int 0)) (cV 2)) none (cIf (cCmp .gt (cCall O 15 [] (csC (cV 0) (csC (cK (.int 3)) cs0))) (cK (.int 0))) (cIdx (cV 6) (cV 7)) (cIdx (cFrz (fLst (csC (cK (.str "ann")) (csC (cK (.str "bob")) (csC (cK (.str "cy")) (csC (cK (.str "")) cs0)))))) (cCall O 15 [] (csC (cV 0) (csC (cK (.int 4)) cs0))))))
def p3__law_looks (O : Orc) : CF := (fComp (.n 10) (iSeq (cFrz (fLst (csC (cK (.str "ann")) (csC (cK (.str "bob")) (csC (cK (.str "cy")) cs0)))))) (some (cCmp .inn (cV 10) (cV 6))) (cTup (csC (cNeg (cCount (cV 6) (cV 10))) (csC (cV 10) cs0))))
def p4__law_looks (O : Orc) : CF := (fComp (.n 17) (iSeq (cFrz (fLst (csC (cV 6) (csC (cV 8) cs0))))) none (cBin .sub (cInt (cCmp .eq (cIdx (cV 17) (cV 7)) (cV 11))) (cInt (cCmp .eq (cIdx (cV 17) (cV 7)) (cV 12)))))
def b2__law_looks (O : Orc) : CS := (sSeq (sUnp [15, 16] (cFrz (p4__law_looks O)))
  (sPar [.v 13 (cBin .add (cV 13) (cMax2 (cK (.int 0)) (cBin .sub (cV 15) (cV 16)))), .v 14 (cBin .add (cV 14) (cMax2 (cK (.int 0)) (cBin .sub (cV 16) (cV 15))))]))
def p5__law_looks (O : Orc) : CF := (fComp (.n 10) (iSeq (cFrz (fLst (csC (cK (.str "ann")) (csC (cK (.str "bob")) (csC (cK (.str "cy")) (csC (cK (.str "")) cs0))))))) none (cCall O 12 [] (csC (cV 10) (csC (cFrz (fLst (csC (cV 11) (csC (cV 12) cs0)))) cs0))))
def p6__law_looks (O : Orc) : CF := (fComp (.n 10) (iSeq (cFrz (fLst (csC (cK (.str "ann")) (csC (cK (.str "bob")) (csC (cK (.str "cy")) (csC (cK (.str "")) cs0))))))) none (cBin .sub (cInt (cCmp .eq (cV 10) (cV 11))) (cInt (cCmp .eq (cV 10) (cV 12)))))
def d__law_looks (O : Orc) : Df := ⟨1, 20, (sSeq (sPar [.v 1 (cCall O 15 [] (csC (cV 0) (csC (cK (.int 100000)) cs0))), .v 2 (cBin .add (cK (.int 1)) (cCall O 15 [] (csC (cV 0) (csC (cK (.int 12)) cs0))))])
  (sSeq (sPar [.v 3 (cCall O 15 [] (csC (cV 0) (csC (cBin .add (cV 2) (cK (.int 1))) cs0))), .v 4 (cV 1), .v 5 (cFrz (fLst cs0))])
  (sSeq (sWhile (w1__law_looks O) (b1__law_looks O) 1000000)
  (sSeq (sIf (cCmp .ne (cFrz (fLstO (cCall O 10 [] (csC (cV 1) (csC (cV 2) (csC (cV 3) cs0)))))) (cV 5))
  (sRet (cK (.bl false)))
  sPass)
  (sSeq (sSet 6 (cFrz (p1__law_looks O)))
  (sSeq (sSet 8 (cFrz (p2__law_looks O)))
  (sSeq (sSet 9 (cFrz (fSortO (cFrz (p3__law_looks O)))))
  (sSeq (sIf (cCmp .lt (cLen (cV 9)) (cK (.int 2)))
  (sRet (cCmp .eq (cTold [1] (.str "StationError") (cCall O 11 [] (csC (cV 8) (csC (cV 6) (csC (cV 5) cs0))))) (cK (.str "StationError"))))
  sPass)
  (sSeq (sPar [.v 11 (cIdx (cIdx (cV 9) (cK (.int 0))) (cK (.int 1))), .v 12 (cIdx (cIdx (cV 9) (cK (.int 1))) (cK (.int 1))), .v 13 (cK (.int 0)), .v 14 (cK (.int 0))])
  (sSeq (sFor (.n 7) (iSeq (cV 5)) (b2__law_looks O))
  (sSeq (sIf (cOr (cCmp .ne (cCall O 11 [] (csC (cV 8) (csC (cV 6) (csC (cV 5) cs0)))) (cTup (csC (cV 13) (csC (cV 14) cs0)))) (cCmp .ne (cFrz (p5__law_looks O)) (cFrz (p6__law_looks O))))
  (sRet (cK (.bl false)))
  sPass)
  (sSeq (sPar [.v 18 (cBin .add (cK (.int 1)) (cCall O 15 [] (csC (cV 0) (csC (cK (.int 20)) cs0)))), .v 19 (cBin .add (cK (.int 1)) (cCall O 15 [] (csC (cV 0) (csC (cK (.int 90)) cs0))))])
  (sRet (cCmp .eq (cCall O 13 [] (csC (cV 18) (csC (cV 19) (csC (cBin .mul (cV 3) (cK (.int 9))) (csC (cV 13) cs0))))) (cCmp .gt (cBin .mul (cBin .mul (cV 3) (cK (.int 9))) (cV 18)) (cBin .add (cBin .mul (cK (.int 5)) (cV 19)) (cBin .mul (cBin .mul (cK (.int 2)) (cV 13)) (cV 19))))))))))))))))))⟩

/-- _law_plain: 0 station 1 bad 2 f -/
def lams__law_plain (O : Orc) : List C :=
  [(cNew O 0 0 [] (csC (cK (.str "")) (csC (cK (.int 1)) (csC (cFrz (fLst cs0)) cs0)))),
  (cNew O 0 0 [] (csC (cK (.str "x")) (csC (cNeg (cK (.int 1))) (csC (cFrz (fLst cs0)) cs0)))),
  (cNew O 0 0 [] (csC (cK (.str "x")) (csC (cK (.int 2001)) (csC (cFrz (fLst cs0)) cs0)))),
  (cMeth O 0 1 [] (cV 0) (csC (cK (.str "z")) cs0)),
  (cMeth O 0 3 [] (cV 0) (csC (cK (.str "a")) cs0)),
  (cMeth O 0 3 [] (cV 0) (csC (cK (.str "b")) cs0)),
  (cMeth O 0 3 [] (cV 0) (csC (cK (.str "c")) cs0)),
  (cMeth O 0 5 [] (cV 0) (csC (cK (.str "c")) cs0)),
  (cMeth O 0 4 [] (cV 0) (csC (cK (.str "a")) cs0)),
  (cCall O 10 [] (csC (cK (.int 1)) (csC (cK (.int 2)) (csC (cK (.int 3)) cs0)))),
  (cCall O 10 [] (csC (cNeg (cK (.int 1))) (csC (cK (.int 2)) (csC (cK (.int 1)) cs0)))),
  (cCall O 10 [] (csC (cK (.int 1)) (csC (cK (.int 2)) (csC (cNeg (cK (.int 1))) cs0)))),
  (cCall O 11 [] (csC (cFrz (fLst (csC (cK (.str "a")) cs0))) (csC (cFrz (fLst cs0)) (csC (cFrz (fLst cs0)) cs0)))),
  (cCall O 11 [] (csC (cFrz (fLst (csC (cK (.str "a")) cs0))) (csC (cFrz (fLst (csC (cK (.str "a")) cs0))) (csC (cFrz (fLst (csC (cK (.int 0)) cs0))) cs0)))),
  (cCall O 11 [] (csC (cFrz (fLst (csC (cK (.str "a")) (csC (cK (.str "b")) cs0)))) (csC (cFrz (fLst (csC (cK (.str "a")) (csC (cK (.str "b")) cs0)))) (csC (cFrz (fLst (csC (cK (.int 2)) cs0))) cs0)))),
  (cCall O 13 [] (csC (cK (.int 0)) (csC (cK (.int 1)) (csC (cK (.int 1)) (csC (cK (.int 1)) cs0))))),
  (cCall O 13 [] (csC (cK (.int 1)) (csC (cK (.int 0)) (csC (cK (.int 1)) (csC (cK (.int 1)) cs0))))),
  (cCall O 13 [] (csC (cK (.int 1)) (csC (cK (.int 1)) (csC (cNeg (cK (.int 1))) (csC (cK (.int 1)) cs0))))),
  (cCall O 13 [] (csC (cK (.int 1)) (csC (cK (.int 1)) (csC (cK (.int 1)) (csC (cNeg (cK (.int 1))) cs0)))))]
def d__law_plain (O : Orc) : Df := ⟨0, 3, (sSeq (sSet 0 (cNew O 0 0 [] (csC (cK (.str "hall")) (csC (cK (.int 2)) (csC (cFrz (fLst (csC (cK (.str "a")) (csC (cK (.str "b")) (csC (cK (.str "c")) cs0))))) cs0)))))
  (sSeq (sExp (cMeth O 0 3 [] (cV 0) (csC (cK (.str "a")) cs0)))
  (sSeq (sExp (cMeth O 0 5 [] (cV 0) (csC (cK (.str "a")) cs0)))
  (sSeq (sExp (cMeth O 0 3 [] (cV 0) (csC (cK (.str "b")) cs0)))
  (sLams 1 [1] (lams__law_plain O) (sIfThen (cCmp .ne (cK (.int 2000)) (cK (.int 2000)))
  (sRet (cK (.bl false)))
  (sSeq (sIf (cCmp .ne (cMeth O 0 8 [] (cV 0) (csC (cK (.int 1)) (csC (cK (.int 0)) cs0))) (cTup (csC (cK (.str "open")) cs0)))
  (sRet (cK (.bl false)))
  sPass)
  (sSeq (sExp (cMeth O 0 6 [] (cV 0) cs0))
  (sSeq (sExp (cMeth O 0 4 [] (cV 0) (csC (cK (.str "b")) cs0)))
  (sSeq (sIf (cNot (cAnd (cCmp .eq (cMeth O 0 7 [] (cV 0) cs0) (cTup (csC (cK (.int 2)) (csC (cK (.int 1)) (csC (cK (.int 1)) (csC (cK (.int 0)) cs0)))))) (cAnd (cCmp .eq (cMeth O 0 8 [] (cV 0) (csC (cK (.int 2)) (csC (cK (.int 0)) cs0))) (cTup (csC (cK (.str "ballots 1")) cs0))) (cCmp .eq (cMeth O 0 9 [] (cV 0) cs0) (cK (.int 3333))))))
  (sRet (cK (.bl false)))
  sPass)
  (sRet (cAnd (cCmp .eq (cTold [1] (.str "StationError") (cMeth O 0 3 [] (cV 0) (csC (cK (.str "b")) cs0))) (cK (.str "StationError"))) (cAnd (cCmp .eq (cTold [1] (.str "StationError") (cMeth O 0 6 [] (cV 0) cs0)) (cK (.str "StationError"))) (cCmp .eq (cMeth O 0 9 [] (cNew O 0 0 [] (csC (cK (.str "x")) (csC (cK (.int 0)) (csC (cFrz (fLst cs0)) cs0)))) cs0) (cK (.int 0))))))))))))))))⟩

/-- law: 0 script 1 dice 2 voters 3 blanks 4 k 5 station 6 rows 7 is_open 8 step 9 voter 10 sort 11 last 12 one 13 deed 14 given 15 good 16 many 17 word 18 two 19 counted 20 left 21 due -/
def p1_law (O : Orc) : CF := (fComp (.n 4) (iRange (cK (.int 0)) (cBin .add (cK (.int 1)) (cCall O 15 [] (csC (cV 1) (csC (cK (.int 5)) cs0))))) none (cBin .add (cK (.str "v")) (cStr (cV 4))))
def p2_law (O : Orc) : CF := (fComp (.t [12, 13]) (iSeq (cV 6)) (some (cCmp .eq (cV 12) (cV 9))) (cV 13))
def p3_law (O : Orc) : CF := (fComp (.t [12, 13]) (iSeq (cV 6)) (some (cCmp .eq (cV 13) (cK (.str "given")))) (cK (.int 1)))
def p4_law (O : Orc) : CF := (fComp (.t [12, 13]) (iSeq (cV 6)) (some (cCmp .eq (cV 13) (cV 17))) (cK (.int 1)))
def p5_law (O : Orc) : CF := (fComp (.n 17) (iSeq (cFrz (fLst (csC (cK (.str "given")) (csC (cK (.str "spoiled")) (csC (cK (.str "put")) cs0)))))) none (cLen (cFrz (p4_law O))))
def p6_law (O : Orc) : CF := (fComp (.n 12) (iSeq (cV 2)) none (cMeth O 0 1 [] (cV 5) (csC (cV 12) cs0)))
def p7_law (O : Orc) : CF := (fComp (.t [18, 13]) (iSeq (cV 6)) (some (cCmp .eq (cV 18) (cV 12))) (cV 13))
def p8_law (O : Orc) : CF := (fComp (.n 12) (iSeq (cV 2)) none (cIdx (cBin .add (cFrz (fLst (csC (cK (.str "")) cs0))) (cFrz (p7_law O))) (cNeg (cK (.int 1)))))
def b1_law (O : Orc) : CS := (sSeq (sPar [.v 9 (cIdx (cBin .add (cV 2) (cFrz (fLst (csC (cK (.str "z")) cs0)))) (cCall O 15 [] (csC (cV 1) (csC (cBin .add (cLen (cV 2)) (cK (.int 1))) cs0)))), .v 10 (cCall O 15 [] (csC (cV 1) (csC (cK (.int 8)) cs0)))])
  (sSeq (sSet 11 (cIdx (cBin .add (cFrz (fLst (csC (cK (.str "")) cs0))) (cFrz (p2_law O))) (cNeg (cK (.int 1)))))
  (sSeq (sSet 14 (cLen (cFrz (p3_law O))))
  (sSeq (sIf (cAnd (cCmp .eq (cV 10) (cK (.int 7))) (cCmp .eq (cCall O 15 [] (csC (cV 1) (csC (cK (.int 3)) cs0))) (cK (.int 0))))
  (sSeq (sIf (cCmp .eq (cCmp .eq (cTold [1] (.str "StationError") (cMeth O 0 6 [] (cV 5) cs0)) (cK (.str "StationError"))) (cV 7))
  (sRet (cK (.bl false)))
  sPass)
  (sSet 7 (cK (.bl false))))
  (sIf (cCmp .lt (cV 10) (cK (.int 3)))
  (sSeq (sSet 15 (cAnd (cCmp .ne (cV 9) (cK (.str "z"))) (cAnd (cCmp .inn (cV 11) (cFrz (fLst (csC (cK (.str "")) (csC (cK (.str "spoiled")) cs0))))) (cAnd (cCmp .lt (cV 14) (cV 3)) (cV 7)))))
  (sSeq (sIf (cCmp .eq (cCmp .eq (cTold [1] (.str "StationError") (cMeth O 0 3 [] (cV 5) (csC (cV 9) cs0))) (cK (.str "StationError"))) (cV 15))
  (sRet (cK (.bl false)))
  sPass)
  (sSet 6 (cBin .add (cV 6) (cBin .mul (cFrz (fLst (csC (cTup (csC (cV 9) (csC (cK (.str "given")) cs0))) cs0))) (cInt (cV 15)))))))
  (sSeq (sSet 15 (cAnd (cCmp .ne (cV 9) (cK (.str "z"))) (cAnd (cCmp .eq (cV 11) (cK (.str "given"))) (cOr (cCmp .eq (cV 10) (cK (.int 3))) (cV 7)))))
  (sSeq (sIf (cCmp .eq (cCmp .eq (cTold [1] (.str "StationError") (cIf (cCmp .eq (cV 10) (cK (.int 3))) (cMeth O 0 4 [] (cV 5) (csC (cV 9) cs0)) (cMeth O 0 5 [] (cV 5) (csC (cV 9) cs0)))) (cK (.str "StationError"))) (cV 15))
  (sRet (cK (.bl false)))
  sPass)
  (sSet 6 (cBin .add (cV 6) (cBin .mul (cFrz (fLst (csC (cTup (csC (cV 9) (csC (cIf (cCmp .eq (cV 10) (cK (.int 3))) (cK (.str "spoiled")) (cK (.str "put"))) cs0))) cs0))) (cInt (cV 15)))))))))
  (sSeq (sSet 16 (cFrz (p5_law O)))
  (sSeq (sIf (cOr (cCmp .ne (cFld (cV 5) 3) (cV 6)) (cCmp .ne (cMeth O 0 7 [] (cV 5) cs0) (cTup (csC (cIdx (cV 16) (cK (.int 0))) (csC (cIdx (cV 16) (cK (.int 1))) (csC (cIdx (cV 16) (cK (.int 2))) (csC (cBin .sub (cBin .sub (cIdx (cV 16) (cK (.int 0))) (cIdx (cV 16) (cK (.int 1)))) (cIdx (cV 16) (cK (.int 2)))) cs0)))))))
  (sRet (cK (.bl false)))
  sPass)
  (sSeq (sIf (cOr (cCmp .ne (cMeth O 0 2 [] (cV 5) cs0) (cBin .sub (cV 3) (cIdx (cV 16) (cK (.int 0))))) (cCmp .ne (cFld (cV 5) 4) (cV 7)))
  (sRet (cK (.bl false)))
  sPass)
  (sSeq (sIf (cCmp .ne (cFrz (p6_law O)) (cFrz (p8_law O)))
  (sRet (cK (.bl false)))
  sPass)
  (sSeq (sIf (cCmp .ne (cMeth O 0 9 [] (cV 5) cs0) (cBin .fdiv (cBin .mul (cIdx (cV 16) (cK (.int 2))) (cK (.int 10000))) (cLen (cV 2))))
  (sRet (cK (.bl false)))
  sPass)
  (sSeq (sPar [.v 19 (cBin .sub (cBin .add (cIdx (cV 16) (cK (.int 2))) (cCall O 15 [] (csC (cV 1) (csC (cK (.int 3)) cs0)))) (cK (.int 1))), .v 20 (cBin .sub (cBin .add (cBin .sub (cV 3) (cIdx (cV 16) (cK (.int 0)))) (cCall O 15 [] (csC (cV 1) (csC (cK (.int 3)) cs0)))) (cK (.int 1)))])
  (sSeq (sSet 21 (cBin .add (cBin .add (cBin .mul (cFrz (fLst (csC (cBin .add (cK (.str "ballots ")) (cStr (cBin .sub (cV 19) (cIdx (cV 16) (cK (.int 2)))))) cs0))) (cInt (cCmp .ne (cV 19) (cIdx (cV 16) (cK (.int 2)))))) (cBin .mul (cFrz (fLst (csC (cBin .add (cK (.str "blanks ")) (cStr (cBin .add (cBin .sub (cV 20) (cV 3)) (cIdx (cV 16) (cK (.int 0)))))) cs0))) (cInt (cCmp .ne (cV 20) (cBin .sub (cV 3) (cIdx (cV 16) (cK (.int 0)))))))) (cBin .mul (cFrz (fLst (csC (cK (.str "open")) cs0))) (cInt (cV 7)))))
  (sIf (cCmp .ne (cFrz (fLstO (cMeth O 0 8 [] (cV 5) (csC (cV 19) (csC (cV 20) cs0))))) (cV 21))
  (sRet (cK (.bl false)))
  sPass))))))))))))
def b2_law (O : Orc) : CS := (sSeq (sPar [.v 2 (cFrz (p1_law O)), .v 3 (cCall O 15 [] (csC (cV 1) (csC (cK (.int 9)) cs0)))])
  (sSeq (sPar [.v 5 (cNew O 0 0 [] (csC (cK (.str "hall")) (csC (cV 3) (csC (cV 2) cs0)))), .v 6 (cFrz (fLst cs0)), .v 7 (cK (.bl true))])
  (sSeq (sFor (.n 8) (iRange (cK (.int 0)) (cCall O 15 [] (csC (cV 1) (csC (cK (.int 31)) cs0)))) (b1_law O))
  (sIf (cNot (cCall O 18 [] (csC (cV 1) cs0)))
  (sRet (cK (.bl false)))
  sPass))))
def d_law (O : Orc) : Df := ⟨1, 22, (sForScr O 16 0 (.n 1)
  (b2_law O)
  (sRet (cCall O 19 [] cs0)))⟩

/-- the defs: 0 Station.__init__, 1 Station.state, 2 Station.blanks_left, 3 Station.give, 4 Station.spoil, 5 Station.put, 6 Station.close, 7 Station.deeds, 8 Station.faults, 9 Station.turnout, 10 drawn, 11 checked, 12 margin_of, 13 enough_checked, 14 _law_dice, 15 _law_roll, 16 _law_rounds, 17 _law_told, 18 _law_looks, 19 _law_plain, 20 law -/
def tbl (O : Orc) (n : Nat) : Option Df := match n with
  | 0 => some (d_Station_init O)
  | 1 => some (d_Station_state O)
  | 2 => some (d_Station_blanks_left O)
  | 3 => some (d_Station_give O)
  | 4 => some (d_Station_spoil O)
  | 5 => some (d_Station_put O)
  | 6 => some (d_Station_close O)
  | 7 => some (d_Station_deeds O)
  | 8 => some (d_Station_faults O)
  | 9 => some (d_Station_turnout O)
  | 10 => some (d_drawn O)
  | 11 => some (d_checked O)
  | 12 => some (d_margin_of O)
  | 13 => some (d_enough_checked O)
  | 14 => some (d__law_dice O)
  | 15 => some (d__law_roll O)
  | 16 => some (d__law_rounds O)
  | 18 => some (d__law_looks O)
  | 19 => some (d__law_plain O)
  | 20 => some (d_law O)
  | _ => none
def Plain : Prop := ∀ ns : List Int, ns.length ≤ 63 → ∃ h, callN tbl 12 20 [.lst (ns.map Val.int)] [] = .ok (.bl true) h
end K07

set_option maxRecDepth 100000
set_option maxHeartbeats 2000000
namespace K07
open Pk PySem PySem.Spec PyProof.Rows L2
def body0 : List Stmt := PySem.Challenge.pw_pollstack_k07_stations_that_come_out_eve.main.body
def clsBody : Stmt → List Stmt
  | .ClassDef _ _ _ b _ _ _ _ _ _ _ => b
  | _ => []
abbrev N_Station_init : List Str := ["self", "name", "ballots", "voters", "voter"]
theorem nd_Station_init : N_Station_init.Nodup := by decide +kernel
def st_Station_init : Stmt := (clsBody ((body0).getD 5 (.Pass default))).getD 0 (.Pass default)

abbrev N_Station_state : List Str := ["self", "voter", "found", "one", "deed"]
theorem nd_Station_state : N_Station_state.Nodup := by decide +kernel
def st_Station_state : Stmt := (clsBody ((body0).getD 5 (.Pass default))).getD 1 (.Pass default)

abbrev N_Station_blanks_left : List Str := ["self", "voter", "deed"]
theorem nd_Station_blanks_left : N_Station_blanks_left.Nodup := by decide +kernel
def st_Station_blanks_left : Stmt := (clsBody ((body0).getD 5 (.Pass default))).getD 2 (.Pass default)

abbrev N_Station_give : List Str := ["self", "voter"]
theorem nd_Station_give : N_Station_give.Nodup := by decide +kernel
def st_Station_give : Stmt := (clsBody ((body0).getD 5 (.Pass default))).getD 3 (.Pass default)

abbrev N_Station_spoil : List Str := ["self", "voter"]
theorem nd_Station_spoil : N_Station_spoil.Nodup := by decide +kernel
def st_Station_spoil : Stmt := (clsBody ((body0).getD 5 (.Pass default))).getD 4 (.Pass default)

abbrev N_Station_put : List Str := ["self", "voter"]
theorem nd_Station_put : N_Station_put.Nodup := by decide +kernel
def st_Station_put : Stmt := (clsBody ((body0).getD 5 (.Pass default))).getD 5 (.Pass default)

abbrev N_Station_close : List Str := ["self"]
theorem nd_Station_close : N_Station_close.Nodup := by decide +kernel
def st_Station_close : Stmt := (clsBody ((body0).getD 5 (.Pass default))).getD 6 (.Pass default)

abbrev N_Station_deeds : List Str := ["self", "many", "voter", "deed", "word"]
theorem nd_Station_deeds : N_Station_deeds.Nodup := by decide +kernel
def st_Station_deeds : Stmt := (clsBody ((body0).getD 5 (.Pass default))).getD 7 (.Pass default)

abbrev N_Station_faults : List Str := ["self", "counted", "blanks", "found"]
theorem nd_Station_faults : N_Station_faults.Nodup := by decide +kernel
def st_Station_faults : Stmt := (clsBody ((body0).getD 5 (.Pass default))).getD 8 (.Pass default)

abbrev N_Station_turnout : List Str := ["self"]
theorem nd_Station_turnout : N_Station_turnout.Nodup := by decide +kernel
def st_Station_turnout : Stmt := (clsBody ((body0).getD 5 (.Pass default))).getD 9 (.Pass default)

abbrev N_drawn : List Str := ["seed", "size", "many", "found", "here", "turns", "number"]
theorem nd_drawn : N_drawn.Nodup := by decide +kernel
def st_drawn : Stmt := (body0).getD 6 (.Pass default)

abbrev N_checked : List Str := ["paper", "told", "places", "place", "table", "name", "order", "less", "over", "under", "shift"]
theorem nd_checked : N_checked.Nodup := by decide +kernel
theorem dot_checked : (".0" : Str) ∉ N_checked := by decide +kernel
def st_checked : Stmt := (body0).getD 7 (.Pass default)

abbrev N_margin_of : List Str := ["name", "order"]
theorem nd_margin_of : N_margin_of.Nodup := by decide +kernel
def st_margin_of : Stmt := (body0).getD 8 (.Pass default)

abbrev N_enough_checked : List Str := ["margin", "total", "many", "over"]
theorem nd_enough_checked : N_enough_checked.Nodup := by decide +kernel
def st_enough_checked : Stmt := (body0).getD 9 (.Pass default)

abbrev N__law_dice : List Str := ["cell"]
theorem nd__law_dice : N__law_dice.Nodup := by decide +kernel
def st__law_dice : Stmt := (body0).getD 11 (.Pass default)

abbrev N__law_roll : List Str := ["dice", "many", "found"]
theorem nd__law_roll : N__law_roll.Nodup := by decide +kernel
def st__law_roll : Stmt := (body0).getD 12 (.Pass default)

abbrev N__law_rounds : List Str := ["script", "most", "cells", "cell"]
theorem nd__law_rounds : N__law_rounds.Nodup := by decide +kernel
def st__law_rounds : Stmt := (body0).getD 13 (.Pass default)

def st__law_told : Stmt := (body0).getD 14 (.Pass default)

abbrev N__law_looks : List Str := ["dice", "seed", "size", "many", "here", "due", "told", "k", "paper", "ranked", "name", "first", "second", "over", "under", "one", "two", "row", "margin", "total"]
theorem nd__law_looks : N__law_looks.Nodup := by decide +kernel
def st__law_looks : Stmt := (body0).getD 15 (.Pass default)

abbrev N__law_plain : List Str := ["station", "bad", "f"]
theorem nd__law_plain : N__law_plain.Nodup := by decide +kernel
def st__law_plain : Stmt := (body0).getD 16 (.Pass default)

abbrev N_law : List Str := ["script", "dice", "voters", "blanks", "k", "station", "rows", "is_open", "step", "voter", "sort", "last", "one", "deed", "given", "good", "many", "word", "two", "counted", "left", "due"]
theorem nd_law : N_law.Nodup := by decide +kernel
def st_law : Stmt := (body0).getD 17 (.Pass default)

structure Tx (g : Gx) (K : PySem.W.Frag) (mg : Str → Option Value) (base : Heap) where
  fd_Station_init : FuncData
  fd_Station_state : FuncData
  fd_Station_blanks_left : FuncData
  fd_Station_give : FuncData
  fd_Station_spoil : FuncData
  fd_Station_put : FuncData
  fd_Station_close : FuncData
  fd_Station_deeds : FuncData
  fd_Station_faults : FuncData
  fd_Station_turnout : FuncData
  fd_drawn : FuncData
  fd_checked : FuncData
  fd_margin_of : FuncData
  fd_enough_checked : FuncData
  fd__law_dice : FuncData
  fd__law_roll : FuncData
  fd__law_rounds : FuncData
  fd__law_looks : FuncData
  fd__law_plain : FuncData
  fd_law : FuncData
  D_Station_init : FunD K "__init__" "Station.__init__" (defArgs st_Station_init) (defBody st_Station_init) (defScope st_Station_init) ([]) [] (He.fAd K ("Station", some "__init__")) fd_Station_init
  D_Station_state : FunD K "state" "Station.state" (defArgs st_Station_state) (defBody st_Station_state) (defScope st_Station_state) ([]) [] (He.fAd K ("Station", some "state")) fd_Station_state
  D_Station_blanks_left : FunD K "blanks_left" "Station.blanks_left" (defArgs st_Station_blanks_left) (defBody st_Station_blanks_left) (defScope st_Station_blanks_left) ([]) [] (He.fAd K ("Station", some "blanks_left")) fd_Station_blanks_left
  D_Station_give : FunD K "give" "Station.give" (defArgs st_Station_give) (defBody st_Station_give) (defScope st_Station_give) ([]) [] (He.fAd K ("Station", some "give")) fd_Station_give
  D_Station_spoil : FunD K "spoil" "Station.spoil" (defArgs st_Station_spoil) (defBody st_Station_spoil) (defScope st_Station_spoil) ([]) [] (He.fAd K ("Station", some "spoil")) fd_Station_spoil
  D_Station_put : FunD K "put" "Station.put" (defArgs st_Station_put) (defBody st_Station_put) (defScope st_Station_put) ([]) [] (He.fAd K ("Station", some "put")) fd_Station_put
  D_Station_close : FunD K "close" "Station.close" (defArgs st_Station_close) (defBody st_Station_close) (defScope st_Station_close) ([]) [] (He.fAd K ("Station", some "close")) fd_Station_close
  D_Station_deeds : FunD K "deeds" "Station.deeds" (defArgs st_Station_deeds) (defBody st_Station_deeds) (defScope st_Station_deeds) ([]) [] (He.fAd K ("Station", some "deeds")) fd_Station_deeds
  D_Station_faults : FunD K "faults" "Station.faults" (defArgs st_Station_faults) (defBody st_Station_faults) (defScope st_Station_faults) ([]) [] (He.fAd K ("Station", some "faults")) fd_Station_faults
  D_Station_turnout : FunD K "turnout" "Station.turnout" (defArgs st_Station_turnout) (defBody st_Station_turnout) (defScope st_Station_turnout) ([]) [] (He.fAd K ("Station", some "turnout")) fd_Station_turnout
  D_drawn : FunD K "drawn" "drawn" (defArgs st_drawn) (defBody st_drawn) (defScope st_drawn) ([]) [] (He.fAd K ("drawn", none)) fd_drawn
  D_checked : FunD K "checked" "checked" (defArgs st_checked) (defBody st_checked) (defScope st_checked) ([]) [] (He.fAd K ("checked", none)) fd_checked
  D_margin_of : FunD K "margin_of" "margin_of" (defArgs st_margin_of) (defBody st_margin_of) (defScope st_margin_of) ([]) [] (He.fAd K ("margin_of", none)) fd_margin_of
  D_enough_checked : FunD K "enough_checked" "enough_checked" (defArgs st_enough_checked) (defBody st_enough_checked) (defScope st_enough_checked) ([]) [] (He.fAd K ("enough_checked", none)) fd_enough_checked
  D__law_dice : FunD K "_law_dice" "_law_dice" (defArgs st__law_dice) (defBody st__law_dice) (defScope st__law_dice) ([]) [] (He.fAd K ("_law_dice", none)) fd__law_dice
  D__law_roll : FunD K "_law_roll" "_law_roll" (defArgs st__law_roll) (defBody st__law_roll) (defScope st__law_roll) ([]) [] (He.fAd K ("_law_roll", none)) fd__law_roll
  D__law_rounds : FunD K "_law_rounds" "_law_rounds" (defArgs st__law_rounds) (defBody st__law_rounds) (defScope st__law_rounds) ([]) [] (He.fAd K ("_law_rounds", none)) fd__law_rounds
  D__law_looks : FunD K "_law_looks" "_law_looks" (defArgs st__law_looks) (defBody st__law_looks) (defScope st__law_looks) ([]) [] (He.fAd K ("_law_looks", none)) fd__law_looks
  D__law_plain : FunD K "_law_plain" "_law_plain" (defArgs st__law_plain) (defBody st__law_plain) (defScope st__law_plain) ([]) [] (He.fAd K ("_law_plain", none)) fd__law_plain
  D_law : FunD K "law" "law" (defArgs st_law) (defBody st_law) (defScope st_law) ([]) [] (He.fAd K ("law", none)) fd_law
  I_Station : Mk K (g.cls 0) (He.fAd K ("Station", some "__init__"))
  M_Station_blanks_left : Meth K (g.cls 0) "blanks_left" (He.fAd K ("Station", some "blanks_left"))
  M_Station_close : Meth K (g.cls 0) "close" (He.fAd K ("Station", some "close"))
  M_Station_deeds : Meth K (g.cls 0) "deeds" (He.fAd K ("Station", some "deeds"))
  M_Station_faults : Meth K (g.cls 0) "faults" (He.fAd K ("Station", some "faults"))
  M_Station_give : Meth K (g.cls 0) "give" (He.fAd K ("Station", some "give"))
  M_Station_put : Meth K (g.cls 0) "put" (He.fAd K ("Station", some "put"))
  M_Station_spoil : Meth K (g.cls 0) "spoil" (He.fAd K ("Station", some "spoil"))
  M_Station_state : Meth K (g.cls 0) "state" (He.fAd K ("Station", some "state"))
  M_Station_turnout : Meth K (g.cls 0) "turnout" (He.fAd K ("Station", some "turnout"))
  b_Station_blanks_left_0 : L2.Binds K fd_Station_blanks_left ["self"] []
  b_Station_close_0 : L2.Binds K fd_Station_close ["self"] []
  b_Station_deeds_0 : L2.Binds K fd_Station_deeds ["self"] []
  b_Station_faults_2 : L2.Binds K fd_Station_faults ["self", "counted", "blanks"] []
  b_Station_give_1 : L2.Binds K fd_Station_give ["self", "voter"] []
  b_Station_init_3 : L2.Binds K fd_Station_init ["self", "name", "ballots", "voters"] []
  b_Station_put_1 : L2.Binds K fd_Station_put ["self", "voter"] []
  b_Station_spoil_1 : L2.Binds K fd_Station_spoil ["self", "voter"] []
  b_Station_state_1 : L2.Binds K fd_Station_state ["self", "voter"] []
  b_Station_turnout_0 : L2.Binds K fd_Station_turnout ["self"] []
  b__law_dice_1 : L2.Binds K fd__law_dice ["cell"] []
  b__law_looks_1 : L2.Binds K fd__law_looks ["dice"] []
  b__law_plain_0 : L2.Binds K fd__law_plain [] []
  b__law_roll_2 : L2.Binds K fd__law_roll ["dice", "many"] []
  b__law_rounds_2 : L2.Binds K fd__law_rounds ["script", "most"] []
  b_checked_3 : L2.Binds K fd_checked ["paper", "told", "places"] []
  b_drawn_3 : L2.Binds K fd_drawn ["seed", "size", "many"] []
  b_enough_checked_4 : L2.Binds K fd_enough_checked ["margin", "total", "many", "over"] []
  b_margin_of_2 : L2.Binds K fd_margin_of ["name", "order"] []
  c_MOST_ROWS : ∃ t, mg "MOST_ROWS" = some (.int 2000 t)
  e_StationError : ErrF g K mg "StationError" 1
  f_0 : 0 < g.nf
  f_1 : 1 < g.nf
  f_2 : 2 < g.nf
  f_3 : 3 < g.nf
  f_4 : 4 < g.nf
  hm__law_looks : ((He.cT K ("_law_looks", none)).2, (("_law_looks.<locals>." : Str) ++ "<lambda>")) ∈ g.tabs
  hm__law_plain : ((He.cT K ("_law_plain", none)).2, (("_law_plain.<locals>." : Str) ++ "<lambda>")) ∈ g.tabs
  hm_checked : ((He.cT K ("checked", none)).2, (("checked.<locals>." : Str) ++ "<genexpr>")) ∈ g.tabs
  hm_law : ((He.cT K ("law", none)).2, (("law.<locals>." : Str) ++ "<lambda>")) ∈ g.tabs
  hu__law_looks : ∀ p ∈ g.tabs, p.1 = (He.cT K ("_law_looks", none)).2 → p.2 = (("_law_looks.<locals>." : Str) ++ "<lambda>")
  hu__law_plain : ∀ p ∈ g.tabs, p.1 = (He.cT K ("_law_plain", none)).2 → p.2 = (("_law_plain.<locals>." : Str) ++ "<lambda>")
  hu_checked : ∀ p ∈ g.tabs, p.1 = (He.cT K ("checked", none)).2 → p.2 = (("checked.<locals>." : Str) ++ "<genexpr>")
  hu_law : ∀ p ∈ g.tabs, p.1 = (He.cT K ("law", none)).2 → p.2 = (("law.<locals>." : Str) ++ "<lambda>")
  k__law_dice : PySem.W.keepIn K (.ref (He.fAd K ("_law_dice", none))) = true
  k__law_looks : PySem.W.keepIn K (.ref (He.fAd K ("_law_looks", none))) = true
  k__law_plain : PySem.W.keepIn K (.ref (He.fAd K ("_law_plain", none))) = true
  k__law_roll : PySem.W.keepIn K (.ref (He.fAd K ("_law_roll", none))) = true
  k__law_rounds : PySem.W.keepIn K (.ref (He.fAd K ("_law_rounds", none))) = true
  k_checked : PySem.W.keepIn K (.ref (He.fAd K ("checked", none))) = true
  k_drawn : PySem.W.keepIn K (.ref (He.fAd K ("drawn", none))) = true
  k_enough_checked : PySem.W.keepIn K (.ref (He.fAd K ("enough_checked", none))) = true
  k_margin_of : PySem.W.keepIn K (.ref (He.fAd K ("margin_of", none))) = true
  kc : ClsOk g K
  m_Station : mg "Station" = some (.ref (g.cls 0))
  m__law_dice : mg "_law_dice" = some (.ref (He.fAd K ("_law_dice", none)))
  m__law_looks : mg "_law_looks" = some (.ref (He.fAd K ("_law_looks", none)))
  m__law_plain : mg "_law_plain" = some (.ref (He.fAd K ("_law_plain", none)))
  m__law_roll : mg "_law_roll" = some (.ref (He.fAd K ("_law_roll", none)))
  m__law_rounds : mg "_law_rounds" = some (.ref (He.fAd K ("_law_rounds", none)))
  m_checked : mg "checked" = some (.ref (He.fAd K ("checked", none)))
  m_drawn : mg "drawn" = some (.ref (He.fAd K ("drawn", none)))
  m_enough_checked : mg "enough_checked" = some (.ref (He.fAd K ("enough_checked", none)))
  m_margin_of : mg "margin_of" = some (.ref (He.fAd K ("margin_of", none)))
  n_abs : mg "abs" = none
  n_any : mg "any" = none
  n_int : mg "int" = none
  n_len : mg "len" = none
  n_list : mg "list" = none
  n_max : mg "max" = none
  n_range : mg "range" = none
  n_sorted : mg "sorted" = none
  n_str : mg "str" = none
  n_tuple : mg "tuple" = none
  q_blanks_left : ∀ i, i < g.nf → g.fld i ≠ "blanks_left"
  q_close : ∀ i, i < g.nf → g.fld i ≠ "close"
  q_deeds : ∀ i, i < g.nf → g.fld i ≠ "deeds"
  q_faults : ∀ i, i < g.nf → g.fld i ≠ "faults"
  q_give : ∀ i, i < g.nf → g.fld i ≠ "give"
  q_put : ∀ i, i < g.nf → g.fld i ≠ "put"
  q_spoil : ∀ i, i < g.nf → g.fld i ≠ "spoil"
  q_state : ∀ i, i < g.nf → g.fld i ≠ "state"
  q_turnout : ∀ i, i < g.nf → g.fld i ≠ "turnout"
  tb__law_looks : LamX.TabB base mg (He.codeOf K ("_law_looks", none)) (He.cT K ("_law_looks", none)).2
  tb__law_plain : LamX.TabB base mg (He.codeOf K ("_law_plain", none)) (He.cT K ("_law_plain", none)).2
  tb_checked : LamX.TabB base mg (He.codeOf K ("checked", none)) (He.cT K ("checked", none)).2
  tb_law : LamX.TabB base mg (He.codeOf K ("law", none)) (He.cT K ("law", none)).2
  told : ToldF g K mg "_law_told" [1] "StationError"
  x_0 : g.fld 0 = "name"
  x_1 : g.fld 1 = "ballots"
  x_2 : g.fld 2 = "voters"
  x_3 : g.fld 3 = "rows"
  x_4 : g.fld 4 = "is_open"
structure Lv (g : Gx) (P : Program) (w : World) (K : PySem.W.Frag) (mg : Str → Option Value) (base : Heap) (T : Tx g K mg base) (O : Orc) (n : Nat) : Prop where
  F_Station_blanks_left : FnOk P w K mg base (L2.CX P w) (8 * n) (He.fAd K ("Station", some "blanks_left")) T.fd_Station_blanks_left ["self"] (spO g 1 (O 2))
  F_Station_close : FnOk P w K mg base (L2.CX P w) (8 * n) (He.fAd K ("Station", some "close")) T.fd_Station_close ["self"] (spO g 1 (O 6))
  F_Station_deeds : FnOk P w K mg base (L2.CX P w) (8 * n) (He.fAd K ("Station", some "deeds")) T.fd_Station_deeds ["self"] (spO g 1 (O 7))
  F_Station_faults : FnOk P w K mg base (L2.CX P w) (8 * n) (He.fAd K ("Station", some "faults")) T.fd_Station_faults ["self", "counted", "blanks"] (spO g 3 (O 8))
  F_Station_give : FnOk P w K mg base (L2.CX P w) (8 * n) (He.fAd K ("Station", some "give")) T.fd_Station_give ["self", "voter"] (spO g 2 (O 3))
  F_Station_init : FnOk P w K mg base (L2.CX P w) (8 * n) (He.fAd K ("Station", some "__init__")) T.fd_Station_init ["self", "name", "ballots", "voters"] (spO g 4 (O 0))
  F_Station_put : FnOk P w K mg base (L2.CX P w) (8 * n) (He.fAd K ("Station", some "put")) T.fd_Station_put ["self", "voter"] (spO g 2 (O 5))
  F_Station_spoil : FnOk P w K mg base (L2.CX P w) (8 * n) (He.fAd K ("Station", some "spoil")) T.fd_Station_spoil ["self", "voter"] (spO g 2 (O 4))
  F_Station_state : FnOk P w K mg base (L2.CX P w) (8 * n) (He.fAd K ("Station", some "state")) T.fd_Station_state ["self", "voter"] (spO g 2 (O 1))
  F_Station_turnout : FnOk P w K mg base (L2.CX P w) (8 * n) (He.fAd K ("Station", some "turnout")) T.fd_Station_turnout ["self"] (spO g 1 (O 9))
  F__law_dice : FnOk P w K mg base (L2.CX P w) (8 * n) (He.fAd K ("_law_dice", none)) T.fd__law_dice ["cell"] (spO g 1 (O 14))
  F__law_looks : FnOk P w K mg base (L2.CX P w) (8 * n) (He.fAd K ("_law_looks", none)) T.fd__law_looks ["dice"] (spO g 1 (O 18))
  F__law_plain : FnOk P w K mg base (L2.CX P w) (8 * n) (He.fAd K ("_law_plain", none)) T.fd__law_plain [] (spO g 0 (O 19))
  F__law_roll : FnOk P w K mg base (L2.CX P w) (8 * n) (He.fAd K ("_law_roll", none)) T.fd__law_roll ["dice", "many"] (spO g 2 (O 15))
  F__law_rounds : FnOk P w K mg base (L2.CX P w) (8 * n) (He.fAd K ("_law_rounds", none)) T.fd__law_rounds ["script", "most"] (spScr g K (O 16))
  F_checked : FnOk P w K mg base (L2.CX P w) (8 * n) (He.fAd K ("checked", none)) T.fd_checked ["paper", "told", "places"] (spO g 3 (O 11))
  F_drawn : FnOk P w K mg base (L2.CX P w) (8 * n) (He.fAd K ("drawn", none)) T.fd_drawn ["seed", "size", "many"] (spO g 3 (O 10))
  F_enough_checked : FnOk P w K mg base (L2.CX P w) (8 * n) (He.fAd K ("enough_checked", none)) T.fd_enough_checked ["margin", "total", "many", "over"] (spO g 4 (O 13))
  F_margin_of : FnOk P w K mg base (L2.CX P w) (8 * n) (He.fAd K ("margin_of", none)) T.fd_margin_of ["name", "order"] (spO g 2 (O 12))
section
variable {g : Gx} {P : Program} {w : World} {K : PySem.W.Frag} {mg : Str → Option Value} {base : Heap}
theorem sc_Station_init : FnScope N_Station_init ["self", "name", "ballots", "voters"] (defScope st_Station_init) := ⟨rfl, rfl, rfl, nd_Station_init, rfl, by decide +kernel, by decide +kernel⟩
theorem r_Station_init (T : Tx g K mg base) {O : Orc} {n : Nat} (Q : Lv g P w K mg base T O n) (cdv : Value) (A : Around) (outer : List Env) (s : Shared) (H : Hp) (E : XK) (hr : Room (8 * n + 7) (A.deeper (envOfC "Station.__init__" (defScope st_Station_init) s.heap.objs.size (He.fAd K ("Station", some "__init__")) (cdv)))) : SSs g Lx.no (cxOf (L2.CX P w) P w K mg base N_Station_init "Station.__init__" (defScope st_Station_init) (He.fAd K ("Station", some "__init__")) (cdv) A outer s H E) (WK E) (defBody st_Station_init) (d_Station_init O).body := by
  unfold d_Station_init; dsimp only
  exact (ss_cons (ss_if (st_bool (sw_or (st_cmp .eq (u65 hr) (SE.b (se_var 1)) (SE.b se_str)) (sw_or1 (st_not (st_chain .le .le (u65 hr) (SE.b se_int) (SE.b (se_var 2)) (SE.b (se_gint T.c_MOST_ROWS))))))) (ss_one (ss_err T.e_StationError rfl (takes_of rfl rfl rfl rfl))) ss_nil)
  (ss_cons (ss_fld 0 T.kc (se_var 0) (se_var 1) (hf := T.f_0) (hx := T.x_0))
  (ss_cons (ss_fld 1 T.kc (se_var 0) (se_var 2) (hf := T.f_1) (hx := T.x_1))
  (ss_cons (ss_fld 2 T.kc (se_var 0) (se_mk (sf_dcomp (t := (.n 4)) rfl nd_Station_init (SI.toE (si_seq (se_var 3))) (blkOk_by (own := [("voter", 4)]) (by kernel_rfl)) rfl (fun _ _ _ _ _ => (tg_n 4 nd_Station_init)) (fun _ _ _ _ _ => pts_nil) (fun _ _ _ _ _ => (se_var 4)) (fun _ _ _ _ _ => se_bl))) (hf := T.f_2) (hx := T.x_2))
  (ss_cons (ss_fld 3 T.kc (se_var 0) (se_mk (sf_lst sa_nil)) (hf := T.f_3) (hx := T.x_3))
  (ss_one (ss_fld 4 T.kc (se_var 0) se_bl (hf := T.f_4) (hx := T.x_4))))))))
theorem f_Station_init (T : Tx g K mg base) {O : Orc} {n : Nat} (Q : Lv g P w K mg base T O n) : FnOk P w K mg base (L2.CX P w) (8 * n + 7 + 1) (He.fAd K ("Station", some "__init__")) T.fd_Station_init ["self", "name", "ballots", "voters"] (spO g 4 (runD (d_Station_init O))) := fn_runD (k := 8 * n + 7) (at_ := ("Station", some "__init__")) (d := d_Station_init O) T.D_Station_init sc_Station_init rfl rfl (Nat.le_of_ble_eq_true rfl) (fun cdv _ A outer s H E hr => r_Station_init T Q cdv A outer s H E hr)
theorem sc_Station_state : FnScope N_Station_state ["self", "voter"] (defScope st_Station_state) := ⟨rfl, rfl, rfl, nd_Station_state, rfl, by decide +kernel, by decide +kernel⟩
theorem r_Station_state (T : Tx g K mg base) {O : Orc} {n : Nat} (Q : Lv g P w K mg base T O n) (cdv : Value) (A : Around) (outer : List Env) (s : Shared) (H : Hp) (E : XK) (hr : Room (8 * n + 7) (A.deeper (envOfC "Station.state" (defScope st_Station_state) s.heap.objs.size (He.fAd K ("Station", some "state")) (cdv)))) : SSs g Lx.no (cxOf (L2.CX P w) P w K mg base N_Station_state "Station.state" (defScope st_Station_state) (He.fAd K ("Station", some "state")) (cdv) A outer s H E) (WK E) (defBody st_Station_state) (d_Station_state O).body := by
  unfold d_Station_state; dsimp only
  exact (ss_cons (ss_if (st_cmp .notin (u65 hr) (SE.b (se_var 1)) (SE.b (se_fld 2 T.kc (SE.b (se_var 0)) (hf := T.f_2) (hx := T.x_2)))) (ss_one (ss_err T.e_StationError rfl (takes_of rfl rfl rfl rfl))) ss_nil)
  (ss_cons (ss_set 2 nd_Station_state se_str)
  (ss_cons (ss_for (passes_of rfl) rfl (si_seq (se_fld 3 T.kc (SE.b (se_var 0)) (hf := T.f_3) (hx := T.x_3))) (tg_t rfl (tgs_cons 3 (tgs_cons 4 tgs_nil nd_Station_state) nd_Station_state)) (ss_one (ss_set 2 nd_Station_state (se_if (st_cmp .eq (u65 hr) (SE.b (se_var 3)) (SE.b (se_var 1))) (se_var 4) (se_var 2)))))
  (ss_one (ss_ret (se_var 2))))))
theorem f_Station_state (T : Tx g K mg base) {O : Orc} {n : Nat} (Q : Lv g P w K mg base T O n) : FnOk P w K mg base (L2.CX P w) (8 * n + 7 + 1) (He.fAd K ("Station", some "state")) T.fd_Station_state ["self", "voter"] (spO g 2 (runD (d_Station_state O))) := fn_runD (k := 8 * n + 7) (at_ := ("Station", some "state")) (d := d_Station_state O) T.D_Station_state sc_Station_state rfl rfl (Nat.le_of_ble_eq_true rfl) (fun cdv _ A outer s H E hr => r_Station_state T Q cdv A outer s H E hr)
theorem sc_Station_blanks_left : FnScope N_Station_blanks_left ["self"] (defScope st_Station_blanks_left) := ⟨rfl, rfl, rfl, nd_Station_blanks_left, rfl, by decide +kernel, by decide +kernel⟩
theorem r_Station_blanks_left (T : Tx g K mg base) {O : Orc} {n : Nat} (Q : Lv g P w K mg base T O n) (cdv : Value) (A : Around) (outer : List Env) (s : Shared) (H : Hp) (E : XK) (hr : Room (8 * n + 7) (A.deeper (envOfC "Station.blanks_left" (defScope st_Station_blanks_left) s.heap.objs.size (He.fAd K ("Station", some "blanks_left")) (cdv)))) : SSs g Lx.no (cxOf (L2.CX P w) P w K mg base N_Station_blanks_left "Station.blanks_left" (defScope st_Station_blanks_left) (He.fAd K ("Station", some "blanks_left")) (cdv) A outer s H E) (WK E) (defBody st_Station_blanks_left) (d_Station_blanks_left O).body := by
  unfold d_Station_blanks_left; dsimp only
  exact (ss_one (ss_ret (se_bin .sub (SE.b (se_fld 1 T.kc (SE.b (se_var 0)) (hf := T.f_1) (hx := T.x_1))) (SE.b (se_len (hm := T.n_len) (ha := (SE.b (se_frz (sf_comp (t := (.t [1, 2])) rfl nd_Station_blanks_left (SI.toE (si_seq (se_fld 3 T.kc (SE.b (se_var 0)) (hf := T.f_3) (hx := T.x_3)))) (blkOk_by (own := [("voter", 1), ("deed", 2)]) (by kernel_rfl)) rfl (fun _ _ _ _ _ => (tg_t rfl (tgs_cons 1 (tgs_cons 2 tgs_nil nd_Station_blanks_left) nd_Station_blanks_left))) (fun _ _ _ _ _ => (pts_one (st_cmp .eq (u65 hr) (SE.b (se_var 2)) (SE.b se_str)))) (fun _ _ _ _ _ => se_int))))))))))
theorem f_Station_blanks_left (T : Tx g K mg base) {O : Orc} {n : Nat} (Q : Lv g P w K mg base T O n) : FnOk P w K mg base (L2.CX P w) (8 * n + 7 + 1) (He.fAd K ("Station", some "blanks_left")) T.fd_Station_blanks_left ["self"] (spO g 1 (runD (d_Station_blanks_left O))) := fn_runD (k := 8 * n + 7) (at_ := ("Station", some "blanks_left")) (d := d_Station_blanks_left O) T.D_Station_blanks_left sc_Station_blanks_left rfl rfl (Nat.le_of_ble_eq_true rfl) (fun cdv _ A outer s H E hr => r_Station_blanks_left T Q cdv A outer s H E hr)
theorem sc_Station_give : FnScope N_Station_give ["self", "voter"] (defScope st_Station_give) := ⟨rfl, rfl, rfl, nd_Station_give, rfl, by decide +kernel, by decide +kernel⟩
theorem r_Station_give (T : Tx g K mg base) {O : Orc} {n : Nat} (Q : Lv g P w K mg base T O n) (cdv : Value) (A : Around) (outer : List Env) (s : Shared) (H : Hp) (E : XK) (hr : Room (8 * n + 7) (A.deeper (envOfC "Station.give" (defScope st_Station_give) s.heap.objs.size (He.fAd K ("Station", some "give")) (cdv)))) : SSs g Lx.no (cxOf (L2.CX P w) P w K mg base N_Station_give "Station.give" (defScope st_Station_give) (He.fAd K ("Station", some "give")) (cdv) A outer s H E) (WK E) (defBody st_Station_give) (d_Station_give O).body := by
  unfold d_Station_give; dsimp only
  exact (ss_cons (ss_if (st_bool (sw_or (st_cmp .inn (u65 hr) (SE.b (se_meth T.kc (se_var 0) T.M_Station_state Q.F_Station_state (rm hr) T.b_Station_state_1 (dl := []) .nil (fun _ => rfl) (passes_call (takes_of rfl rfl rfl rfl) (fun _ _ _ _ h => h)) T.q_state (sa_cons (se_var 1) sa_nil) (hrl := (rl_c rl_0)))) (SE.b (se_tup (sa_cons se_str (sa_cons se_str sa_nil))))) (sw_or (st_cmp .lt (u65 hr) (SE.b (se_meth0 T.kc (se_var 0) T.M_Station_blanks_left Q.F_Station_blanks_left (rm hr) T.b_Station_blanks_left_0 (dl := []) .nil (fun _ => rfl) (passes_call (takes_of rfl rfl rfl rfl) (fun _ _ _ _ h => h)) T.q_blanks_left)) (SE.b se_int)) (sw_or1 (st_not (st_val (se_fld 4 T.kc (SE.b (se_var 0)) (hf := T.f_4) (hx := T.x_4)))))))) (ss_one (ss_err T.e_StationError rfl (takes_of rfl rfl rfl rfl))) ss_nil)
  (ss_one (ss_app (se_fld 3 T.kc (SE.b (se_var 0)) (hf := T.f_3) (hx := T.x_3)) (se_tup (sa_cons (se_var 1) (sa_cons se_str sa_nil))))))
theorem f_Station_give (T : Tx g K mg base) {O : Orc} {n : Nat} (Q : Lv g P w K mg base T O n) : FnOk P w K mg base (L2.CX P w) (8 * n + 7 + 1) (He.fAd K ("Station", some "give")) T.fd_Station_give ["self", "voter"] (spO g 2 (runD (d_Station_give O))) := fn_runD (k := 8 * n + 7) (at_ := ("Station", some "give")) (d := d_Station_give O) T.D_Station_give sc_Station_give rfl rfl (Nat.le_of_ble_eq_true rfl) (fun cdv _ A outer s H E hr => r_Station_give T Q cdv A outer s H E hr)
theorem sc_Station_spoil : FnScope N_Station_spoil ["self", "voter"] (defScope st_Station_spoil) := ⟨rfl, rfl, rfl, nd_Station_spoil, rfl, by decide +kernel, by decide +kernel⟩
theorem r_Station_spoil (T : Tx g K mg base) {O : Orc} {n : Nat} (Q : Lv g P w K mg base T O n) (cdv : Value) (A : Around) (outer : List Env) (s : Shared) (H : Hp) (E : XK) (hr : Room (8 * n + 7) (A.deeper (envOfC "Station.spoil" (defScope st_Station_spoil) s.heap.objs.size (He.fAd K ("Station", some "spoil")) (cdv)))) : SSs g Lx.no (cxOf (L2.CX P w) P w K mg base N_Station_spoil "Station.spoil" (defScope st_Station_spoil) (He.fAd K ("Station", some "spoil")) (cdv) A outer s H E) (WK E) (defBody st_Station_spoil) (d_Station_spoil O).body := by
  unfold d_Station_spoil; dsimp only
  exact (ss_cons (ss_if (st_cmp .ne (u65 hr) (SE.b (se_meth T.kc (se_var 0) T.M_Station_state Q.F_Station_state (rm hr) T.b_Station_state_1 (dl := []) .nil (fun _ => rfl) (passes_call (takes_of rfl rfl rfl rfl) (fun _ _ _ _ h => h)) T.q_state (sa_cons (se_var 1) sa_nil) (hrl := (rl_c rl_0)))) (SE.b se_str)) (ss_one (ss_err T.e_StationError rfl (takes_of rfl rfl rfl rfl))) ss_nil)
  (ss_one (ss_app (se_fld 3 T.kc (SE.b (se_var 0)) (hf := T.f_3) (hx := T.x_3)) (se_tup (sa_cons (se_var 1) (sa_cons se_str sa_nil))))))
theorem f_Station_spoil (T : Tx g K mg base) {O : Orc} {n : Nat} (Q : Lv g P w K mg base T O n) : FnOk P w K mg base (L2.CX P w) (8 * n + 7 + 1) (He.fAd K ("Station", some "spoil")) T.fd_Station_spoil ["self", "voter"] (spO g 2 (runD (d_Station_spoil O))) := fn_runD (k := 8 * n + 7) (at_ := ("Station", some "spoil")) (d := d_Station_spoil O) T.D_Station_spoil sc_Station_spoil rfl rfl (Nat.le_of_ble_eq_true rfl) (fun cdv _ A outer s H E hr => r_Station_spoil T Q cdv A outer s H E hr)
theorem sc_Station_put : FnScope N_Station_put ["self", "voter"] (defScope st_Station_put) := ⟨rfl, rfl, rfl, nd_Station_put, rfl, by decide +kernel, by decide +kernel⟩
theorem r_Station_put (T : Tx g K mg base) {O : Orc} {n : Nat} (Q : Lv g P w K mg base T O n) (cdv : Value) (A : Around) (outer : List Env) (s : Shared) (H : Hp) (E : XK) (hr : Room (8 * n + 7) (A.deeper (envOfC "Station.put" (defScope st_Station_put) s.heap.objs.size (He.fAd K ("Station", some "put")) (cdv)))) : SSs g Lx.no (cxOf (L2.CX P w) P w K mg base N_Station_put "Station.put" (defScope st_Station_put) (He.fAd K ("Station", some "put")) (cdv) A outer s H E) (WK E) (defBody st_Station_put) (d_Station_put O).body := by
  unfold d_Station_put; dsimp only
  exact (ss_cons (ss_if (st_bool (sw_or (st_cmp .ne (u65 hr) (SE.b (se_meth T.kc (se_var 0) T.M_Station_state Q.F_Station_state (rm hr) T.b_Station_state_1 (dl := []) .nil (fun _ => rfl) (passes_call (takes_of rfl rfl rfl rfl) (fun _ _ _ _ h => h)) T.q_state (sa_cons (se_var 1) sa_nil) (hrl := (rl_c rl_0)))) (SE.b se_str)) (sw_or1 (st_not (st_val (se_fld 4 T.kc (SE.b (se_var 0)) (hf := T.f_4) (hx := T.x_4))))))) (ss_one (ss_err T.e_StationError rfl (takes_of rfl rfl rfl rfl))) ss_nil)
  (ss_one (ss_app (se_fld 3 T.kc (SE.b (se_var 0)) (hf := T.f_3) (hx := T.x_3)) (se_tup (sa_cons (se_var 1) (sa_cons se_str sa_nil))))))
theorem f_Station_put (T : Tx g K mg base) {O : Orc} {n : Nat} (Q : Lv g P w K mg base T O n) : FnOk P w K mg base (L2.CX P w) (8 * n + 7 + 1) (He.fAd K ("Station", some "put")) T.fd_Station_put ["self", "voter"] (spO g 2 (runD (d_Station_put O))) := fn_runD (k := 8 * n + 7) (at_ := ("Station", some "put")) (d := d_Station_put O) T.D_Station_put sc_Station_put rfl rfl (Nat.le_of_ble_eq_true rfl) (fun cdv _ A outer s H E hr => r_Station_put T Q cdv A outer s H E hr)
theorem sc_Station_close : FnScope N_Station_close ["self"] (defScope st_Station_close) := ⟨rfl, rfl, rfl, nd_Station_close, rfl, by decide +kernel, by decide +kernel⟩
theorem r_Station_close (T : Tx g K mg base) {O : Orc} {n : Nat} (Q : Lv g P w K mg base T O n) (cdv : Value) (A : Around) (outer : List Env) (s : Shared) (H : Hp) (E : XK) (hr : Room (8 * n + 7) (A.deeper (envOfC "Station.close" (defScope st_Station_close) s.heap.objs.size (He.fAd K ("Station", some "close")) (cdv)))) : SSs g Lx.no (cxOf (L2.CX P w) P w K mg base N_Station_close "Station.close" (defScope st_Station_close) (He.fAd K ("Station", some "close")) (cdv) A outer s H E) (WK E) (defBody st_Station_close) (d_Station_close O).body := by
  unfold d_Station_close; dsimp only
  exact (ss_cons (ss_if (st_not (st_val (se_fld 4 T.kc (SE.b (se_var 0)) (hf := T.f_4) (hx := T.x_4)))) (ss_one (ss_err T.e_StationError rfl (takes_of rfl rfl rfl rfl))) ss_nil)
  (ss_one (ss_fld 4 T.kc (se_var 0) se_bl (hf := T.f_4) (hx := T.x_4))))
theorem f_Station_close (T : Tx g K mg base) {O : Orc} {n : Nat} (Q : Lv g P w K mg base T O n) : FnOk P w K mg base (L2.CX P w) (8 * n + 7 + 1) (He.fAd K ("Station", some "close")) T.fd_Station_close ["self"] (spO g 1 (runD (d_Station_close O))) := fn_runD (k := 8 * n + 7) (at_ := ("Station", some "close")) (d := d_Station_close O) T.D_Station_close sc_Station_close rfl rfl (Nat.le_of_ble_eq_true rfl) (fun cdv _ A outer s H E hr => r_Station_close T Q cdv A outer s H E hr)
theorem sc_Station_deeds : FnScope N_Station_deeds ["self"] (defScope st_Station_deeds) := ⟨rfl, rfl, rfl, nd_Station_deeds, rfl, by decide +kernel, by decide +kernel⟩
theorem r_Station_deeds (T : Tx g K mg base) {O : Orc} {n : Nat} (Q : Lv g P w K mg base T O n) (cdv : Value) (A : Around) (outer : List Env) (s : Shared) (H : Hp) (E : XK) (hr : Room (8 * n + 7) (A.deeper (envOfC "Station.deeds" (defScope st_Station_deeds) s.heap.objs.size (He.fAd K ("Station", some "deeds")) (cdv)))) : SSs g Lx.no (cxOf (L2.CX P w) P w K mg base N_Station_deeds "Station.deeds" (defScope st_Station_deeds) (He.fAd K ("Station", some "deeds")) (cdv) A outer s H E) (WK E) (defBody st_Station_deeds) (d_Station_deeds O).body := by
  unfold d_Station_deeds; dsimp only
  exact (ss_cons (ss_setLc 1 (t := (.n 4)) rfl nd_Station_deeds rfl rfl (sw_true rfl rfl rfl (by kernel_rfl)) (SI.toE (si_seq (se_tup (sa_cons se_str (sa_cons se_str (sa_cons se_str sa_nil)))))) (blkOk_by (own := [("word", 4)]) (by kernel_rfl)) rfl (fun _ _ _ _ _ => (tg_n 4 nd_Station_deeds)) (fun _ _ _ _ _ => pts_nil) (fun _ _ _ _ _ => (se_len (hm := T.n_len) (ha := (SE.b (se_frz (sf_comp (t := (.t [2, 3])) rfl nd_Station_deeds (SI.toE (si_seq (se_fld 3 T.kc (SE.b (se_var 0)) (hf := T.f_3) (hx := T.x_3)))) (blkOk_by (own := [("voter", 2), ("deed", 3)]) (by kernel_rfl)) rfl (fun _ _ _ _ _ => (tg_t rfl (tgs_cons 2 (tgs_cons 3 tgs_nil nd_Station_deeds) nd_Station_deeds))) (fun _ _ _ _ _ => (pts_one (st_cmp .eq (u65 hr) (SE.b (se_var 3)) (SE.b (se_var 4))))) (fun _ _ _ _ _ => se_int))))))))
  (ss_one (ss_ret (se_tup (sa_cons (se_idx (u65 hr) (SE.b (se_var 1)) (SE.b se_int)) (sa_cons (se_idx (u65 hr) (SE.b (se_var 1)) (SE.b se_int)) (sa_cons (se_idx (u65 hr) (SE.b (se_var 1)) (SE.b se_int)) (sa_cons (se_bin .sub (SE.b (se_bin .sub (SE.b (se_idx (u65 hr) (SE.b (se_var 1)) (SE.b se_int))) (SE.b (se_idx (u65 hr) (SE.b (se_var 1)) (SE.b se_int))))) (SE.b (se_idx (u65 hr) (SE.b (se_var 1)) (SE.b se_int)))) sa_nil))))))))
theorem f_Station_deeds (T : Tx g K mg base) {O : Orc} {n : Nat} (Q : Lv g P w K mg base T O n) : FnOk P w K mg base (L2.CX P w) (8 * n + 7 + 1) (He.fAd K ("Station", some "deeds")) T.fd_Station_deeds ["self"] (spO g 1 (runD (d_Station_deeds O))) := fn_runD (k := 8 * n + 7) (at_ := ("Station", some "deeds")) (d := d_Station_deeds O) T.D_Station_deeds sc_Station_deeds rfl rfl (Nat.le_of_ble_eq_true rfl) (fun cdv _ A outer s H E hr => r_Station_deeds T Q cdv A outer s H E hr)
theorem sc_Station_faults : FnScope N_Station_faults ["self", "counted", "blanks"] (defScope st_Station_faults) := ⟨rfl, rfl, rfl, nd_Station_faults, rfl, by decide +kernel, by decide +kernel⟩
theorem r_Station_faults (T : Tx g K mg base) {O : Orc} {n : Nat} (Q : Lv g P w K mg base T O n) (cdv : Value) (A : Around) (outer : List Env) (s : Shared) (H : Hp) (E : XK) (hr : Room (8 * n + 7) (A.deeper (envOfC "Station.faults" (defScope st_Station_faults) s.heap.objs.size (He.fAd K ("Station", some "faults")) (cdv)))) : SSs g Lx.no (cxOf (L2.CX P w) P w K mg base N_Station_faults "Station.faults" (defScope st_Station_faults) (He.fAd K ("Station", some "faults")) (cdv) A outer s H E) (WK E) (defBody st_Station_faults) (d_Station_faults O).body := by
  unfold d_Station_faults; dsimp only
  exact (ss_cons (ss_own 3 nd_Station_faults (sf_lst sa_nil))
  (ss_cons (ss_if (st_cmp .ne (u65 hr) (SE.b (se_var 1)) (SE.b (se_idx (u65 hr) (SE.b (se_meth0 T.kc (se_var 0) T.M_Station_deeds Q.F_Station_deeds (rm hr) T.b_Station_deeds_0 (dl := []) .nil (fun _ => rfl) (passes_call (takes_of rfl rfl rfl rfl) (fun _ _ _ _ h => h)) T.q_deeds)) (SE.b se_int)))) (ss_one (ss_appO 3 (se_fmt (SJ.cons se_str (SJ.cons (se_fv (se_bin .sub (SE.b (se_var 1)) (SE.b (se_idx (u65 hr) (SE.b (se_meth0 T.kc (se_var 0) T.M_Station_deeds Q.F_Station_deeds (rm hr) T.b_Station_deeds_0 (dl := []) .nil (fun _ => rfl) (passes_call (takes_of rfl rfl rfl rfl) (fun _ _ _ _ h => h)) T.q_deeds)) (SE.b se_int))))) SJ.nil))))) ss_nil)
  (ss_cons (ss_if (st_cmp .ne (u65 hr) (SE.b (se_var 2)) (SE.b (se_meth0 T.kc (se_var 0) T.M_Station_blanks_left Q.F_Station_blanks_left (rm hr) T.b_Station_blanks_left_0 (dl := []) .nil (fun _ => rfl) (passes_call (takes_of rfl rfl rfl rfl) (fun _ _ _ _ h => h)) T.q_blanks_left))) (ss_one (ss_appO 3 (se_fmt (SJ.cons se_str (SJ.cons (se_fv (se_bin .sub (SE.b (se_var 2)) (SE.b (se_meth0 T.kc (se_var 0) T.M_Station_blanks_left Q.F_Station_blanks_left (rm hr) T.b_Station_blanks_left_0 (dl := []) .nil (fun _ => rfl) (passes_call (takes_of rfl rfl rfl rfl) (fun _ _ _ _ h => h)) T.q_blanks_left)))) SJ.nil))))) ss_nil)
  (ss_one (ss_ret (se_tupO (hm := T.n_tuple) (ha := (SE.b (se_bin .add (sb_acc 3) (SE.b (se_if (st_val (se_fld 4 T.kc (SE.b (se_var 0)) (hf := T.f_4) (hx := T.x_4))) (se_frz (sf_lst (sa_cons se_str sa_nil))) (se_frz (sf_lst sa_nil)))))))))))))
theorem f_Station_faults (T : Tx g K mg base) {O : Orc} {n : Nat} (Q : Lv g P w K mg base T O n) : FnOk P w K mg base (L2.CX P w) (8 * n + 7 + 1) (He.fAd K ("Station", some "faults")) T.fd_Station_faults ["self", "counted", "blanks"] (spO g 3 (runD (d_Station_faults O))) := fn_runD (k := 8 * n + 7) (at_ := ("Station", some "faults")) (d := d_Station_faults O) T.D_Station_faults sc_Station_faults rfl rfl (Nat.le_of_ble_eq_true rfl) (fun cdv _ A outer s H E hr => r_Station_faults T Q cdv A outer s H E hr)
theorem sc_Station_turnout : FnScope N_Station_turnout ["self"] (defScope st_Station_turnout) := ⟨rfl, rfl, rfl, nd_Station_turnout, rfl, by decide +kernel, by decide +kernel⟩
theorem r_Station_turnout (T : Tx g K mg base) {O : Orc} {n : Nat} (Q : Lv g P w K mg base T O n) (cdv : Value) (A : Around) (outer : List Env) (s : Shared) (H : Hp) (E : XK) (hr : Room (8 * n + 7) (A.deeper (envOfC "Station.turnout" (defScope st_Station_turnout) s.heap.objs.size (He.fAd K ("Station", some "turnout")) (cdv)))) : SSs g Lx.no (cxOf (L2.CX P w) P w K mg base N_Station_turnout "Station.turnout" (defScope st_Station_turnout) (He.fAd K ("Station", some "turnout")) (cdv) A outer s H E) (WK E) (defBody st_Station_turnout) (d_Station_turnout O).body := by
  unfold d_Station_turnout; dsimp only
  exact (ss_one (ss_ret (se_if (st_cmp .dne (u65 hr) (SE.b (se_fld 2 T.kc (SE.b (se_var 0)) (hf := T.f_2) (hx := T.x_2))) (SE.b (se_frz sf_d0))) (se_bin .fdiv (SE.b (se_bin .mul (SE.b (se_idx (u65 hr) (SE.b (se_meth0 T.kc (se_var 0) T.M_Station_deeds Q.F_Station_deeds (rm hr) T.b_Station_deeds_0 (dl := []) .nil (fun _ => rfl) (passes_call (takes_of rfl rfl rfl rfl) (fun _ _ _ _ h => h)) T.q_deeds)) (SE.b se_int))) (SE.b se_int))) (SE.b (se_len (hm := T.n_len) (ha := (SE.b (se_fld 2 T.kc (SE.b (se_var 0)) (hf := T.f_2) (hx := T.x_2))))))) se_int)))
theorem f_Station_turnout (T : Tx g K mg base) {O : Orc} {n : Nat} (Q : Lv g P w K mg base T O n) : FnOk P w K mg base (L2.CX P w) (8 * n + 7 + 1) (He.fAd K ("Station", some "turnout")) T.fd_Station_turnout ["self"] (spO g 1 (runD (d_Station_turnout O))) := fn_runD (k := 8 * n + 7) (at_ := ("Station", some "turnout")) (d := d_Station_turnout O) T.D_Station_turnout sc_Station_turnout rfl rfl (Nat.le_of_ble_eq_true rfl) (fun cdv _ A outer s H E hr => r_Station_turnout T Q cdv A outer s H E hr)
theorem sc_drawn : FnScope N_drawn ["seed", "size", "many"] (defScope st_drawn) := ⟨rfl, rfl, rfl, nd_drawn, rfl, by decide +kernel, by decide +kernel⟩
theorem r_drawn (T : Tx g K mg base) {O : Orc} {n : Nat} (Q : Lv g P w K mg base T O n) (cdv : Value) (A : Around) (outer : List Env) (s : Shared) (H : Hp) (E : XK) (hr : Room (8 * n + 7) (A.deeper (envOfC "drawn" (defScope st_drawn) s.heap.objs.size (He.fAd K ("drawn", none)) (cdv)))) : SSs g Lx.no (cxOf (L2.CX P w) P w K mg base N_drawn "drawn" (defScope st_drawn) (He.fAd K ("drawn", none)) (cdv) A outer s H E) (WK E) (defBody st_drawn) (d_drawn O).body := by
  unfold d_drawn; dsimp only
  exact (ss_cons (ss_if (st_bool (sw_or (st_cmp .lt (u65 hr) (SE.b (se_var 2)) (SE.b se_int)) (sw_or (st_cmp .gt (u65 hr) (SE.b (se_var 2)) (SE.b (se_var 1))) (sw_or1 (st_cmp .lt (u65 hr) (SE.b (se_var 0)) (SE.b se_int)))))) (ss_one (ss_err T.e_StationError rfl (takes_of rfl rfl rfl rfl))) ss_nil)
  (ss_cons (ss_par2 (i := 3) (j := 4) rfl nd_drawn (sp_o 3 (sf_lst sa_nil) (sp_v 4 (se_var 0) sp_nil)))
  (ss_cons (ss_set 5 nd_drawn se_int)
  (ss_cons (ss_while (passes_of rfl) (st_bool (sw_and (st_cmp .lt (u65 hr) (SE.b (se_len (hm := T.n_len) (ha := (sb_acc 3)))) (SE.b (se_var 2))) (sw_and1 (st_cmp .lt (u65 hr) (SE.b (se_var 5)) (SE.b se_int))))) (ss_cons (ss_set 4 nd_drawn (se_bin .mod (SE.b (se_bin .add (SE.b (se_bin .mul (SE.b (se_var 4)) (SE.b se_int))) (SE.b se_int))) (SE.b se_int)))
  (ss_cons (ss_aug .add 5 nd_drawn (SE.b se_int))
  (ss_cons (ss_set 6 nd_drawn (se_bin .mod (SE.b (se_bin .fdiv (SE.b (se_var 4)) (SE.b se_int))) (SE.b (se_var 1))))
  (ss_one (ss_if (st_cmp .notin (u65 hr) (SE.b (se_var 6)) (sb_acc 3)) (ss_one (ss_appO 3 (se_var 6))) ss_nil))))))
  (ss_cons (ss_if (st_cmp .lt (u65 hr) (SE.b (se_len (hm := T.n_len) (ha := (sb_acc 3)))) (SE.b (se_var 2))) (ss_one (ss_err T.e_StationError rfl (takes_of rfl rfl rfl rfl))) ss_nil)
  (ss_one (ss_ret (se_tupO (hm := T.n_tuple) (ha := (sb_acc 3))))))))))
theorem f_drawn (T : Tx g K mg base) {O : Orc} {n : Nat} (Q : Lv g P w K mg base T O n) : FnOk P w K mg base (L2.CX P w) (8 * n + 7 + 1) (He.fAd K ("drawn", none)) T.fd_drawn ["seed", "size", "many"] (spO g 3 (runD (d_drawn O))) := fn_runD (k := 8 * n + 7) (at_ := ("drawn", none)) (d := d_drawn O) T.D_drawn sc_drawn rfl rfl (Nat.le_of_ble_eq_true rfl) (fun cdv _ A outer s H E hr => r_drawn T Q cdv A outer s H E hr)
theorem sc_checked : FnScope N_checked ["paper", "told", "places"] (defScope st_checked) := ⟨rfl, rfl, rfl, nd_checked, rfl, by decide +kernel, by decide +kernel⟩
theorem r_checked (T : Tx g K mg base) {O : Orc} {n : Nat} (Q : Lv g P w K mg base T O n) (A : Around) (outer : List Env) (s : Shared) (H : Hp) (E : XK) (hr : Room (8 * n + 7) (A.deeper (envOfC "checked" (defScope st_checked) s.heap.objs.size (He.fAd K ("checked", none)) (.ref (He.codeOf K ("checked", none)))))) : SSs g Lx.no (cxOf (L2.CX P w) P w K mg base N_checked "checked" (defScope st_checked) (He.fAd K ("checked", none)) (.ref (He.codeOf K ("checked", none))) A outer s H E) (WK E) (defBody st_checked) (d_checked O).body := by
  unfold d_checked; dsimp only
  exact (ss_cons (ss_if (st_bool (sw_or (st_cmp .ne (u65 hr) (SE.b (se_len (hm := T.n_len) (ha := (SE.b (se_var 0))))) (SE.b (se_len (hm := T.n_len) (ha := (SE.b (se_var 1)))))) (sw_or1 (st_val (se_any (rm hr) (k := 8 * n + 3) (t := (.n 3)) ⟨rfl, nd_checked, dot_checked, ⟨(He.codeOf K ("checked", none)), (He.cT K ("checked", none)).2, T.tb_checked, rfl, T.hm_checked, T.hu_checked⟩, (SI.toE (si_seq (se_var 2))), ⟨[("place", 3)], genOk_by (by kernel_rfl), rfl⟩, fun _ _ _ _ _ _ => (tg_n 3 nd_checked), fun _ _ _ _ _ _ hr => pts_nil, fun _ _ _ _ _ _ hr => (se_not (se_chain .le .lt (u65 hr) (SE.b se_int) (SE.b (se_var 3)) (SE.b (se_len (hm := T.n_len) (ha := (SE.b (se_var 1))))))), fun _ => rfl⟩ (hm := T.n_any)))))) (ss_one (ss_err T.e_StationError rfl (takes_of rfl rfl rfl rfl))) ss_nil)
  (ss_cons (ss_own 4 nd_checked sf_d0)
  (ss_cons (ss_for (passes_of rfl) rfl (si_seq (se_var 1)) (tg_n 5 nd_checked) (ss_one (ss_if (st_cmp .ne (u65 hr) (SE.b (se_var 5)) (SE.b se_str)) (ss_one (ss_subO 4 (u65 hr) (se_var 5) (se_bin .add (SE.b (se_get (u65 hr) (sb_acc 4) (se_var 5) se_int)) (SE.b se_int)))) ss_nil)))
  (ss_cons (ss_setLc 6 (t := (.t [7, 5])) rfl nd_checked rfl rfl (sw_true rfl rfl rfl (by kernel_rfl)) (SI.toE (si_seq (se_frz (sf_lkO 4 (sf_sortG (rm hr) (k := 8 * n + 3) (t := (.n 5)) ⟨rfl, nd_checked, dot_checked, ⟨(He.codeOf K ("checked", none)), (He.cT K ("checked", none)).2, T.tb_checked, rfl, T.hm_checked, T.hu_checked⟩, (SI.toE (si_dctO 4)), ⟨[("name", 5)], genOk_by (by kernel_rfl), rfl⟩, fun _ _ _ _ _ _ => (tg_n 5 nd_checked), fun _ _ _ _ _ _ hr => pts_nil, fun _ _ _ _ _ _ hr => (se_tup (sa_cons (se_bin .sub (SE.b se_int) (SE.b (se_idx (u65 hr) (sb_acc 4) (SE.b (se_var 5))))) (sa_cons (se_var 5) sa_nil))), fun _ => rfl⟩ (hm := T.n_sorted)))))) (blkOk_by (own := [("less", 7), ("name", 5)]) (by kernel_rfl)) rfl (fun _ _ _ _ _ => (tg_t rfl (tgs_cons 7 (tgs_cons 5 tgs_nil nd_checked) nd_checked))) (fun _ _ _ _ _ => pts_nil) (fun _ _ _ _ _ => (se_var 5)))
  (ss_cons (ss_if (st_cmp .lt (u65 hr) (SE.b (se_len (hm := T.n_len) (ha := (SE.b (se_var 6))))) (SE.b se_int)) (ss_one (ss_err T.e_StationError rfl (takes_of rfl rfl rfl rfl))) ss_nil)
  (ss_cons (ss_parT (n := 2) rfl (sp_v 8 se_int (sp_v 9 se_int sp_nil)) (gs_cons 8 (gs_cons 9 gs_nil nd_checked) nd_checked))
  (ss_cons (ss_for (passes_of rfl) rfl (si_seq (se_var 2)) (tg_n 3 nd_checked) (ss_cons (ss_set 10 nd_checked (se_bin .sub (SE.b (se_call Q.F_margin_of (rm hr) rfl T.m_margin_of T.k_margin_of T.b_margin_of_2 (dl := []) .nil (fun _ => rfl) (passes_call (takes_of rfl rfl rfl rfl) (fun _ _ _ _ h => h)) (sa_cons (se_idx (u65 hr) (SE.b (se_var 1)) (SE.b (se_var 3))) (sa_cons (se_var 6) sa_nil)) (hrl := (rl_c (rl_c rl_0))))) (SE.b (se_call Q.F_margin_of (rm hr) rfl T.m_margin_of T.k_margin_of T.b_margin_of_2 (dl := []) .nil (fun _ => rfl) (passes_call (takes_of rfl rfl rfl rfl) (fun _ _ _ _ h => h)) (sa_cons (se_idx (u65 hr) (SE.b (se_var 0)) (SE.b (se_var 3))) (sa_cons (se_var 6) sa_nil)) (hrl := (rl_c (rl_c rl_0)))))))
  (ss_cons (ss_aug .add 8 nd_checked (SE.b (se_max2 rfl (hm := T.n_max) (ha := se_int) (hb := (se_var 10)))))
  (ss_one (ss_aug .add 9 nd_checked (SE.b (se_max2 rfl (hm := T.n_max) (ha := se_int) (hb := (se_bin .sub (SE.b se_int) (SE.b (se_var 10)))))))))))
  (ss_one (ss_ret (se_tup (sa_cons (se_var 8) (sa_cons (se_var 9) sa_nil))))))))))))
theorem f_checked (T : Tx g K mg base) {O : Orc} {n : Nat} (Q : Lv g P w K mg base T O n) : FnOk P w K mg base (L2.CX P w) (8 * n + 7 + 1) (He.fAd K ("checked", none)) T.fd_checked ["paper", "told", "places"] (spO g 3 (runD (d_checked O))) := fn_runD (k := 8 * n + 7) (at_ := ("checked", none)) (d := d_checked O) T.D_checked sc_checked rfl rfl (Nat.le_of_ble_eq_true rfl) (fun cdv ec A outer s H E hr => by subst ec; exact r_checked T Q A outer s H E hr)
theorem sc_margin_of : FnScope N_margin_of ["name", "order"] (defScope st_margin_of) := ⟨rfl, rfl, rfl, nd_margin_of, rfl, by decide +kernel, by decide +kernel⟩
theorem r_margin_of (T : Tx g K mg base) {O : Orc} {n : Nat} (Q : Lv g P w K mg base T O n) (cdv : Value) (A : Around) (outer : List Env) (s : Shared) (H : Hp) (E : XK) (hr : Room (8 * n + 7) (A.deeper (envOfC "margin_of" (defScope st_margin_of) s.heap.objs.size (He.fAd K ("margin_of", none)) (cdv)))) : SSs g Lx.no (cxOf (L2.CX P w) P w K mg base N_margin_of "margin_of" (defScope st_margin_of) (He.fAd K ("margin_of", none)) (cdv) A outer s H E) (WK E) (defBody st_margin_of) (d_margin_of O).body := by
  unfold d_margin_of; dsimp only
  exact (ss_one (ss_ret (se_if (st_cmp .eq (u65 hr) (SE.b (se_var 0)) (SE.b (se_idx (u65 hr) (SE.b (se_var 1)) (SE.b se_int)))) se_int (se_if (st_cmp .eq (u65 hr) (SE.b (se_var 0)) (SE.b (se_idx (u65 hr) (SE.b (se_var 1)) (SE.b se_int)))) (se_bin .sub (SE.b se_int) (SE.b se_int)) se_int))))
theorem f_margin_of (T : Tx g K mg base) {O : Orc} {n : Nat} (Q : Lv g P w K mg base T O n) : FnOk P w K mg base (L2.CX P w) (8 * n + 7 + 1) (He.fAd K ("margin_of", none)) T.fd_margin_of ["name", "order"] (spO g 2 (runD (d_margin_of O))) := fn_runD (k := 8 * n + 7) (at_ := ("margin_of", none)) (d := d_margin_of O) T.D_margin_of sc_margin_of rfl rfl (Nat.le_of_ble_eq_true rfl) (fun cdv _ A outer s H E hr => r_margin_of T Q cdv A outer s H E hr)
theorem sc_enough_checked : FnScope N_enough_checked ["margin", "total", "many", "over"] (defScope st_enough_checked) := ⟨rfl, rfl, rfl, nd_enough_checked, rfl, by decide +kernel, by decide +kernel⟩
theorem r_enough_checked (T : Tx g K mg base) {O : Orc} {n : Nat} (Q : Lv g P w K mg base T O n) (cdv : Value) (A : Around) (outer : List Env) (s : Shared) (H : Hp) (E : XK) (hr : Room (8 * n + 7) (A.deeper (envOfC "enough_checked" (defScope st_enough_checked) s.heap.objs.size (He.fAd K ("enough_checked", none)) (cdv)))) : SSs g Lx.no (cxOf (L2.CX P w) P w K mg base N_enough_checked "enough_checked" (defScope st_enough_checked) (He.fAd K ("enough_checked", none)) (cdv) A outer s H E) (WK E) (defBody st_enough_checked) (d_enough_checked O).body := by
  unfold d_enough_checked; dsimp only
  exact (ss_cons (ss_if (st_bool (sw_or (st_cmp .lt (u65 hr) (SE.b (se_var 0)) (SE.b se_int)) (sw_or (st_cmp .lt (u65 hr) (SE.b (se_var 1)) (SE.b se_int)) (sw_or (st_cmp .lt (u65 hr) (SE.b (se_var 2)) (SE.b se_int)) (sw_or1 (st_cmp .lt (u65 hr) (SE.b (se_var 3)) (SE.b se_int))))))) (ss_one (ss_err T.e_StationError rfl (takes_of rfl rfl rfl rfl))) ss_nil)
  (ss_one (ss_ret (se_cmp .gt (u65 hr) (SE.b (se_bin .mul (SE.b (se_var 2)) (SE.b (se_var 0)))) (SE.b (se_bin .add (SE.b (se_bin .mul (SE.b se_int) (SE.b (se_var 1)))) (SE.b (se_bin .mul (SE.b (se_bin .mul (SE.b se_int) (SE.b (se_var 3)))) (SE.b (se_var 1))))))))))
theorem f_enough_checked (T : Tx g K mg base) {O : Orc} {n : Nat} (Q : Lv g P w K mg base T O n) : FnOk P w K mg base (L2.CX P w) (8 * n + 7 + 1) (He.fAd K ("enough_checked", none)) T.fd_enough_checked ["margin", "total", "many", "over"] (spO g 4 (runD (d_enough_checked O))) := fn_runD (k := 8 * n + 7) (at_ := ("enough_checked", none)) (d := d_enough_checked O) T.D_enough_checked sc_enough_checked rfl rfl (Nat.le_of_ble_eq_true rfl) (fun cdv _ A outer s H E hr => r_enough_checked T Q cdv A outer s H E hr)
theorem sc__law_dice : FnScope N__law_dice ["cell"] (defScope st__law_dice) := ⟨rfl, rfl, rfl, nd__law_dice, rfl, by decide +kernel, by decide +kernel⟩
theorem r__law_dice (T : Tx g K mg base) {O : Orc} {n : Nat} (Q : Lv g P w K mg base T O n) (cdv : Value) (A : Around) (outer : List Env) (s : Shared) (H : Hp) (E : XK) (hr : Room (8 * n + 7) (A.deeper (envOfC "_law_dice" (defScope st__law_dice) s.heap.objs.size (He.fAd K ("_law_dice", none)) (cdv)))) : SSs g Lx.no (cxOf (L2.CX P w) P w K mg base N__law_dice "_law_dice" (defScope st__law_dice) (He.fAd K ("_law_dice", none)) (cdv) A outer s H E) (WK E) (defBody st__law_dice) (d__law_dice O).body := by
  unfold d__law_dice; dsimp only
  exact (ss_cons (ss_if (st_chain .lt .lt (u65 hr) (SE.b (se_bin .sub (SE.b se_int) (SE.b se_int))) (SE.b (se_var 0)) (SE.b se_int)) (ss_one (ss_ret (se_mk (sf_lst (sa_cons (se_abs (hm := T.n_abs) (ha := (se_var 0))) (sa_cons se_int (sa_cons se_int sa_nil))))))) ss_nil)
  (ss_one (ss_ret (se_mk (sf_lst (sa_cons (se_var 0) (sa_cons (se_bin .add (SE.b se_int) (SE.b (se_bin .mod (SE.b (se_intc (hm := T.n_int) (ha := (se_var 0)))) (SE.b se_int)))) (sa_cons (se_intc (hm := T.n_int) (ha := (se_cmp .ge (u65 hr) (SE.b (se_var 0)) (SE.b (se_bin .pow (SE.b se_int) (SE.b se_int)))))) sa_nil))))))))
theorem f__law_dice (T : Tx g K mg base) {O : Orc} {n : Nat} (Q : Lv g P w K mg base T O n) : FnOk P w K mg base (L2.CX P w) (8 * n + 7 + 1) (He.fAd K ("_law_dice", none)) T.fd__law_dice ["cell"] (spO g 1 (runD (d__law_dice O))) := fn_runD (k := 8 * n + 7) (at_ := ("_law_dice", none)) (d := d__law_dice O) T.D__law_dice sc__law_dice rfl rfl (Nat.le_of_ble_eq_true rfl) (fun cdv _ A outer s H E hr => r__law_dice T Q cdv A outer s H E hr)
theorem sc__law_roll : FnScope N__law_roll ["dice", "many"] (defScope st__law_roll) := ⟨rfl, rfl, rfl, nd__law_roll, rfl, by decide +kernel, by decide +kernel⟩
theorem r__law_roll (T : Tx g K mg base) {O : Orc} {n : Nat} (Q : Lv g P w K mg base T O n) (cdv : Value) (A : Around) (outer : List Env) (s : Shared) (H : Hp) (E : XK) (hr : Room (8 * n + 7) (A.deeper (envOfC "_law_roll" (defScope st__law_roll) s.heap.objs.size (He.fAd K ("_law_roll", none)) (cdv)))) : SSs g Lx.no (cxOf (L2.CX P w) P w K mg base N__law_roll "_law_roll" (defScope st__law_roll) (He.fAd K ("_law_roll", none)) (cdv) A outer s H E) (WK E) (defBody st__law_roll) (d__law_roll O).body := by
  unfold d__law_roll; dsimp only
  exact (ss_cons (ss_if (st_bool (sw_or (st_cmp .eq (u65 hr) (SE.b (se_idx (u65 hr) (SE.b (se_var 0)) (SE.b se_int))) (SE.b se_int)) (sw_or1 (st_bool (sw_and (st_cmp .eq (u65 hr) (SE.b (se_idx (u65 hr) (SE.b (se_var 0)) (SE.b se_int))) (SE.b se_int)) (sw_and1 (st_cmp .gt (u65 hr) (SE.b (se_idx (u65 hr) (SE.b (se_var 0)) (SE.b se_int))) (SE.b se_int)))))))) (ss_cons (ss_set 2 nd__law_roll (se_bin .mod (SE.b (se_intc (hm := T.n_int) (ha := (se_idx (u65 hr) (SE.b (se_var 0)) (SE.b se_int))))) (SE.b (se_var 1))))
  (ss_cons (ss_sub (u65 hr) (se_var 0) se_int (se_bin .fdiv (SE.b (se_idx (u65 hr) (SE.b (se_var 0)) (SE.b se_int))) (SE.b (se_var 1))))
  (ss_one (ss_ret (se_var 2))))) ss_nil)
  (ss_cons (ss_sub (u65 hr) (se_var 0) se_int se_int)
  (ss_cons (ss_if (st_cmp .gt (u65 hr) (SE.b (se_var 1)) (SE.b se_int)) (ss_one (ss_ret (se_bin .mod (SE.b (se_intc (hm := T.n_int) (ha := (se_bin .add (SE.b (se_bin .mul (SE.b (se_call Q.F__law_roll (rm hr) rfl T.m__law_roll T.k__law_roll T.b__law_roll_2 (dl := []) .nil (fun _ => rfl) (passes_call (takes_of rfl rfl rfl rfl) (fun _ _ _ _ h => h)) (sa_cons (se_var 0) (sa_cons (se_bin .add (SE.b (se_bin .fdiv (SE.b (se_var 1)) (SE.b se_int))) (SE.b se_int)) sa_nil)) (hrl := (rl_c (rl_c rl_0))))) (SE.b se_int))) (SE.b (se_call Q.F__law_roll (rm hr) rfl T.m__law_roll T.k__law_roll T.b__law_roll_2 (dl := []) .nil (fun _ => rfl) (passes_call (takes_of rfl rfl rfl rfl) (fun _ _ _ _ h => h)) (sa_cons (se_var 0) (sa_cons se_int sa_nil)) (hrl := (rl_c (rl_c rl_0))))))))) (SE.b (se_var 1))))) ss_nil)
  (ss_cons (ss_sub (u65 hr) (se_var 0) se_int (se_bin .mod (SE.b (se_intc (hm := T.n_int) (ha := (se_bin .add (SE.b (se_bin .add (SE.b (se_bin .mul (SE.b (se_idx (u65 hr) (SE.b (se_var 0)) (SE.b se_int))) (SE.b se_int))) (SE.b (se_bin .mul (SE.b (se_idx (u65 hr) (SE.b (se_var 0)) (SE.b se_int))) (SE.b se_int))))) (SE.b se_int))))) (SE.b se_int)))
  (ss_cons (ss_sub (u65 hr) (se_var 0) se_int (se_bin .add (SE.b (se_idx (u65 hr) (SE.b (se_var 0)) (SE.b se_int))) (SE.b se_int)))
  (ss_one (ss_ret (se_bin .mod (SE.b (se_intc (hm := T.n_int) (ha := (se_bin .fdiv (SE.b (se_idx (u65 hr) (SE.b (se_var 0)) (SE.b se_int))) (SE.b se_int))))) (SE.b (se_var 1))))))))))
theorem f__law_roll (T : Tx g K mg base) {O : Orc} {n : Nat} (Q : Lv g P w K mg base T O n) : FnOk P w K mg base (L2.CX P w) (8 * n + 7 + 1) (He.fAd K ("_law_roll", none)) T.fd__law_roll ["dice", "many"] (spO g 2 (runD (d__law_roll O))) := fn_runD (k := 8 * n + 7) (at_ := ("_law_roll", none)) (d := d__law_roll O) T.D__law_roll sc__law_roll rfl rfl (Nat.le_of_ble_eq_true rfl) (fun cdv _ A outer s H E hr => r__law_roll T Q cdv A outer s H E hr)
theorem sc__law_rounds : FnScope N__law_rounds ["script", "most"] (defScope st__law_rounds) := ⟨rfl, rfl, rfl, nd__law_rounds, rfl, by decide +kernel, by decide +kernel⟩
theorem r__law_rounds (T : Tx g K mg base) {O : Orc} {n : Nat} (Q : Lv g P w K mg base T O n) (cdv : Value) (A : Around) (outer : List Env) (s : Shared) (H : Hp) (E : XK) (hr : Room (8 * n + 7) (A.deeper (envOfC "_law_rounds" (defScope st__law_rounds) s.heap.objs.size (He.fAd K ("_law_rounds", none)) (cdv)))) : PSs (cxOf (L2.CX P w) P w K mg base N__law_rounds "_law_rounds" (defScope st__law_rounds) (He.fAd K ("_law_rounds", none)) (cdv) A outer s H E) (defBody st__law_rounds) (tScr g K (WK E) 0 1 2 (sSeq (sIf (cCmp .eq (cV 2) (cFrz (fLst cs0)))
  (sSet 2 (cFrz (fLst (csC (cK (.int 0)) cs0))))
  sPass)
  (sRet (cFrz (p1__law_rounds O))))) := by
  exact (ss_scr 0 1 2 nd__law_rounds (ss_cons (ss_if (st_cmp .eq (u65 hr) (SE.b (se_var 2)) (SE.b (se_frz (sf_lst sa_nil)))) (ss_one (ss_set 2 nd__law_rounds (se_frz (sf_lst (sa_cons se_int sa_nil))))) ss_nil)
  (ss_one (ss_ret (se_frz (sf_comp (t := (.n 3)) rfl nd__law_rounds (SI.toE (si_seq (se_var 2))) (blkOk_by (own := [("cell", 3)]) (by kernel_rfl)) rfl (fun _ _ _ _ _ => (tg_n 3 nd__law_rounds)) (fun _ _ _ _ _ => pts_nil) (fun _ _ _ _ _ => (se_call Q.F__law_dice (rm hr) rfl T.m__law_dice T.k__law_dice T.b__law_dice_1 (dl := []) .nil (fun _ => rfl) passes0 (sa_cons (se_var 3) sa_nil) (hrl := (rl_c rl_0))))))))))
theorem f__law_rounds (T : Tx g K mg base) {O : Orc} {n : Nat} (Q : Lv g P w K mg base T O n) : FnOk P w K mg base (L2.CX P w) (8 * n + 7 + 1) (He.fAd K ("_law_rounds", none)) T.fd__law_rounds ["script", "most"] (spScr g K (runD (d__law_rounds O))) := fn_scr (k := 8 * n + 7) (at_ := ("_law_rounds", none)) (j := 0) (k' := 0) T.D__law_rounds sc__law_rounds rfl (by decide) fun cdv A outer s H E hr => r__law_rounds T Q cdv A outer s H E hr
theorem sc__law_looks : FnScope N__law_looks ["dice"] (defScope st__law_looks) := ⟨rfl, rfl, rfl, nd__law_looks, rfl, by decide +kernel, by decide +kernel⟩
theorem r__law_looks (T : Tx g K mg base) {O : Orc} {n : Nat} (Q : Lv g P w K mg base T O n) (A : Around) (outer : List Env) (s : Shared) (H : Hp) (E : XK) (hr : Room (8 * n + 7) (A.deeper (envOfC "_law_looks" (defScope st__law_looks) s.heap.objs.size (He.fAd K ("_law_looks", none)) (.ref (He.codeOf K ("_law_looks", none)))))) : SSs g Lx.no (cxOf (L2.CX P w) P w K mg base N__law_looks "_law_looks" (defScope st__law_looks) (He.fAd K ("_law_looks", none)) (.ref (He.codeOf K ("_law_looks", none))) A outer s H E) (WK E) (defBody st__law_looks) (d__law_looks O).body := by
  unfold d__law_looks; dsimp only
  exact (ss_cons (ss_par2 (i := 1) (j := 2) rfl nd__law_looks (sp_v 1 (se_call Q.F__law_roll (rm hr) rfl T.m__law_roll T.k__law_roll T.b__law_roll_2 (dl := []) .nil (fun _ => rfl) (passes_call (takes_of rfl rfl rfl rfl) (fun _ _ _ _ h => h)) (sa_cons (se_var 0) (sa_cons se_int sa_nil)) (hrl := (rl_c (rl_c rl_0)))) (sp_v 2 (se_bin .add (SE.b se_int) (SE.b (se_call Q.F__law_roll (rm hr) rfl T.m__law_roll T.k__law_roll T.b__law_roll_2 (dl := []) .nil (fun _ => rfl) (passes_call (takes_of rfl rfl rfl rfl) (fun _ _ _ _ h => h)) (sa_cons (se_var 0) (sa_cons se_int sa_nil)) (hrl := (rl_c (rl_c rl_0)))))) sp_nil)))
  (ss_cons (ss_parT (n := 3) rfl (sp_v 3 (se_call Q.F__law_roll (rm hr) rfl T.m__law_roll T.k__law_roll T.b__law_roll_2 (dl := []) .nil (fun _ => rfl) (passes_call (takes_of rfl rfl rfl rfl) (fun _ _ _ _ h => h)) (sa_cons (se_var 0) (sa_cons (se_bin .add (SE.b (se_var 2)) (SE.b se_int)) sa_nil)) (hrl := (rl_c (rl_c rl_0)))) (sp_v 4 (se_var 1) (sp_v 5 (se_frz (sf_lst sa_nil)) sp_nil))) (gs_cons 3 (gs_cons 4 (gs_cons 5 gs_nil nd__law_looks) nd__law_looks) nd__law_looks))
  (ss_cons (ss_while (passes_of rfl) (st_cmp .lt (u65 hr) (SE.b (se_len (hm := T.n_len) (ha := (SE.b (se_var 5))))) (SE.b (se_var 3))) (ss_cons (ss_set 4 nd__law_looks (se_bin .mod (SE.b (se_bin .add (SE.b (se_bin .mul (SE.b (se_var 4)) (SE.b se_int))) (SE.b se_int))) (SE.b se_int)))
  (ss_one (ss_set 5 nd__law_looks (se_bin .add (SE.b (se_var 5)) (SE.b (se_bin .mul (SE.b (se_frz (sf_lst (sa_cons (se_bin .mod (SE.b (se_bin .fdiv (SE.b (se_var 4)) (SE.b se_int))) (SE.b (se_var 2))) sa_nil)))) (SE.b (se_intc (hm := T.n_int) (ha := (se_cmp .notin (u65 hr) (SE.b (se_bin .mod (SE.b (se_bin .fdiv (SE.b (se_var 4)) (SE.b se_int))) (SE.b (se_var 2)))) (SE.b (se_var 5)))))))))))))
  (ss_cons (ss_if (st_cmp .ne (u65 hr) (SE.b (se_frz (sf_lstO (hm := T.n_list) (ha := (SE.b (se_call Q.F_drawn (rm hr) rfl T.m_drawn T.k_drawn T.b_drawn_3 (dl := []) .nil (fun _ => rfl) (passes_call (takes_of rfl rfl rfl rfl) (fun _ _ _ _ h => h)) (sa_cons (se_var 1) (sa_cons (se_var 2) (sa_cons (se_var 3) sa_nil))) (hrl := (rl_c (rl_c (rl_c rl_0)))))))))) (SE.b (se_var 5))) (ss_one (ss_ret se_bl)) ss_nil)
  (ss_cons (ss_set 6 nd__law_looks (se_frz (sf_comp (t := (.n 7)) rfl nd__law_looks (SI.toE (si_rng1 (hm := T.n_range) (ha := (se_var 2)))) (blkOk_by (own := [("k", 7)]) (by kernel_rfl)) rfl (fun _ _ _ _ _ => (tg_n 7 nd__law_looks)) (fun _ _ _ _ _ => pts_nil) (fun _ _ _ _ _ => (se_idx (u65 hr) (SE.b (se_frz (sf_lst (sa_cons se_str (sa_cons se_str (sa_cons se_str (sa_cons se_str sa_nil))))))) (SE.b (se_call Q.F__law_roll (rm hr) rfl T.m__law_roll T.k__law_roll T.b__law_roll_2 (dl := []) .nil (fun _ => rfl) passes0 (sa_cons (se_var 0) (sa_cons se_int sa_nil)) (hrl := (rl_c (rl_c rl_0))))))))))
  (ss_cons (ss_set 8 nd__law_looks (se_frz (sf_comp (t := (.n 7)) rfl nd__law_looks (SI.toE (si_rng1 (hm := T.n_range) (ha := (se_var 2)))) (blkOk_by (own := [("k", 7)]) (by kernel_rfl)) rfl (fun _ _ _ _ _ => (tg_n 7 nd__law_looks)) (fun _ _ _ _ _ => pts_nil) (fun _ _ _ _ _ => (se_if (st_cmp .gt (u65 hr) (SE.b (se_call Q.F__law_roll (rm hr) rfl T.m__law_roll T.k__law_roll T.b__law_roll_2 (dl := []) .nil (fun _ => rfl) passes0 (sa_cons (se_var 0) (sa_cons se_int sa_nil)) (hrl := (rl_c (rl_c rl_0))))) (SE.b se_int)) (se_idx (u65 hr) (SE.b (se_var 6)) (SE.b (se_var 7))) (se_idx (u65 hr) (SE.b (se_frz (sf_lst (sa_cons se_str (sa_cons se_str (sa_cons se_str (sa_cons se_str sa_nil))))))) (SE.b (se_call Q.F__law_roll (rm hr) rfl T.m__law_roll T.k__law_roll T.b__law_roll_2 (dl := []) .nil (fun _ => rfl) passes0 (sa_cons (se_var 0) (sa_cons se_int sa_nil)) (hrl := (rl_c (rl_c rl_0)))))))))))
  (ss_cons (ss_set 9 nd__law_looks (se_frz (sf_sortO (u65 hr) (hm := T.n_sorted) (ha := (SE.b (se_frz (sf_comp (t := (.n 10)) rfl nd__law_looks (SI.toE (si_seq (se_frz (sf_lst (sa_cons se_str (sa_cons se_str (sa_cons se_str sa_nil))))))) (blkOk_by (own := [("name", 10)]) (by kernel_rfl)) rfl (fun _ _ _ _ _ => (tg_n 10 nd__law_looks)) (fun _ _ _ _ _ => (pts_one (st_cmp .inn (u65 hr) (SE.b (se_var 10)) (SE.b (se_var 6))))) (fun _ _ _ _ _ => (se_tup (sa_cons (se_neg (se_count (u65 hr) (se_var 6) (se_var 10))) (sa_cons (se_var 10) sa_nil)))))))))))
  (ss_cons (ss_if (st_cmp .lt (u65 hr) (SE.b (se_len (hm := T.n_len) (ha := (SE.b (se_var 9))))) (SE.b se_int)) (ss_one (ss_ret (se_cmp .eq (u65 hr) (SE.b (se_told (k := 8 * n + 5) T.told rfl T.tb__law_looks rfl T.hm__law_looks T.hu__law_looks (rm hr) (LamX.lamS_by (by kernel_rfl)) (fun _ _ _ _ _ _ _ hr => (se_call Q.F_checked (rm hr) rfl T.m_checked T.k_checked T.b_checked_3 (dl := []) .nil (fun _ => rfl) (passes_call (takes_of rfl rfl rfl rfl) (fun _ _ _ _ h => h)) (sa_cons (se_var 8) (sa_cons (se_var 6) (sa_cons (se_var 5) sa_nil))) (hrl := (rl_c (rl_c (rl_c rl_0)))))))) (SE.b se_str)))) ss_nil)
  (ss_cons (ss_parT (n := 4) rfl (sp_v 11 (se_idx (u65 hr) (SE.b (se_idx (u65 hr) (SE.b (se_var 9)) (SE.b se_int))) (SE.b se_int)) (sp_v 12 (se_idx (u65 hr) (SE.b (se_idx (u65 hr) (SE.b (se_var 9)) (SE.b se_int))) (SE.b se_int)) (sp_v 13 se_int (sp_v 14 se_int sp_nil)))) (gs_cons 11 (gs_cons 12 (gs_cons 13 (gs_cons 14 gs_nil nd__law_looks) nd__law_looks) nd__law_looks) nd__law_looks))
  (ss_cons (ss_for (passes_of rfl) rfl (si_seq (se_var 5)) (tg_n 7 nd__law_looks) (ss_cons (ss_unp (n := 2) rfl (se_frz (sf_comp (t := (.n 17)) rfl nd__law_looks (SI.toE (si_seq (se_frz (sf_lst (sa_cons (se_var 6) (sa_cons (se_var 8) sa_nil)))))) (blkOk_by (own := [("row", 17)]) (by kernel_rfl)) rfl (fun _ _ _ _ _ => (tg_n 17 nd__law_looks)) (fun _ _ _ _ _ => pts_nil) (fun _ _ _ _ _ => (se_bin .sub (SE.b (se_intc (hm := T.n_int) (ha := (se_cmp .eq (u65 hr) (SE.b (se_idx (u65 hr) (SE.b (se_var 17)) (SE.b (se_var 7)))) (SE.b (se_var 11)))))) (SE.b (se_intc (hm := T.n_int) (ha := (se_cmp .eq (u65 hr) (SE.b (se_idx (u65 hr) (SE.b (se_var 17)) (SE.b (se_var 7)))) (SE.b (se_var 12)))))))))) (tgs_cons 15 (tgs_cons 16 tgs_nil nd__law_looks) nd__law_looks))
  (ss_one (ss_par2 (i := 13) (j := 14) rfl nd__law_looks (sp_v 13 (se_bin .add (SE.b (se_var 13)) (SE.b (se_max2 rfl (hm := T.n_max) (ha := se_int) (hb := (se_bin .sub (SE.b (se_var 15)) (SE.b (se_var 16))))))) (sp_v 14 (se_bin .add (SE.b (se_var 14)) (SE.b (se_max2 rfl (hm := T.n_max) (ha := se_int) (hb := (se_bin .sub (SE.b (se_var 16)) (SE.b (se_var 15))))))) sp_nil))))))
  (ss_cons (ss_if (st_bool (sw_or (st_cmp .ne (u65 hr) (SE.b (se_call Q.F_checked (rm hr) rfl T.m_checked T.k_checked T.b_checked_3 (dl := []) .nil (fun _ => rfl) (passes_call (takes_of rfl rfl rfl rfl) (fun _ _ _ _ h => h)) (sa_cons (se_var 8) (sa_cons (se_var 6) (sa_cons (se_var 5) sa_nil))) (hrl := (rl_c (rl_c (rl_c rl_0)))))) (SE.b (se_tup (sa_cons (se_var 13) (sa_cons (se_var 14) sa_nil))))) (sw_or1 (st_cmp .ne (u65 hr) (SE.b (se_frz (sf_comp (t := (.n 10)) rfl nd__law_looks (SI.toE (si_seq (se_frz (sf_lst (sa_cons se_str (sa_cons se_str (sa_cons se_str (sa_cons se_str sa_nil)))))))) (blkOk_by (own := [("name", 10)]) (by kernel_rfl)) rfl (fun _ _ _ _ _ => (tg_n 10 nd__law_looks)) (fun _ _ _ _ _ => pts_nil) (fun _ _ _ _ _ => (se_call Q.F_margin_of (rm hr) rfl T.m_margin_of T.k_margin_of T.b_margin_of_2 (dl := []) .nil (fun _ => rfl) passes0 (sa_cons (se_var 10) (sa_cons (se_frz (sf_lst (sa_cons (se_var 11) (sa_cons (se_var 12) sa_nil)))) sa_nil)) (hrl := (rl_c (rl_c rl_0)))))))) (SE.b (se_frz (sf_comp (t := (.n 10)) rfl nd__law_looks (SI.toE (si_seq (se_frz (sf_lst (sa_cons se_str (sa_cons se_str (sa_cons se_str (sa_cons se_str sa_nil)))))))) (blkOk_by (own := [("name", 10)]) (by kernel_rfl)) rfl (fun _ _ _ _ _ => (tg_n 10 nd__law_looks)) (fun _ _ _ _ _ => pts_nil) (fun _ _ _ _ _ => (se_bin .sub (SE.b (se_intc (hm := T.n_int) (ha := (se_cmp .eq (u65 hr) (SE.b (se_var 10)) (SE.b (se_var 11)))))) (SE.b (se_intc (hm := T.n_int) (ha := (se_cmp .eq (u65 hr) (SE.b (se_var 10)) (SE.b (se_var 12))))))))))))))) (ss_one (ss_ret se_bl)) ss_nil)
  (ss_cons (ss_par2 (i := 18) (j := 19) rfl nd__law_looks (sp_v 18 (se_bin .add (SE.b se_int) (SE.b (se_call Q.F__law_roll (rm hr) rfl T.m__law_roll T.k__law_roll T.b__law_roll_2 (dl := []) .nil (fun _ => rfl) (passes_call (takes_of rfl rfl rfl rfl) (fun _ _ _ _ h => h)) (sa_cons (se_var 0) (sa_cons se_int sa_nil)) (hrl := (rl_c (rl_c rl_0)))))) (sp_v 19 (se_bin .add (SE.b se_int) (SE.b (se_call Q.F__law_roll (rm hr) rfl T.m__law_roll T.k__law_roll T.b__law_roll_2 (dl := []) .nil (fun _ => rfl) (passes_call (takes_of rfl rfl rfl rfl) (fun _ _ _ _ h => h)) (sa_cons (se_var 0) (sa_cons se_int sa_nil)) (hrl := (rl_c (rl_c rl_0)))))) sp_nil)))
  (ss_one (ss_ret (se_cmp .eq (u65 hr) (SE.b (se_call Q.F_enough_checked (rm hr) rfl T.m_enough_checked T.k_enough_checked T.b_enough_checked_4 (dl := []) .nil (fun _ => rfl) (passes_call (takes_of rfl rfl rfl rfl) (fun _ _ _ _ h => h)) (sa_cons (se_var 18) (sa_cons (se_var 19) (sa_cons (se_bin .mul (SE.b (se_var 3)) (SE.b se_int)) (sa_cons (se_var 13) sa_nil)))) (hrl := (rl_c (rl_c (rl_c (rl_c rl_0))))))) (SE.b (se_cmp .gt (u65 hr) (SE.b (se_bin .mul (SE.b (se_bin .mul (SE.b (se_var 3)) (SE.b se_int))) (SE.b (se_var 18)))) (SE.b (se_bin .add (SE.b (se_bin .mul (SE.b se_int) (SE.b (se_var 19)))) (SE.b (se_bin .mul (SE.b (se_bin .mul (SE.b se_int) (SE.b (se_var 13)))) (SE.b (se_var 19)))))))))))))))))))))))
theorem f__law_looks (T : Tx g K mg base) {O : Orc} {n : Nat} (Q : Lv g P w K mg base T O n) : FnOk P w K mg base (L2.CX P w) (8 * n + 7 + 1) (He.fAd K ("_law_looks", none)) T.fd__law_looks ["dice"] (spO g 1 (runD (d__law_looks O))) := fn_runD (k := 8 * n + 7) (at_ := ("_law_looks", none)) (d := d__law_looks O) T.D__law_looks sc__law_looks rfl rfl (Nat.le_of_ble_eq_true rfl) (fun cdv ec A outer s H E hr => by subst ec; exact r__law_looks T Q A outer s H E hr)
theorem sc__law_plain : FnScope N__law_plain [] (defScope st__law_plain) := ⟨rfl, rfl, rfl, nd__law_plain, rfl, by decide +kernel, by decide +kernel⟩
theorem r__law_plain (T : Tx g K mg base) {O : Orc} {n : Nat} (Q : Lv g P w K mg base T O n) (A : Around) (outer : List Env) (s : Shared) (H : Hp) (E : XK) (hr : Room (8 * n + 7) (A.deeper (envOfC "_law_plain" (defScope st__law_plain) s.heap.objs.size (He.fAd K ("_law_plain", none)) (.ref (He.codeOf K ("_law_plain", none)))))) : SSs g Lx.no (cxOf (L2.CX P w) P w K mg base N__law_plain "_law_plain" (defScope st__law_plain) (He.fAd K ("_law_plain", none)) (.ref (He.codeOf K ("_law_plain", none))) A outer s H E) (WK E) (defBody st__law_plain) (d__law_plain O).body := by
  unfold d__law_plain; dsimp only
  exact (ss_cons (ss_set 0 nd__law_plain (se_new T.I_Station Q.F_Station_init (rm hr) rfl T.m_Station T.b_Station_init_3 (dl := []) .nil (fun _ => rfl) (passes_call (takes_of rfl rfl rfl rfl) (fun _ _ _ _ h => h)) (sa_cons se_str (sa_cons se_int (sa_cons (se_frz (sf_lst (sa_cons se_str (sa_cons se_str (sa_cons se_str sa_nil))))) sa_nil))) (hrl := (rl_c (rl_c (rl_c rl_0))))))
  (ss_cons (ss_exp (se_meth T.kc (se_var 0) T.M_Station_give Q.F_Station_give (rm hr) T.b_Station_give_1 (dl := []) .nil (fun _ => rfl) (passes_call (takes_of rfl rfl rfl rfl) (fun _ _ _ _ h => h)) T.q_give (sa_cons se_str sa_nil) (hrl := (rl_c rl_0))))
  (ss_cons (ss_exp (se_meth T.kc (se_var 0) T.M_Station_put Q.F_Station_put (rm hr) T.b_Station_put_1 (dl := []) .nil (fun _ => rfl) (passes_call (takes_of rfl rfl rfl rfl) (fun _ _ _ _ h => h)) T.q_put (sa_cons se_str sa_nil) (hrl := (rl_c rl_0))))
  (ss_cons (ss_exp (se_meth T.kc (se_var 0) T.M_Station_give Q.F_Station_give (rm hr) T.b_Station_give_1 (dl := []) .nil (fun _ => rfl) (passes_call (takes_of rfl rfl rfl rfl) (fun _ _ _ _ h => h)) T.q_give (sa_cons se_str sa_nil) (hrl := (rl_c rl_0))))
  (ss_lamsOrX (k := 8 * n + 5) (iy := 1) (jf := 2) (.cons ⟨LamX.lamS_by (by kernel_rfl), fun _ _ _ _ _ => rfl, rfl, fun _ _ _ _ _ _ _ hr => (se_new T.I_Station Q.F_Station_init (rm hr) rfl T.m_Station T.b_Station_init_3 (dl := []) .nil (fun _ => rfl) (passes_call (takes_of rfl rfl rfl rfl) (fun _ _ _ _ h => h)) (sa_cons se_str (sa_cons se_int (sa_cons (se_frz (sf_lst sa_nil)) sa_nil))) (hrl := (rl_c (rl_c (rl_c rl_0)))))⟩
  (.cons ⟨LamX.lamS_by (by kernel_rfl), fun _ _ _ _ _ => rfl, rfl, fun _ _ _ _ _ _ _ hr => (se_new T.I_Station Q.F_Station_init (rm hr) rfl T.m_Station T.b_Station_init_3 (dl := []) .nil (fun _ => rfl) (passes_call (takes_of rfl rfl rfl rfl) (fun _ _ _ _ h => h)) (sa_cons se_str (sa_cons (se_neg se_int) (sa_cons (se_frz (sf_lst sa_nil)) sa_nil))) (hrl := (rl_c (rl_c (rl_c rl_0)))))⟩
  (.cons ⟨LamX.lamS_by (by kernel_rfl), fun _ _ _ _ _ => rfl, rfl, fun _ _ _ _ _ _ _ hr => (se_new T.I_Station Q.F_Station_init (rm hr) rfl T.m_Station T.b_Station_init_3 (dl := []) .nil (fun _ => rfl) (passes_call (takes_of rfl rfl rfl rfl) (fun _ _ _ _ h => h)) (sa_cons se_str (sa_cons se_int (sa_cons (se_frz (sf_lst sa_nil)) sa_nil))) (hrl := (rl_c (rl_c (rl_c rl_0)))))⟩
  (.cons ⟨LamX.lamS_by (by kernel_rfl), fun _ _ _ _ _ => rfl, rfl, fun _ _ _ _ _ _ _ hr => (se_meth T.kc (se_var 0) T.M_Station_state Q.F_Station_state (rm hr) T.b_Station_state_1 (dl := []) .nil (fun _ => rfl) (passes_call (takes_of rfl rfl rfl rfl) (fun _ _ _ _ h => h)) T.q_state (sa_cons se_str sa_nil) (hrl := (rl_c rl_0)))⟩
  (.cons ⟨LamX.lamS_by (by kernel_rfl), fun _ _ _ _ _ => rfl, rfl, fun _ _ _ _ _ _ _ hr => (se_meth T.kc (se_var 0) T.M_Station_give Q.F_Station_give (rm hr) T.b_Station_give_1 (dl := []) .nil (fun _ => rfl) (passes_call (takes_of rfl rfl rfl rfl) (fun _ _ _ _ h => h)) T.q_give (sa_cons se_str sa_nil) (hrl := (rl_c rl_0)))⟩
  (.cons ⟨LamX.lamS_by (by kernel_rfl), fun _ _ _ _ _ => rfl, rfl, fun _ _ _ _ _ _ _ hr => (se_meth T.kc (se_var 0) T.M_Station_give Q.F_Station_give (rm hr) T.b_Station_give_1 (dl := []) .nil (fun _ => rfl) (passes_call (takes_of rfl rfl rfl rfl) (fun _ _ _ _ h => h)) T.q_give (sa_cons se_str sa_nil) (hrl := (rl_c rl_0)))⟩
  (.cons ⟨LamX.lamS_by (by kernel_rfl), fun _ _ _ _ _ => rfl, rfl, fun _ _ _ _ _ _ _ hr => (se_meth T.kc (se_var 0) T.M_Station_give Q.F_Station_give (rm hr) T.b_Station_give_1 (dl := []) .nil (fun _ => rfl) (passes_call (takes_of rfl rfl rfl rfl) (fun _ _ _ _ h => h)) T.q_give (sa_cons se_str sa_nil) (hrl := (rl_c rl_0)))⟩
  (.cons ⟨LamX.lamS_by (by kernel_rfl), fun _ _ _ _ _ => rfl, rfl, fun _ _ _ _ _ _ _ hr => (se_meth T.kc (se_var 0) T.M_Station_put Q.F_Station_put (rm hr) T.b_Station_put_1 (dl := []) .nil (fun _ => rfl) (passes_call (takes_of rfl rfl rfl rfl) (fun _ _ _ _ h => h)) T.q_put (sa_cons se_str sa_nil) (hrl := (rl_c rl_0)))⟩
  (.cons ⟨LamX.lamS_by (by kernel_rfl), fun _ _ _ _ _ => rfl, rfl, fun _ _ _ _ _ _ _ hr => (se_meth T.kc (se_var 0) T.M_Station_spoil Q.F_Station_spoil (rm hr) T.b_Station_spoil_1 (dl := []) .nil (fun _ => rfl) (passes_call (takes_of rfl rfl rfl rfl) (fun _ _ _ _ h => h)) T.q_spoil (sa_cons se_str sa_nil) (hrl := (rl_c rl_0)))⟩
  (.cons ⟨LamX.lamS_by (by kernel_rfl), fun _ _ _ _ _ => rfl, rfl, fun _ _ _ _ _ _ _ hr => (se_call Q.F_drawn (rm hr) rfl T.m_drawn T.k_drawn T.b_drawn_3 (dl := []) .nil (fun _ => rfl) (passes_call (takes_of rfl rfl rfl rfl) (fun _ _ _ _ h => h)) (sa_cons se_int (sa_cons se_int (sa_cons se_int sa_nil))) (hrl := (rl_c (rl_c (rl_c rl_0)))))⟩
  (.cons ⟨LamX.lamS_by (by kernel_rfl), fun _ _ _ _ _ => rfl, rfl, fun _ _ _ _ _ _ _ hr => (se_call Q.F_drawn (rm hr) rfl T.m_drawn T.k_drawn T.b_drawn_3 (dl := []) .nil (fun _ => rfl) (passes_call (takes_of rfl rfl rfl rfl) (fun _ _ _ _ h => h)) (sa_cons (se_neg se_int) (sa_cons se_int (sa_cons se_int sa_nil))) (hrl := (rl_c (rl_c (rl_c rl_0)))))⟩
  (.cons ⟨LamX.lamS_by (by kernel_rfl), fun _ _ _ _ _ => rfl, rfl, fun _ _ _ _ _ _ _ hr => (se_call Q.F_drawn (rm hr) rfl T.m_drawn T.k_drawn T.b_drawn_3 (dl := []) .nil (fun _ => rfl) (passes_call (takes_of rfl rfl rfl rfl) (fun _ _ _ _ h => h)) (sa_cons se_int (sa_cons se_int (sa_cons (se_neg se_int) sa_nil))) (hrl := (rl_c (rl_c (rl_c rl_0)))))⟩
  (.cons ⟨LamX.lamS_by (by kernel_rfl), fun _ _ _ _ _ => rfl, rfl, fun _ _ _ _ _ _ _ hr => (se_call Q.F_checked (rm hr) rfl T.m_checked T.k_checked T.b_checked_3 (dl := []) .nil (fun _ => rfl) (passes_call (takes_of rfl rfl rfl rfl) (fun _ _ _ _ h => h)) (sa_cons (se_frz (sf_lst (sa_cons se_str sa_nil))) (sa_cons (se_frz (sf_lst sa_nil)) (sa_cons (se_frz (sf_lst sa_nil)) sa_nil))) (hrl := (rl_c (rl_c (rl_c rl_0)))))⟩
  (.cons ⟨LamX.lamS_by (by kernel_rfl), fun _ _ _ _ _ => rfl, rfl, fun _ _ _ _ _ _ _ hr => (se_call Q.F_checked (rm hr) rfl T.m_checked T.k_checked T.b_checked_3 (dl := []) .nil (fun _ => rfl) (passes_call (takes_of rfl rfl rfl rfl) (fun _ _ _ _ h => h)) (sa_cons (se_frz (sf_lst (sa_cons se_str sa_nil))) (sa_cons (se_frz (sf_lst (sa_cons se_str sa_nil))) (sa_cons (se_frz (sf_lst (sa_cons se_int sa_nil))) sa_nil))) (hrl := (rl_c (rl_c (rl_c rl_0)))))⟩
  (.cons ⟨LamX.lamS_by (by kernel_rfl), fun _ _ _ _ _ => rfl, rfl, fun _ _ _ _ _ _ _ hr => (se_call Q.F_checked (rm hr) rfl T.m_checked T.k_checked T.b_checked_3 (dl := []) .nil (fun _ => rfl) (passes_call (takes_of rfl rfl rfl rfl) (fun _ _ _ _ h => h)) (sa_cons (se_frz (sf_lst (sa_cons se_str (sa_cons se_str sa_nil)))) (sa_cons (se_frz (sf_lst (sa_cons se_str (sa_cons se_str sa_nil)))) (sa_cons (se_frz (sf_lst (sa_cons se_int sa_nil))) sa_nil))) (hrl := (rl_c (rl_c (rl_c rl_0)))))⟩
  (.cons ⟨LamX.lamS_by (by kernel_rfl), fun _ _ _ _ _ => rfl, rfl, fun _ _ _ _ _ _ _ hr => (se_call Q.F_enough_checked (rm hr) rfl T.m_enough_checked T.k_enough_checked T.b_enough_checked_4 (dl := []) .nil (fun _ => rfl) (passes_call (takes_of rfl rfl rfl rfl) (fun _ _ _ _ h => h)) (sa_cons se_int (sa_cons se_int (sa_cons se_int (sa_cons se_int sa_nil)))) (hrl := (rl_c (rl_c (rl_c (rl_c rl_0))))))⟩
  (.cons ⟨LamX.lamS_by (by kernel_rfl), fun _ _ _ _ _ => rfl, rfl, fun _ _ _ _ _ _ _ hr => (se_call Q.F_enough_checked (rm hr) rfl T.m_enough_checked T.k_enough_checked T.b_enough_checked_4 (dl := []) .nil (fun _ => rfl) (passes_call (takes_of rfl rfl rfl rfl) (fun _ _ _ _ h => h)) (sa_cons se_int (sa_cons se_int (sa_cons se_int (sa_cons se_int sa_nil)))) (hrl := (rl_c (rl_c (rl_c (rl_c rl_0))))))⟩
  (.cons ⟨LamX.lamS_by (by kernel_rfl), fun _ _ _ _ _ => rfl, rfl, fun _ _ _ _ _ _ _ hr => (se_call Q.F_enough_checked (rm hr) rfl T.m_enough_checked T.k_enough_checked T.b_enough_checked_4 (dl := []) .nil (fun _ => rfl) (passes_call (takes_of rfl rfl rfl rfl) (fun _ _ _ _ h => h)) (sa_cons se_int (sa_cons se_int (sa_cons (se_neg se_int) (sa_cons se_int sa_nil)))) (hrl := (rl_c (rl_c (rl_c (rl_c rl_0))))))⟩
  (.cons ⟨LamX.lamS_by (by kernel_rfl), fun _ _ _ _ _ => rfl, rfl, fun _ _ _ _ _ _ _ hr => (se_call Q.F_enough_checked (rm hr) rfl T.m_enough_checked T.k_enough_checked T.b_enough_checked_4 (dl := []) .nil (fun _ => rfl) (passes_call (takes_of rfl rfl rfl rfl) (fun _ _ _ _ h => h)) (sa_cons se_int (sa_cons se_int (sa_cons se_int (sa_cons (se_neg se_int) sa_nil)))) (hrl := (rl_c (rl_c (rl_c (rl_c rl_0))))))⟩
  .nil)))))))))))))))))))
  T.told T.tb__law_plain rfl T.hm__law_plain T.hu__law_plain (rm hr) rfl nd__law_plain (by decide) (blkOk_by (own := [("f", 2)]) (by kernel_rfl)) (fun _ _ _ _ _ => pg_name (i := 2) nd__law_plain rfl (by first | exact Or.inl rfl | exact Or.inr rfl)) (fun _ _ _ _ _ => rfl) (fun _ _ => by first | exact Or.inl rfl | exact Or.inr (Or.inl rfl) | exact Or.inr (Or.inr rfl)) (fun _ _ _ _ _ => pe_int) (sw_or1 (st_cmp .ne (u65 hr) (SE.b (se_gint T.c_MOST_ROWS)) (SE.b se_int)))
  (ss_one (ss_ret se_bl))
  (ss_cons (ss_if (st_cmp .ne (u65 hr) (SE.b (se_meth T.kc (se_var 0) T.M_Station_faults Q.F_Station_faults (rm hr) T.b_Station_faults_2 (dl := []) .nil (fun _ => rfl) (passes_call (takes_of rfl rfl rfl rfl) (fun _ _ _ _ h => h)) T.q_faults (sa_cons se_int (sa_cons se_int sa_nil)) (hrl := (rl_c (rl_c rl_0))))) (SE.b (se_tup (sa_cons se_str sa_nil)))) (ss_one (ss_ret se_bl)) ss_nil)
  (ss_cons (ss_exp (se_meth0 T.kc (se_var 0) T.M_Station_close Q.F_Station_close (rm hr) T.b_Station_close_0 (dl := []) .nil (fun _ => rfl) (passes_call (takes_of rfl rfl rfl rfl) (fun _ _ _ _ h => h)) T.q_close))
  (ss_cons (ss_exp (se_meth T.kc (se_var 0) T.M_Station_spoil Q.F_Station_spoil (rm hr) T.b_Station_spoil_1 (dl := []) .nil (fun _ => rfl) (passes_call (takes_of rfl rfl rfl rfl) (fun _ _ _ _ h => h)) T.q_spoil (sa_cons se_str sa_nil) (hrl := (rl_c rl_0))))
  (ss_cons (ss_if (st_not (st_bool (sw_and (st_cmp .eq (u65 hr) (SE.b (se_meth0 T.kc (se_var 0) T.M_Station_deeds Q.F_Station_deeds (rm hr) T.b_Station_deeds_0 (dl := []) .nil (fun _ => rfl) (passes_call (takes_of rfl rfl rfl rfl) (fun _ _ _ _ h => h)) T.q_deeds)) (SE.b (se_tup (sa_cons se_int (sa_cons se_int (sa_cons se_int (sa_cons se_int sa_nil))))))) (sw_and (st_cmp .eq (u65 hr) (SE.b (se_meth T.kc (se_var 0) T.M_Station_faults Q.F_Station_faults (rm hr) T.b_Station_faults_2 (dl := []) .nil (fun _ => rfl) (passes_call (takes_of rfl rfl rfl rfl) (fun _ _ _ _ h => h)) T.q_faults (sa_cons se_int (sa_cons se_int sa_nil)) (hrl := (rl_c (rl_c rl_0))))) (SE.b (se_tup (sa_cons se_str sa_nil)))) (sw_and1 (st_cmp .eq (u65 hr) (SE.b (se_meth0 T.kc (se_var 0) T.M_Station_turnout Q.F_Station_turnout (rm hr) T.b_Station_turnout_0 (dl := []) .nil (fun _ => rfl) (passes_call (takes_of rfl rfl rfl rfl) (fun _ _ _ _ h => h)) T.q_turnout)) (SE.b se_int))))))) (ss_one (ss_ret se_bl)) ss_nil)
  (ss_one (ss_ret (se_and (se_cmp .eq (u65 hr) (SE.b (se_told (k := 8 * n + 5) T.told rfl T.tb__law_plain rfl T.hm__law_plain T.hu__law_plain (rm hr) (LamX.lamS_by (by kernel_rfl)) (fun _ _ _ _ _ _ _ hr => (se_meth T.kc (se_var 0) T.M_Station_give Q.F_Station_give (rm hr) T.b_Station_give_1 (dl := []) .nil (fun _ => rfl) (passes_call (takes_of rfl rfl rfl rfl) (fun _ _ _ _ h => h)) T.q_give (sa_cons se_str sa_nil) (hrl := (rl_c rl_0)))))) (SE.b se_str)) (se_and (se_cmp .eq (u65 hr) (SE.b (se_told (k := 8 * n + 5) T.told rfl T.tb__law_plain rfl T.hm__law_plain T.hu__law_plain (rm hr) (LamX.lamS_by (by kernel_rfl)) (fun _ _ _ _ _ _ _ hr => (se_meth0 T.kc (se_var 0) T.M_Station_close Q.F_Station_close (rm hr) T.b_Station_close_0 (dl := []) .nil (fun _ => rfl) (passes_call (takes_of rfl rfl rfl rfl) (fun _ _ _ _ h => h)) T.q_close)))) (SE.b se_str)) (se_one (se_cmp .eq (u65 hr) (SE.b (se_meth0 T.kc (se_new T.I_Station Q.F_Station_init (rm hr) rfl T.m_Station T.b_Station_init_3 (dl := []) .nil (fun _ => rfl) (passes_call (takes_of rfl rfl rfl rfl) (fun _ _ _ _ h => h)) (sa_cons se_str (sa_cons se_int (sa_cons (se_frz (sf_lst sa_nil)) sa_nil))) (hrl := (rl_c (rl_c (rl_c rl_0))))) T.M_Station_turnout Q.F_Station_turnout (rm hr) T.b_Station_turnout_0 (dl := []) .nil (fun _ => rfl) (passes_call (takes_of rfl rfl rfl rfl) (fun _ _ _ _ h => h)) T.q_turnout)) (SE.b se_int))))))))))))))))
theorem f__law_plain (T : Tx g K mg base) {O : Orc} {n : Nat} (Q : Lv g P w K mg base T O n) : FnOk P w K mg base (L2.CX P w) (8 * n + 7 + 1) (He.fAd K ("_law_plain", none)) T.fd__law_plain [] (spO g 0 (runD (d__law_plain O))) := fn_runD (k := 8 * n + 7) (at_ := ("_law_plain", none)) (d := d__law_plain O) T.D__law_plain sc__law_plain rfl rfl (Nat.le_of_ble_eq_true rfl) (fun cdv ec A outer s H E hr => by subst ec; exact r__law_plain T Q A outer s H E hr)
theorem sc_law : FnScope N_law ["script"] (defScope st_law) := ⟨rfl, rfl, rfl, nd_law, rfl, by decide +kernel, by decide +kernel⟩
theorem r_law (T : Tx g K mg base) {O : Orc} {n : Nat} (Q : Lv g P w K mg base T O n) (A : Around) (outer : List Env) (s : Shared) (H : Hp) (E : XK) (hr : Room (8 * n + 7) (A.deeper (envOfC "law" (defScope st_law) s.heap.objs.size (He.fAd K ("law", none)) (.ref (He.codeOf K ("law", none)))))) : PSs (cxOf (L2.CX P w) P w K mg base N_law "law" (defScope st_law) (He.fAd K ("law", none)) (.ref (He.codeOf K ("law", none))) A outer s H E) (defBody st_law) (tForScr g K E O 16 0 (.n 1)
  (b2_law O)
  (sRet (cCall O 19 [] cs0))) := by
  exact (ss_forScr 0 Q.F__law_rounds (rm hr) rfl T.m__law_rounds T.k__law_rounds T.b__law_rounds_2 (passes_call (takes_of rfl rfl rfl rfl) (fun _ _ _ _ h => h)) (passes_of rfl) rfl (tg_n 1 nd_law)
  (ss_cons (ss_par2 (i := 2) (j := 3) rfl nd_law (sp_v 2 (se_frz (sf_comp (t := (.n 4)) rfl nd_law (SI.toE (si_rng1 (hm := T.n_range) (ha := (se_bin .add (SE.b se_int) (SE.b (se_call Q.F__law_roll (rm hr) rfl T.m__law_roll T.k__law_roll T.b__law_roll_2 (dl := []) .nil (fun _ => rfl) (passes_call (takes_of rfl rfl rfl rfl) (fun _ _ _ _ h => h)) (sa_cons (se_var 1) (sa_cons se_int sa_nil)) (hrl := (rl_c (rl_c rl_0))))))))) (blkOk_by (own := [("k", 4)]) (by kernel_rfl)) rfl (fun _ _ _ _ _ => (tg_n 4 nd_law)) (fun _ _ _ _ _ => pts_nil) (fun _ _ _ _ _ => (se_bin .add (SE.b se_str) (SE.b (se_strc (hm := T.n_str) (ha := (se_var 4)))))))) (sp_v 3 (se_call Q.F__law_roll (rm hr) rfl T.m__law_roll T.k__law_roll T.b__law_roll_2 (dl := []) .nil (fun _ => rfl) (passes_call (takes_of rfl rfl rfl rfl) (fun _ _ _ _ h => h)) (sa_cons (se_var 1) (sa_cons se_int sa_nil)) (hrl := (rl_c (rl_c rl_0)))) sp_nil)))
  (ss_cons (ss_parT (n := 3) rfl (sp_v 5 (se_new T.I_Station Q.F_Station_init (rm hr) rfl T.m_Station T.b_Station_init_3 (dl := []) .nil (fun _ => rfl) (passes_call (takes_of rfl rfl rfl rfl) (fun _ _ _ _ h => h)) (sa_cons se_str (sa_cons (se_var 3) (sa_cons (se_var 2) sa_nil))) (hrl := (rl_c (rl_c (rl_c rl_0))))) (sp_v 6 (se_frz (sf_lst sa_nil)) (sp_v 7 se_bl sp_nil))) (gs_cons 5 (gs_cons 6 (gs_cons 7 gs_nil nd_law) nd_law) nd_law))
  (ss_cons (ss_for (passes_of rfl) rfl (si_rng1 (hm := T.n_range) (ha := (se_call Q.F__law_roll (rm hr) rfl T.m__law_roll T.k__law_roll T.b__law_roll_2 (dl := []) .nil (fun _ => rfl) (passes_call (takes_of rfl rfl rfl rfl) (fun _ _ _ _ h => h)) (sa_cons (se_var 1) (sa_cons se_int sa_nil)) (hrl := (rl_c (rl_c rl_0)))))) (tg_n 8 nd_law) (ss_cons (ss_parT (n := 2) rfl (sp_v 9 (se_idx (u65 hr) (SE.b (se_bin .add (SE.b (se_var 2)) (SE.b (se_frz (sf_lst (sa_cons se_str sa_nil)))))) (SE.b (se_call Q.F__law_roll (rm hr) rfl T.m__law_roll T.k__law_roll T.b__law_roll_2 (dl := []) .nil (fun _ => rfl) (passes_call (takes_of rfl rfl rfl rfl) (fun _ _ _ _ h => h)) (sa_cons (se_var 1) (sa_cons (se_bin .add (SE.b (se_len (hm := T.n_len) (ha := (SE.b (se_var 2))))) (SE.b se_int)) sa_nil)) (hrl := (rl_c (rl_c rl_0)))))) (sp_v 10 (se_call Q.F__law_roll (rm hr) rfl T.m__law_roll T.k__law_roll T.b__law_roll_2 (dl := []) .nil (fun _ => rfl) (passes_call (takes_of rfl rfl rfl rfl) (fun _ _ _ _ h => h)) (sa_cons (se_var 1) (sa_cons se_int sa_nil)) (hrl := (rl_c (rl_c rl_0)))) sp_nil)) (gs_cons 9 (gs_cons 10 gs_nil nd_law) nd_law))
  (ss_cons (ss_set 11 nd_law (se_idx (u65 hr) (SE.b (se_bin .add (SE.b (se_frz (sf_lst (sa_cons se_str sa_nil)))) (SE.b (se_frz (sf_comp (t := (.t [12, 13])) rfl nd_law (SI.toE (si_seq (se_var 6))) (blkOk_by (own := [("one", 12), ("deed", 13)]) (by kernel_rfl)) rfl (fun _ _ _ _ _ => (tg_t rfl (tgs_cons 12 (tgs_cons 13 tgs_nil nd_law) nd_law))) (fun _ _ _ _ _ => (pts_one (st_cmp .eq (u65 hr) (SE.b (se_var 12)) (SE.b (se_var 9))))) (fun _ _ _ _ _ => (se_var 13))))))) (SE.b (se_neg se_int))))
  (ss_cons (ss_set 14 nd_law (se_len (hm := T.n_len) (ha := (SE.b (se_frz (sf_comp (t := (.t [12, 13])) rfl nd_law (SI.toE (si_seq (se_var 6))) (blkOk_by (own := [("one", 12), ("deed", 13)]) (by kernel_rfl)) rfl (fun _ _ _ _ _ => (tg_t rfl (tgs_cons 12 (tgs_cons 13 tgs_nil nd_law) nd_law))) (fun _ _ _ _ _ => (pts_one (st_cmp .eq (u65 hr) (SE.b (se_var 13)) (SE.b se_str)))) (fun _ _ _ _ _ => se_int)))))))
  (ss_cons (ss_if (st_bool (sw_and (st_cmp .eq (u65 hr) (SE.b (se_var 10)) (SE.b se_int)) (sw_and1 (st_cmp .eq (u65 hr) (SE.b (se_call Q.F__law_roll (rm hr) rfl T.m__law_roll T.k__law_roll T.b__law_roll_2 (dl := []) .nil (fun _ => rfl) (passes_call (takes_of rfl rfl rfl rfl) (fun _ _ _ _ h => h)) (sa_cons (se_var 1) (sa_cons se_int sa_nil)) (hrl := (rl_c (rl_c rl_0))))) (SE.b se_int))))) (ss_cons (ss_if (st_cmp .eq (u65 hr) (SE.b (se_cmp .eq (u65 hr) (SE.b (se_told (k := 8 * n + 5) T.told rfl T.tb_law rfl T.hm_law T.hu_law (rm hr) (LamX.lamS_by (by kernel_rfl)) (fun _ _ _ _ _ _ _ hr => (se_meth0 T.kc (se_var 5) T.M_Station_close Q.F_Station_close (rm hr) T.b_Station_close_0 (dl := []) .nil (fun _ => rfl) (passes_call (takes_of rfl rfl rfl rfl) (fun _ _ _ _ h => h)) T.q_close)))) (SE.b se_str))) (SE.b (se_var 7))) (ss_one (ss_ret se_bl)) ss_nil)
  (ss_one (ss_set 7 nd_law se_bl))) (ss_one (ss_if (st_cmp .lt (u65 hr) (SE.b (se_var 10)) (SE.b se_int)) (ss_cons (ss_set 15 nd_law (se_and (se_cmp .ne (u65 hr) (SE.b (se_var 9)) (SE.b se_str)) (se_and (se_cmp .inn (u65 hr) (SE.b (se_var 11)) (SE.b (se_frz (sf_lst (sa_cons se_str (sa_cons se_str sa_nil)))))) (se_and (se_cmp .lt (u65 hr) (SE.b (se_var 14)) (SE.b (se_var 3))) (se_one (se_var 7))))))
  (ss_cons (ss_if (st_cmp .eq (u65 hr) (SE.b (se_cmp .eq (u65 hr) (SE.b (se_told (k := 8 * n + 5) T.told rfl T.tb_law rfl T.hm_law T.hu_law (rm hr) (LamX.lamS_by (by kernel_rfl)) (fun _ _ _ _ _ _ _ hr => (se_meth T.kc (se_var 5) T.M_Station_give Q.F_Station_give (rm hr) T.b_Station_give_1 (dl := []) .nil (fun _ => rfl) (passes_call (takes_of rfl rfl rfl rfl) (fun _ _ _ _ h => h)) T.q_give (sa_cons (se_var 9) sa_nil) (hrl := (rl_c rl_0)))))) (SE.b se_str))) (SE.b (se_var 15))) (ss_one (ss_ret se_bl)) ss_nil)
  (ss_one (ss_set 6 nd_law (se_bin .add (SE.b (se_var 6)) (SE.b (se_bin .mul (SE.b (se_frz (sf_lst (sa_cons (se_tup (sa_cons (se_var 9) (sa_cons se_str sa_nil))) sa_nil)))) (SE.b (se_intc (hm := T.n_int) (ha := (se_var 15))))))))))) (ss_cons (ss_set 15 nd_law (se_and (se_cmp .ne (u65 hr) (SE.b (se_var 9)) (SE.b se_str)) (se_and (se_cmp .eq (u65 hr) (SE.b (se_var 11)) (SE.b se_str)) (se_one (se_or (se_cmp .eq (u65 hr) (SE.b (se_var 10)) (SE.b se_int)) (se_one (se_var 7)))))))
  (ss_cons (ss_if (st_cmp .eq (u65 hr) (SE.b (se_cmp .eq (u65 hr) (SE.b (se_told (k := 8 * n + 5) T.told rfl T.tb_law rfl T.hm_law T.hu_law (rm hr) (LamX.lamS_by (by kernel_rfl)) (fun _ _ _ _ _ _ _ hr => (se_if (st_cmp .eq (u65 hr) (SE.b (se_var 10)) (SE.b se_int)) (se_meth T.kc (se_var 5) T.M_Station_spoil Q.F_Station_spoil (rm hr) T.b_Station_spoil_1 (dl := []) .nil (fun _ => rfl) (passes_call (takes_of rfl rfl rfl rfl) (fun _ _ _ _ h => h)) T.q_spoil (sa_cons (se_var 9) sa_nil) (hrl := (rl_c rl_0))) (se_meth T.kc (se_var 5) T.M_Station_put Q.F_Station_put (rm hr) T.b_Station_put_1 (dl := []) .nil (fun _ => rfl) (passes_call (takes_of rfl rfl rfl rfl) (fun _ _ _ _ h => h)) T.q_put (sa_cons (se_var 9) sa_nil) (hrl := (rl_c rl_0))))))) (SE.b se_str))) (SE.b (se_var 15))) (ss_one (ss_ret se_bl)) ss_nil)
  (ss_one (ss_set 6 nd_law (se_bin .add (SE.b (se_var 6)) (SE.b (se_bin .mul (SE.b (se_frz (sf_lst (sa_cons (se_tup (sa_cons (se_var 9) (sa_cons (se_if (st_cmp .eq (u65 hr) (SE.b (se_var 10)) (SE.b se_int)) se_str se_str) sa_nil))) sa_nil)))) (SE.b (se_intc (hm := T.n_int) (ha := (se_var 15))))))))))))))
  (ss_cons (ss_setLc 16 (t := (.n 17)) rfl nd_law rfl rfl (sw_true rfl rfl rfl (by kernel_rfl)) (SI.toE (si_seq (se_frz (sf_lst (sa_cons se_str (sa_cons se_str (sa_cons se_str sa_nil))))))) (blkOk_by (own := [("word", 17)]) (by kernel_rfl)) rfl (fun _ _ _ _ _ => (tg_n 17 nd_law)) (fun _ _ _ _ _ => pts_nil) (fun _ _ _ _ _ => (se_len (hm := T.n_len) (ha := (SE.b (se_frz (sf_comp (t := (.t [12, 13])) rfl nd_law (SI.toE (si_seq (se_var 6))) (blkOk_by (own := [("one", 12), ("deed", 13)]) (by kernel_rfl)) rfl (fun _ _ _ _ _ => (tg_t rfl (tgs_cons 12 (tgs_cons 13 tgs_nil nd_law) nd_law))) (fun _ _ _ _ _ => (pts_one (st_cmp .eq (u65 hr) (SE.b (se_var 13)) (SE.b (se_var 17))))) (fun _ _ _ _ _ => se_int))))))))
  (ss_cons (ss_if (st_bool (sw_or (st_cmp .ne (u65 hr) (SE.b (se_fld 3 T.kc (SE.b (se_var 5)) (hf := T.f_3) (hx := T.x_3))) (SE.b (se_var 6))) (sw_or1 (st_cmp .ne (u65 hr) (SE.b (se_meth0 T.kc (se_var 5) T.M_Station_deeds Q.F_Station_deeds (rm hr) T.b_Station_deeds_0 (dl := []) .nil (fun _ => rfl) (passes_call (takes_of rfl rfl rfl rfl) (fun _ _ _ _ h => h)) T.q_deeds)) (SE.b (se_tup (sa_cons (se_idx (u65 hr) (SE.b (se_var 16)) (SE.b se_int)) (sa_cons (se_idx (u65 hr) (SE.b (se_var 16)) (SE.b se_int)) (sa_cons (se_idx (u65 hr) (SE.b (se_var 16)) (SE.b se_int)) (sa_cons (se_bin .sub (SE.b (se_bin .sub (SE.b (se_idx (u65 hr) (SE.b (se_var 16)) (SE.b se_int))) (SE.b (se_idx (u65 hr) (SE.b (se_var 16)) (SE.b se_int))))) (SE.b (se_idx (u65 hr) (SE.b (se_var 16)) (SE.b se_int)))) sa_nil)))))))))) (ss_one (ss_ret se_bl)) ss_nil)
  (ss_cons (ss_if (st_bool (sw_or (st_cmp .ne (u65 hr) (SE.b (se_meth0 T.kc (se_var 5) T.M_Station_blanks_left Q.F_Station_blanks_left (rm hr) T.b_Station_blanks_left_0 (dl := []) .nil (fun _ => rfl) (passes_call (takes_of rfl rfl rfl rfl) (fun _ _ _ _ h => h)) T.q_blanks_left)) (SE.b (se_bin .sub (SE.b (se_var 3)) (SE.b (se_idx (u65 hr) (SE.b (se_var 16)) (SE.b se_int)))))) (sw_or1 (st_cmp .ne (u65 hr) (SE.b (se_fld 4 T.kc (SE.b (se_var 5)) (hf := T.f_4) (hx := T.x_4))) (SE.b (se_var 7)))))) (ss_one (ss_ret se_bl)) ss_nil)
  (ss_cons (ss_if (st_cmp .ne (u65 hr) (SE.b (se_frz (sf_comp (t := (.n 12)) rfl nd_law (SI.toE (si_seq (se_var 2))) (blkOk_by (own := [("one", 12)]) (by kernel_rfl)) rfl (fun _ _ _ _ _ => (tg_n 12 nd_law)) (fun _ _ _ _ _ => pts_nil) (fun _ _ _ _ _ => (se_meth T.kc (se_var 5) T.M_Station_state Q.F_Station_state (rm hr) T.b_Station_state_1 (dl := []) .nil (fun _ => rfl) passes0 T.q_state (sa_cons (se_var 12) sa_nil) (hrl := (rl_c rl_0))))))) (SE.b (se_frz (sf_comp (t := (.n 12)) rfl nd_law (SI.toE (si_seq (se_var 2))) (blkOk_by (own := [("one", 12)]) (by kernel_rfl)) rfl (fun _ _ _ _ _ => (tg_n 12 nd_law)) (fun _ _ _ _ _ => pts_nil) (fun _ _ _ _ _ => (se_idx (u65 hr) (SE.b (se_bin .add (SE.b (se_frz (sf_lst (sa_cons se_str sa_nil)))) (SE.b (se_frz (sf_comp (t := (.t [18, 13])) rfl nd_law (SI.toE (si_seq (se_var 6))) (blkOk_by (own := [("two", 18), ("deed", 13)]) (by kernel_rfl)) rfl (fun _ _ _ _ _ => (tg_t rfl (tgs_cons 18 (tgs_cons 13 tgs_nil nd_law) nd_law))) (fun _ _ _ _ _ => (pts_one (st_cmp .eq (u65 hr) (SE.b (se_var 18)) (SE.b (se_var 12))))) (fun _ _ _ _ _ => (se_var 13))))))) (SE.b (se_neg se_int)))))))) (ss_one (ss_ret se_bl)) ss_nil)
  (ss_cons (ss_if (st_cmp .ne (u65 hr) (SE.b (se_meth0 T.kc (se_var 5) T.M_Station_turnout Q.F_Station_turnout (rm hr) T.b_Station_turnout_0 (dl := []) .nil (fun _ => rfl) (passes_call (takes_of rfl rfl rfl rfl) (fun _ _ _ _ h => h)) T.q_turnout)) (SE.b (se_bin .fdiv (SE.b (se_bin .mul (SE.b (se_idx (u65 hr) (SE.b (se_var 16)) (SE.b se_int))) (SE.b se_int))) (SE.b (se_len (hm := T.n_len) (ha := (SE.b (se_var 2)))))))) (ss_one (ss_ret se_bl)) ss_nil)
  (ss_cons (ss_par2 (i := 19) (j := 20) rfl nd_law (sp_v 19 (se_bin .sub (SE.b (se_bin .add (SE.b (se_idx (u65 hr) (SE.b (se_var 16)) (SE.b se_int))) (SE.b (se_call Q.F__law_roll (rm hr) rfl T.m__law_roll T.k__law_roll T.b__law_roll_2 (dl := []) .nil (fun _ => rfl) (passes_call (takes_of rfl rfl rfl rfl) (fun _ _ _ _ h => h)) (sa_cons (se_var 1) (sa_cons se_int sa_nil)) (hrl := (rl_c (rl_c rl_0))))))) (SE.b se_int)) (sp_v 20 (se_bin .sub (SE.b (se_bin .add (SE.b (se_bin .sub (SE.b (se_var 3)) (SE.b (se_idx (u65 hr) (SE.b (se_var 16)) (SE.b se_int))))) (SE.b (se_call Q.F__law_roll (rm hr) rfl T.m__law_roll T.k__law_roll T.b__law_roll_2 (dl := []) .nil (fun _ => rfl) (passes_call (takes_of rfl rfl rfl rfl) (fun _ _ _ _ h => h)) (sa_cons (se_var 1) (sa_cons se_int sa_nil)) (hrl := (rl_c (rl_c rl_0))))))) (SE.b se_int)) sp_nil)))
  (ss_cons (ss_set 21 nd_law (se_bin .add (SE.b (se_bin .add (SE.b (se_bin .mul (SE.b (se_frz (sf_lst (sa_cons (se_bin .add (SE.b se_str) (SE.b (se_strc (hm := T.n_str) (ha := (se_bin .sub (SE.b (se_var 19)) (SE.b (se_idx (u65 hr) (SE.b (se_var 16)) (SE.b se_int)))))))) sa_nil)))) (SE.b (se_intc (hm := T.n_int) (ha := (se_cmp .ne (u65 hr) (SE.b (se_var 19)) (SE.b (se_idx (u65 hr) (SE.b (se_var 16)) (SE.b se_int))))))))) (SE.b (se_bin .mul (SE.b (se_frz (sf_lst (sa_cons (se_bin .add (SE.b se_str) (SE.b (se_strc (hm := T.n_str) (ha := (se_bin .add (SE.b (se_bin .sub (SE.b (se_var 20)) (SE.b (se_var 3)))) (SE.b (se_idx (u65 hr) (SE.b (se_var 16)) (SE.b se_int)))))))) sa_nil)))) (SE.b (se_intc (hm := T.n_int) (ha := (se_cmp .ne (u65 hr) (SE.b (se_var 20)) (SE.b (se_bin .sub (SE.b (se_var 3)) (SE.b (se_idx (u65 hr) (SE.b (se_var 16)) (SE.b se_int))))))))))))) (SE.b (se_bin .mul (SE.b (se_frz (sf_lst (sa_cons se_str sa_nil)))) (SE.b (se_intc (hm := T.n_int) (ha := (se_var 7))))))))
  (ss_one (ss_if (st_cmp .ne (u65 hr) (SE.b (se_frz (sf_lstO (hm := T.n_list) (ha := (SE.b (se_meth T.kc (se_var 5) T.M_Station_faults Q.F_Station_faults (rm hr) T.b_Station_faults_2 (dl := []) .nil (fun _ => rfl) (passes_call (takes_of rfl rfl rfl rfl) (fun _ _ _ _ h => h)) T.q_faults (sa_cons (se_var 19) (sa_cons (se_var 20) sa_nil)) (hrl := (rl_c (rl_c rl_0))))))))) (SE.b (se_var 21))) (ss_one (ss_ret se_bl)) ss_nil))))))))))))))
  (ss_one (ss_if (st_not (st_val (se_call Q.F__law_looks (rm hr) rfl T.m__law_looks T.k__law_looks T.b__law_looks_1 (dl := []) .nil (fun _ => rfl) (passes_call (takes_of rfl rfl rfl rfl) (fun _ _ _ _ h => h)) (sa_cons (se_var 1) sa_nil) (hrl := (rl_c rl_0))))) (ss_one (ss_ret se_bl)) ss_nil)))))
  (ss_one (ss_ret (se_call0 Q.F__law_plain (rm hr) rfl T.m__law_plain T.k__law_plain T.b__law_plain_0 (dl := []) .nil (fun _ => rfl) (passes_call (takes_of rfl rfl rfl rfl) (fun _ _ _ _ h => h))))))
theorem f_law (T : Tx g K mg base) {O : Orc} {n : Nat} (Q : Lv g P w K mg base T O n) : FnOk P w K mg base (L2.CX P w) (8 * n + 7 + 1) (He.fAd K ("law", none)) T.fd_law ["script"] (spLaw g K (runD (d_law O))) := fn_law (k := 8 * n + 7) (at_ := ("law", none)) T.D_law sc_law rfl (by decide) (fun cdv ec A outer s H E hr => by subst ec; exact r_law T Q A outer s H E hr)
theorem lv (T : Tx g K mg base) : ∀ n, Lv g P w K mg base T (callN tbl n) n
  | 0 => {
      F_Station_blanks_left := (fn_zero (n := 0) fun _ _ => rfl),
      F_Station_close := (fn_zero (n := 0) fun _ _ => rfl),
      F_Station_deeds := (fn_zero (n := 0) fun _ _ => rfl),
      F_Station_faults := (fn_zero (n := 0) fun _ _ => rfl),
      F_Station_give := (fn_zero (n := 0) fun _ _ => rfl),
      F_Station_init := (fn_zero (n := 0) fun _ _ => rfl),
      F_Station_put := (fn_zero (n := 0) fun _ _ => rfl),
      F_Station_spoil := (fn_zero (n := 0) fun _ _ => rfl),
      F_Station_state := (fn_zero (n := 0) fun _ _ => rfl),
      F_Station_turnout := (fn_zero (n := 0) fun _ _ => rfl),
      F__law_dice := (fn_zero (n := 0) fun _ _ => rfl),
      F__law_looks := (fn_zero (n := 0) fun _ _ => rfl),
      F__law_plain := (fn_zero (n := 0) fun _ _ => rfl),
      F__law_roll := (fn_zero (n := 0) fun _ _ => rfl),
      F__law_rounds := (fn_zeroS rfl fun _ _ => rfl),
      F_checked := (fn_zero (n := 0) fun _ _ => rfl),
      F_drawn := (fn_zero (n := 0) fun _ _ => rfl),
      F_enough_checked := (fn_zero (n := 0) fun _ _ => rfl),
      F_margin_of := (fn_zero (n := 0) fun _ _ => rfl) }
  | n + 1 => {
      F_Station_blanks_left := f_Station_blanks_left T (lv T n),
      F_Station_close := f_Station_close T (lv T n),
      F_Station_deeds := f_Station_deeds T (lv T n),
      F_Station_faults := f_Station_faults T (lv T n),
      F_Station_give := f_Station_give T (lv T n),
      F_Station_init := f_Station_init T (lv T n),
      F_Station_put := f_Station_put T (lv T n),
      F_Station_spoil := f_Station_spoil T (lv T n),
      F_Station_state := f_Station_state T (lv T n),
      F_Station_turnout := f_Station_turnout T (lv T n),
      F__law_dice := f__law_dice T (lv T n),
      F__law_looks := f__law_looks T (lv T n),
      F__law_plain := f__law_plain T (lv T n),
      F__law_roll := f__law_roll T (lv T n),
      F__law_rounds := f__law_rounds T (lv T n),
      F_checked := f_checked T (lv T n),
      F_drawn := f_drawn T (lv T n),
      F_enough_checked := f_enough_checked T (lv T n),
      F_margin_of := f_margin_of T (lv T n) }
end
def inf : Info := { c0 := "Station", classes := ["Station"], fields := ["name", "ballots", "voters", "rows", "is_open"], errs := ["PollError", "StationError"], mkrs := ["Station"], meths := [("Station", "blanks_left"), ("Station", "close"), ("Station", "deeds"), ("Station", "faults"), ("Station", "give"), ("Station", "put"), ("Station", "spoil"), ("Station", "state"), ("Station", "turnout")], exms := [("StationError", "StationError")], funs := ["_law_dice", "_law_looks", "_law_plain", "_law_roll", "_law_rounds", "_law_told", "checked", "drawn", "enough_checked", "law", "margin_of"], consts := [("MOST_ROWS", 2000)], blts := ["abs", "any", "int", "len", "list", "max", "range", "sorted", "str", "tuple"], tf := [(("checked", none), (("checked.<locals>." : Str) ++ "<genexpr>")), (("_law_looks", none), (("_law_looks.<locals>." : Str) ++ "<lambda>")), (("_law_plain", none), (("_law_plain.<locals>." : Str) ++ "<lambda>")), (("law", none), (("law.<locals>." : Str) ++ "<lambda>"))], nd := by decide +kernel }
def D_Station_init : He.DefD := ⟨("Station", some "__init__"), "__init__", "Station.__init__", defArgs st_Station_init, defBody st_Station_init, defScope st_Station_init, [], []⟩
def D_Station_state : He.DefD := ⟨("Station", some "state"), "state", "Station.state", defArgs st_Station_state, defBody st_Station_state, defScope st_Station_state, [], []⟩
def D_Station_blanks_left : He.DefD := ⟨("Station", some "blanks_left"), "blanks_left", "Station.blanks_left", defArgs st_Station_blanks_left, defBody st_Station_blanks_left, defScope st_Station_blanks_left, [], []⟩
def D_Station_give : He.DefD := ⟨("Station", some "give"), "give", "Station.give", defArgs st_Station_give, defBody st_Station_give, defScope st_Station_give, [], []⟩
def D_Station_spoil : He.DefD := ⟨("Station", some "spoil"), "spoil", "Station.spoil", defArgs st_Station_spoil, defBody st_Station_spoil, defScope st_Station_spoil, [], []⟩
def D_Station_put : He.DefD := ⟨("Station", some "put"), "put", "Station.put", defArgs st_Station_put, defBody st_Station_put, defScope st_Station_put, [], []⟩
def D_Station_close : He.DefD := ⟨("Station", some "close"), "close", "Station.close", defArgs st_Station_close, defBody st_Station_close, defScope st_Station_close, [], []⟩
def D_Station_deeds : He.DefD := ⟨("Station", some "deeds"), "deeds", "Station.deeds", defArgs st_Station_deeds, defBody st_Station_deeds, defScope st_Station_deeds, [], []⟩
def D_Station_faults : He.DefD := ⟨("Station", some "faults"), "faults", "Station.faults", defArgs st_Station_faults, defBody st_Station_faults, defScope st_Station_faults, [], []⟩
def D_Station_turnout : He.DefD := ⟨("Station", some "turnout"), "turnout", "Station.turnout", defArgs st_Station_turnout, defBody st_Station_turnout, defScope st_Station_turnout, [], []⟩
def D_drawn : He.DefD := ⟨("drawn", none), "drawn", "drawn", defArgs st_drawn, defBody st_drawn, defScope st_drawn, [], []⟩
def D_checked : He.DefD := ⟨("checked", none), "checked", "checked", defArgs st_checked, defBody st_checked, defScope st_checked, [], []⟩
def D_margin_of : He.DefD := ⟨("margin_of", none), "margin_of", "margin_of", defArgs st_margin_of, defBody st_margin_of, defScope st_margin_of, [], []⟩
def D_enough_checked : He.DefD := ⟨("enough_checked", none), "enough_checked", "enough_checked", defArgs st_enough_checked, defBody st_enough_checked, defScope st_enough_checked, [], []⟩
def D__law_dice : He.DefD := ⟨("_law_dice", none), "_law_dice", "_law_dice", defArgs st__law_dice, defBody st__law_dice, defScope st__law_dice, [], []⟩
def D__law_roll : He.DefD := ⟨("_law_roll", none), "_law_roll", "_law_roll", defArgs st__law_roll, defBody st__law_roll, defScope st__law_roll, [], []⟩
def D__law_rounds : He.DefD := ⟨("_law_rounds", none), "_law_rounds", "_law_rounds", defArgs st__law_rounds, defBody st__law_rounds, defScope st__law_rounds, [], []⟩
def D__law_looks : He.DefD := ⟨("_law_looks", none), "_law_looks", "_law_looks", defArgs st__law_looks, defBody st__law_looks, defScope st__law_looks, [], []⟩
def D__law_plain : He.DefD := ⟨("_law_plain", none), "_law_plain", "_law_plain", defArgs st__law_plain, defBody st__law_plain, defScope st__law_plain, [], []⟩
def D_law : He.DefD := ⟨("law", none), "law", "law", defArgs st_law, defBody st_law, defScope st_law, [], []⟩
def D__law_told : He.DefD := ⟨("_law_told", none), "_law_told", "_law_told", defArgs st__law_told, defBody st__law_told, defScope st__law_told, [], []⟩
def fn : List He.DefD := [D_Station_init, D_Station_state, D_Station_blanks_left, D_Station_give, D_Station_spoil, D_Station_put, D_Station_close, D_Station_deeds, D_Station_faults, D_Station_turnout, D_drawn, D_checked, D_margin_of, D_enough_checked, D__law_dice, D__law_roll, D__law_rounds, D__law_looks, D__law_plain, D_law, D__law_told]
def tf : List He.Defn := inf.tf.map (·.1)
abbrev R : PySem.W.OpenRow := PySem.W.OpenLaw.row PySem.Challenge.rw_pollstack_k07_stations_that_come_out_eve
abbrev hk : PySem.W.Hook := He.hookX 6 inf.fa fn [] tf inf.apart
def ob (s : PySem.W.SharedT) : He.AlX := He.obsX 6 inf.fa fn [] tf inf.apart (HandSHeadRun.getT s)
theorem ob_eq (s : PySem.W.SharedT) : ob s = hk.obs s.abs := He.obsX_eq (HandSHeadRun.getT_eq s)
def loose : List PySem.Str := (["PollError", "StationError", "MOST_ROWS", "Station", "drawn", "checked", "margin_of", "enough_checked", "_law_dice", "_law_roll", "_law_rounds", "_law_told", "_law_looks", "_law_plain"] : List Str)
abbrev vw : Program := PySem.W.view R.prog [17]
/-- all static facts -/
theorem tx_of {K : PySem.W.Frag} {h : Heap} {mg : Str → Option Value} {base : Heap} (X : K.In h) (G : h.Ns mainGlobals mg) (c : He.SaysD inf.fa fn K) (ap : inf.apart K = true) (TB : ∀ p ∈ tf.map (He.cT K), LamX.TabB base mg p.1 p.2) : ∃ T : Tx (inf.gx K) K mg base, True := by
  obtain ⟨fd_Station_init, D_Station_init⟩ := c.defs (d := D_Station_init) (by simp [fn])
  obtain ⟨fd_Station_state, D_Station_state⟩ := c.defs (d := D_Station_state) (by simp [fn])
  obtain ⟨fd_Station_blanks_left, D_Station_blanks_left⟩ := c.defs (d := D_Station_blanks_left) (by simp [fn])
  obtain ⟨fd_Station_give, D_Station_give⟩ := c.defs (d := D_Station_give) (by simp [fn])
  obtain ⟨fd_Station_spoil, D_Station_spoil⟩ := c.defs (d := D_Station_spoil) (by simp [fn])
  obtain ⟨fd_Station_put, D_Station_put⟩ := c.defs (d := D_Station_put) (by simp [fn])
  obtain ⟨fd_Station_close, D_Station_close⟩ := c.defs (d := D_Station_close) (by simp [fn])
  obtain ⟨fd_Station_deeds, D_Station_deeds⟩ := c.defs (d := D_Station_deeds) (by simp [fn])
  obtain ⟨fd_Station_faults, D_Station_faults⟩ := c.defs (d := D_Station_faults) (by simp [fn])
  obtain ⟨fd_Station_turnout, D_Station_turnout⟩ := c.defs (d := D_Station_turnout) (by simp [fn])
  obtain ⟨fd_drawn, D_drawn⟩ := c.defs (d := D_drawn) (by simp [fn])
  obtain ⟨fd_checked, D_checked⟩ := c.defs (d := D_checked) (by simp [fn])
  obtain ⟨fd_margin_of, D_margin_of⟩ := c.defs (d := D_margin_of) (by simp [fn])
  obtain ⟨fd_enough_checked, D_enough_checked⟩ := c.defs (d := D_enough_checked) (by simp [fn])
  obtain ⟨fd__law_dice, D__law_dice⟩ := c.defs (d := D__law_dice) (by simp [fn])
  obtain ⟨fd__law_roll, D__law_roll⟩ := c.defs (d := D__law_roll) (by simp [fn])
  obtain ⟨fd__law_rounds, D__law_rounds⟩ := c.defs (d := D__law_rounds) (by simp [fn])
  obtain ⟨fd__law_looks, D__law_looks⟩ := c.defs (d := D__law_looks) (by simp [fn])
  obtain ⟨fd__law_plain, D__law_plain⟩ := c.defs (d := D__law_plain) (by simp [fn])
  obtain ⟨fd_law, D_law⟩ := c.defs (d := D_law) (by simp [fn])
  obtain ⟨fdT, DT⟩ := c.defs (d := D__law_told) (by simp [fn])
  have TOLD : ToldF (inf.gx K) K mg "_law_told" [1] "StationError" := by
    obtain ⟨oc, od, dV, kV, doc, pm, an, cdv, ct, osl, e1, lk, hcd, _, _⟩ := DT.ex
    have b := FunD.bindsN (ps := ["what"]) DT fun _ _ _ _ _ _ us hl => match us, hl with | [_], _ => rfl
    subst e1
    exact ⟨_, He.ga K "StationError", st__law_told, "what", "StationError", dV, kV, doc, pm, cdv, ct, oc, an, od, osl, ["what"], _, _, _, _, _, _, _, _, _, Info.gloF c X G (by decide +kernel), Info.keepF c (by decide +kernel), lk, hcd, b, ⟨rfl, rfl, rfl, by decide +kernel, rfl, by decide +kernel, by decide +kernel⟩, rfl, by first | exact Or.inl rfl | exact Or.inr (Or.inl rfl), by decide, by decide, rfl, Info.gloE c X G (C := "StationError") (by decide +kernel), by decide, fun _ => rfl, rfl, fun k hk => by
      have hk : k ∈ ([1] : List Nat) := List.contains_iff_mem.mp hk
      simp only [List.mem_cons, List.not_mem_nil, or_false] at hk
      subst hk <;> exact Info.exm c rfl (by decide +kernel)⟩
  exact ⟨{
    fd_Station_init := fd_Station_init,
    fd_Station_state := fd_Station_state,
    fd_Station_blanks_left := fd_Station_blanks_left,
    fd_Station_give := fd_Station_give,
    fd_Station_spoil := fd_Station_spoil,
    fd_Station_put := fd_Station_put,
    fd_Station_close := fd_Station_close,
    fd_Station_deeds := fd_Station_deeds,
    fd_Station_faults := fd_Station_faults,
    fd_Station_turnout := fd_Station_turnout,
    fd_drawn := fd_drawn,
    fd_checked := fd_checked,
    fd_margin_of := fd_margin_of,
    fd_enough_checked := fd_enough_checked,
    fd__law_dice := fd__law_dice,
    fd__law_roll := fd__law_roll,
    fd__law_rounds := fd__law_rounds,
    fd__law_looks := fd__law_looks,
    fd__law_plain := fd__law_plain,
    fd_law := fd_law,
    D_Station_init := D_Station_init,
    D_Station_state := D_Station_state,
    D_Station_blanks_left := D_Station_blanks_left,
    D_Station_give := D_Station_give,
    D_Station_spoil := D_Station_spoil,
    D_Station_put := D_Station_put,
    D_Station_close := D_Station_close,
    D_Station_deeds := D_Station_deeds,
    D_Station_faults := D_Station_faults,
    D_Station_turnout := D_Station_turnout,
    D_drawn := D_drawn,
    D_checked := D_checked,
    D_margin_of := D_margin_of,
    D_enough_checked := D_enough_checked,
    D__law_dice := D__law_dice,
    D__law_roll := D__law_roll,
    D__law_rounds := D__law_rounds,
    D__law_looks := D__law_looks,
    D__law_plain := D__law_plain,
    D_law := D_law,
    I_Station := (Info.mkr c (by decide +kernel)),
    M_Station_blanks_left := (Info.meth c (by decide +kernel)),
    M_Station_close := (Info.meth c (by decide +kernel)),
    M_Station_deeds := (Info.meth c (by decide +kernel)),
    M_Station_faults := (Info.meth c (by decide +kernel)),
    M_Station_give := (Info.meth c (by decide +kernel)),
    M_Station_put := (Info.meth c (by decide +kernel)),
    M_Station_spoil := (Info.meth c (by decide +kernel)),
    M_Station_state := (Info.meth c (by decide +kernel)),
    M_Station_turnout := (Info.meth c (by decide +kernel)),
    b_Station_blanks_left_0 := (FunD.bindsN D_Station_blanks_left fun _ _ _ _ _ _ us hl => match us, hl with | [_], _ => rfl),
    b_Station_close_0 := (FunD.bindsN D_Station_close fun _ _ _ _ _ _ us hl => match us, hl with | [_], _ => rfl),
    b_Station_deeds_0 := (FunD.bindsN D_Station_deeds fun _ _ _ _ _ _ us hl => match us, hl with | [_], _ => rfl),
    b_Station_faults_2 := (FunD.bindsN D_Station_faults fun _ _ _ _ _ _ us hl => match us, hl with | [_, _, _], _ => rfl),
    b_Station_give_1 := (FunD.bindsN D_Station_give fun _ _ _ _ _ _ us hl => match us, hl with | [_, _], _ => rfl),
    b_Station_init_3 := (FunD.bindsN D_Station_init fun _ _ _ _ _ _ us hl => match us, hl with | [_, _, _, _], _ => rfl),
    b_Station_put_1 := (FunD.bindsN D_Station_put fun _ _ _ _ _ _ us hl => match us, hl with | [_, _], _ => rfl),
    b_Station_spoil_1 := (FunD.bindsN D_Station_spoil fun _ _ _ _ _ _ us hl => match us, hl with | [_, _], _ => rfl),
    b_Station_state_1 := (FunD.bindsN D_Station_state fun _ _ _ _ _ _ us hl => match us, hl with | [_, _], _ => rfl),
    b_Station_turnout_0 := (FunD.bindsN D_Station_turnout fun _ _ _ _ _ _ us hl => match us, hl with | [_], _ => rfl),
    b__law_dice_1 := (FunD.bindsN D__law_dice fun _ _ _ _ _ _ us hl => match us, hl with | [_], _ => rfl),
    b__law_looks_1 := (FunD.bindsN D__law_looks fun _ _ _ _ _ _ us hl => match us, hl with | [_], _ => rfl),
    b__law_plain_0 := (FunD.bindsN D__law_plain fun _ _ _ _ _ _ us hl => match us, hl with | [], _ => rfl),
    b__law_roll_2 := (FunD.bindsN D__law_roll fun _ _ _ _ _ _ us hl => match us, hl with | [_, _], _ => rfl),
    b__law_rounds_2 := (FunD.bindsN D__law_rounds fun _ _ _ _ _ _ us hl => match us, hl with | [_, _], _ => rfl),
    b_checked_3 := (FunD.bindsN D_checked fun _ _ _ _ _ _ us hl => match us, hl with | [_, _, _], _ => rfl),
    b_drawn_3 := (FunD.bindsN D_drawn fun _ _ _ _ _ _ us hl => match us, hl with | [_, _, _], _ => rfl),
    b_enough_checked_4 := (FunD.bindsN D_enough_checked fun _ _ _ _ _ _ us hl => match us, hl with | [_, _, _, _], _ => rfl),
    b_margin_of_2 := (FunD.bindsN D_margin_of fun _ _ _ _ _ _ us hl => match us, hl with | [_, _], _ => rfl),
    c_MOST_ROWS := (Info.const c X G (by decide +kernel)),
    e_StationError := (Info.err c X G rfl),
    f_0 := ((by decide +kernel : 0 < inf.fields.length)),
    f_1 := ((by decide +kernel : 1 < inf.fields.length)),
    f_2 := ((by decide +kernel : 2 < inf.fields.length)),
    f_3 := ((by decide +kernel : 3 < inf.fields.length)),
    f_4 := ((by decide +kernel : 4 < inf.fields.length)),
    hm__law_looks := (Info.tab_mem (i := inf) (p := (("_law_looks", none), (("_law_looks.<locals>." : Str) ++ "<lambda>"))) (by decide +kernel)),
    hm__law_plain := (Info.tab_mem (i := inf) (p := (("_law_plain", none), (("_law_plain.<locals>." : Str) ++ "<lambda>"))) (by decide +kernel)),
    hm_checked := (Info.tab_mem (i := inf) (p := (("checked", none), (("checked.<locals>." : Str) ++ "<genexpr>"))) (by decide +kernel)),
    hm_law := (Info.tab_mem (i := inf) (p := (("law", none), (("law.<locals>." : Str) ++ "<lambda>"))) (by decide +kernel)),
    hu__law_looks := (Info.tab_one (i := inf) ap (p := (("_law_looks", none), (("_law_looks.<locals>." : Str) ++ "<lambda>"))) (by decide +kernel)),
    hu__law_plain := (Info.tab_one (i := inf) ap (p := (("_law_plain", none), (("_law_plain.<locals>." : Str) ++ "<lambda>"))) (by decide +kernel)),
    hu_checked := (Info.tab_one (i := inf) ap (p := (("checked", none), (("checked.<locals>." : Str) ++ "<genexpr>"))) (by decide +kernel)),
    hu_law := (Info.tab_one (i := inf) ap (p := (("law", none), (("law.<locals>." : Str) ++ "<lambda>"))) (by decide +kernel)),
    k__law_dice := (Info.keepF c (by decide +kernel)),
    k__law_looks := (Info.keepF c (by decide +kernel)),
    k__law_plain := (Info.keepF c (by decide +kernel)),
    k__law_roll := (Info.keepF c (by decide +kernel)),
    k__law_rounds := (Info.keepF c (by decide +kernel)),
    k_checked := (Info.keepF c (by decide +kernel)),
    k_drawn := (Info.keepF c (by decide +kernel)),
    k_enough_checked := (Info.keepF c (by decide +kernel)),
    k_margin_of := (Info.keepF c (by decide +kernel)),
    kc := (Info.kc c (by decide +kernel)),
    m_Station := (Info.gloC c X G (by decide +kernel)),
    m__law_dice := (Info.gloF c X G (by decide +kernel)),
    m__law_looks := (Info.gloF c X G (by decide +kernel)),
    m__law_plain := (Info.gloF c X G (by decide +kernel)),
    m__law_roll := (Info.gloF c X G (by decide +kernel)),
    m__law_rounds := (Info.gloF c X G (by decide +kernel)),
    m_checked := (Info.gloF c X G (by decide +kernel)),
    m_drawn := (Info.gloF c X G (by decide +kernel)),
    m_enough_checked := (Info.gloF c X G (by decide +kernel)),
    m_margin_of := (Info.gloF c X G (by decide +kernel)),
    n_abs := (Info.free c X G (by decide +kernel)),
    n_any := (Info.free c X G (by decide +kernel)),
    n_int := (Info.free c X G (by decide +kernel)),
    n_len := (Info.free c X G (by decide +kernel)),
    n_list := (Info.free c X G (by decide +kernel)),
    n_max := (Info.free c X G (by decide +kernel)),
    n_range := (Info.free c X G (by decide +kernel)),
    n_sorted := (Info.free c X G (by decide +kernel)),
    n_str := (Info.free c X G (by decide +kernel)),
    n_tuple := (Info.free c X G (by decide +kernel)),
    q_blanks_left := ((by decide +kernel : ∀ i, i < inf.fields.length → inf.fields.getD i "" ≠ "blanks_left")),
    q_close := ((by decide +kernel : ∀ i, i < inf.fields.length → inf.fields.getD i "" ≠ "close")),
    q_deeds := ((by decide +kernel : ∀ i, i < inf.fields.length → inf.fields.getD i "" ≠ "deeds")),
    q_faults := ((by decide +kernel : ∀ i, i < inf.fields.length → inf.fields.getD i "" ≠ "faults")),
    q_give := ((by decide +kernel : ∀ i, i < inf.fields.length → inf.fields.getD i "" ≠ "give")),
    q_put := ((by decide +kernel : ∀ i, i < inf.fields.length → inf.fields.getD i "" ≠ "put")),
    q_spoil := ((by decide +kernel : ∀ i, i < inf.fields.length → inf.fields.getD i "" ≠ "spoil")),
    q_state := ((by decide +kernel : ∀ i, i < inf.fields.length → inf.fields.getD i "" ≠ "state")),
    q_turnout := ((by decide +kernel : ∀ i, i < inf.fields.length → inf.fields.getD i "" ≠ "turnout")),
    tb__law_looks := (TB (He.cT K ("_law_looks", none)) (List.mem_map.mpr ⟨("_law_looks", none), by decide +kernel, rfl⟩)),
    tb__law_plain := (TB (He.cT K ("_law_plain", none)) (List.mem_map.mpr ⟨("_law_plain", none), by decide +kernel, rfl⟩)),
    tb_checked := (TB (He.cT K ("checked", none)) (List.mem_map.mpr ⟨("checked", none), by decide +kernel, rfl⟩)),
    tb_law := (TB (He.cT K ("law", none)) (List.mem_map.mpr ⟨("law", none), by decide +kernel, rfl⟩)),
    told := (TOLD),
    x_0 := (rfl),
    x_1 := (rfl),
    x_2 := (rfl),
    x_3 := (rfl),
    x_4 := (rfl) }, trivial⟩
theorem law_at {w : World} {K : PySem.W.Frag} {h : Heap} {mg : Str → Option Value} {f : Addr} (X : K.In h) (G : h.Ns mainGlobals mg) (hfa : mg ("law" : Str) = some (.ref f)) (c : He.SaysX inf.fa fn [] tf inf.apart w h K) (pl : Plain) : LamX.LawAtS PySem.Challenge.rw_pollstack_k07_stations_that_come_out_eve w K (L2.CX (PySem.Challenge.rw_pollstack_k07_stations_that_come_out_eve).prog w) 96 63 "script" mg f h := by
  have e := hfa.symm.trans (Info.gloF c.t.d X G (C := "law") (by decide +kernel))
  cases e
  obtain ⟨fd, D⟩ := c.t.d.defs (d := D_law) (by simp [fn])
  refine ⟨fd, tf.map (He.cT K), spLaw (inf.gx K) K (callN tbl 12 20), fun p hp => ?_, fun p hp => ?_, fun p hp => ?_, fun s u => FunD.bindsA (ps := ["script"]) D (fun _ _ _ _ _ _ us hl => match us, hl with | [_], _ => rfl) s [u] rfl, fun H a ns hl _ hT hS => law_sp rfl (pl ns hl) hT hS, fun base _ _ TB => ?_⟩
  · obtain ⟨q, hq, e⟩ := List.mem_map.mp hp
    subst e; exact c.empty q hq
  · obtain ⟨q, hq, e⟩ := List.mem_map.mp hp
    subst e; exact c.out q hq
  · obtain ⟨q, hq, e⟩ := List.mem_map.mp hp
    subst e; exact PySem.W.codeHd_of_K X (c.hd q hq)
  · obtain ⟨T, _⟩ := tx_of (base := base) X G c.t.d c.more TB
    have e := FunD.uniq D T.D_law
    rw [e]
    exact f_law T (lv T 11)
end K07

set_option maxRecDepth 10000
/-! P07: what law's code answers, the program left behind. -/
namespace K07
open Pk PySem
def DD (x : Int × Int × Int) : Ob := .lst 0 [.int x.1, .int x.2.1, .int x.2.2]
theorem ok_roll (n : Nat) (x : Int × Int × Int) (t : Hv) (m : Int) (h1 : 1 ≤ m) (h2 : m ≤ 100000000) :
    ∃ r x', 0 ≤ r ∧ r < m ∧ callN tbl (n + 1) 15 [.ref 0, .int m] (DD x :: t) = .ok (.int r) (DD x' :: t) := by
  obtain ⟨a, b, c⟩ := x
  rw [call_s n 15 _ _ (d__law_roll (callN tbl n)) rfl, runD_ap _ _ _ rfl]
  have e0 : m ≠ 0 := by omega
  have s0 : m.natAbs < 1073741824 := by omega
  have nb : ¬ 100000000 < m := by omega
  have hL (xs : List Val) (k : Int) : opIdx (Ob.lst 0 xs :: t) (.ref 0) (.int k) = atI xs k := rfl
  have hS (xs : List Val) (k : Int) (v : Val) (p : 0 ≤ k) (q : k < xs.length) : setO (Ob.lst 0 xs :: t) 0 (.int k) v = some (Ob.lst 0 (xs.set k.toNat v) :: t) := by
    simp [setO, contOf, setC, p, q, Cont.ob]
  by_cases q : c = 2 ∨ (c = 1 ∧ 0 < a)
  · refine ⟨a.fmod m, (a.fdiv m, b, c), Int.fmod_nonneg_of_pos _ (by omega), Int.fmod_lt_of_pos _ (by omega), ?_⟩
    rcases q with q | ⟨q, q2⟩
    · subst q
      simp [d__law_roll, DD, hL, hS, atI, e0, s0]
    · subst q
      simp [d__law_roll, DD, hL, hS, atI, e0, s0, q2]
  · have q1 : c ≠ 2 := fun z => q (.inl z)
    have q2 : ¬ (c = 1 ∧ 0 < a) := fun z => q (.inr z)
    refine ⟨(((a * 48271 + b * 69621 + 11).fmod 2147483647).fdiv 7).fmod m, ((a * 48271 + b * 69621 + 11).fmod 2147483647, b + 1, 0), Int.fmod_nonneg_of_pos _ (by omega), Int.fmod_lt_of_pos _ (by omega), ?_⟩
    by_cases q3 : c = 1
    · have q4 : ¬ 0 < a := fun z => q2 ⟨q3, z⟩
      subst q3
      simp [d__law_roll, DD, hL, hS, atI, e0, s0, nb, q4, smallZ]
    · simp [d__law_roll, DD, hL, hS, atI, e0, s0, nb, q1, q3, smallZ]
theorem ok_dice (n : Nat) (c : Int) : ∃ x, callN tbl (n + 1) 14 [.int c] [] = .ok (.ref 0) [DD x] := by
  rw [call_s n 14 _ _ (d__law_dice (callN tbl n)) rfl, runD_ap _ _ _ rfl]
  by_cases q : -10 < c ∧ c < 10
  · refine ⟨(if c < 0 then -c else c, 0, 2), ?_⟩
    obtain ⟨q1, q2⟩ := q
    simp [d__law_dice, DD, big, q1, q2]
  · have hp : opBin [] .pow (.int 10) (.int 18) = some (.int 1000000000000000000) := rfl
    refine ⟨(c, 1 + c.fmod 1009, b2z (!decide (c < 10 ^ 18))), ?_⟩
    by_cases q1 : -10 < c
    · have q2 : ¬ c < 10 := fun z => q ⟨q1, z⟩
      simp [d__law_dice, DD, big, q1, q2, hp]
    · simp [d__law_dice, DD, big, q1, hp]

@[simp] theorem compL_nil (tg : Tg) (c : Option C) (e : C) (fr : Fr) (h : Hv) : compL tg c e fr [] h = .ok [] h := rfl
theorem compL_cons (tg : Tg) (c : Option C) (e : C) (fr : Fr) (x : Val) (xs : List Val) (h : Hv) : compL tg c e fr (x :: xs) h = match tg.bind x fr with
    | none => .bad
    | some f1 => (tstO c f1 h).bnd fun b h1 => match b with
      | .bl true => (e f1 h1).calm.bnd fun y h2 => (compL tg c e fr xs h2).bnd fun ys h3 => .ok (y :: ys) h3
      | .bl false => compL tg c e fr xs h1
      | _ => .bad := rfl
@[simp] theorem fComp_ap (tg : Tg) (it : CI) (c : Option C) (e : C) (fr : Fr) (h : Hv) : fComp tg it c e fr h = (it fr h).bnd fun p h1 => (compL tg c e (wipeF fr tg.ixs) p.1 (lockO h1 p.2)).calm.bnd fun ys h2 => if ys.length ≤ big then .ok (.l ys) (unlockO h2 p.2) else .bad := rfl
theorem slice1 (v : Val) (r : List Val) : sliceL (v :: r) none (some 1) = [v] := by
  have : min 1 ((r.length : Int) + 1) = 1 := by omega
  simp [sliceL, clampI]
  try omega
theorem slice0 : sliceL ([] : List Val) none (some 1) = [] := rfl
theorem ok_rounds (n : Nat) (ns : List Int) (hn : ns.length ≤ 63) : ∃ x, callN tbl (n + 2) 16 [.lst (ns.map .int), .int 1] [] = .ok (.lst [.ref 0]) [DD x] := by
  rw [call_s (n + 1) 16 _ _ (d__law_rounds (callN tbl (n + 1))) rfl, runD_ap _ _ _ rfl]
  match ns, hn with
  | [], _ =>
    obtain ⟨x, hx⟩ := ok_dice n 0
    exact ⟨x, by simp [d__law_rounds, p1__law_rounds, sScr, slice0, slice1, compL_cons, hx, eqV, opCmp, derefV, Val.data, datas, Val.dep, deps, Val.eqv, eqvs, big]⟩
  | c :: r, hn =>
    obtain ⟨x, hx⟩ := ok_dice n c
    have hl : r.length ≤ 999999 := by simp at hn; omega
    exact ⟨x, by simp [d__law_rounds, p1__law_rounds, sScr, slice0, slice1, compL_cons, hx, eqV, opCmp, derefV, Val.data, datas, Val.dep, deps, Val.eqv, eqvs, big, hl]⟩
end K07

set_option maxRecDepth 10000
namespace K07
open Pk PySem
abbrev Row := Str × Str
def rowV (r : Row) : Val := .tup [.str r.1, .str r.2]
def insS (bl : Int) (op : Bool) : Ob := .ins 0 [(0, .str "hall"), (1, .int bl), (2, .ref 2), (3, .ref 3), (4, .bl op)]
def HS (x : Int × Int × Int) (bl : Int) (vd : List (Val × Val)) (rows : List Row) (op : Bool) : Hv := [DD x, insS bl op, .dct 0 vd, .lst 0 (rows.map rowV)]
def HL (x : Int × Int × Int) (bl : Int) (vd : List (Val × Val)) (rows : List Row) (op : Bool) : Hv := [DD x, insS bl op, .dct 0 vd, .lst 1 (rows.map rowV)]
def last (rows : List Row) (v : Str) : Str := rows.foldl (fun f r => if r.1 = v then r.2 else f) ""
def cnt (rows : List Row) (w : Str) : Nat := (rows.filter fun r => decide (r.2 = w)).length
@[simp] theorem HS1 {x bl vd rows op} : (HS x bl vd rows op)[1]? = some (insS bl op) := rfl
@[simp] theorem HS2 {x bl vd rows op} : (HS x bl vd rows op)[2]? = some (.dct 0 vd) := rfl
@[simp] theorem HS3 {x bl vd rows op} : (HS x bl vd rows op)[3]? = some (.lst 0 (rows.map rowV)) := rfl
@[simp] theorem HL1 {x bl vd rows op} : (HL x bl vd rows op)[1]? = some (insS bl op) := rfl
@[simp] theorem HSlk {x bl vd rows op} : lockO (HS x bl vd rows op) (some 3) = HL x bl vd rows op := rfl
@[simp] theorem HLuk {x bl vd rows op} : unlockO (HL x bl vd rows op) (some 3) = HS x bl vd rows op := rfl
@[simp] theorem fg1 {bl op} : fget [(0, Val.str "hall"), (1, .int bl), (2, .ref 2), (3, .ref 3), (4, .bl op)] 1 = some (.int bl) := rfl
@[simp] theorem fg2 {bl op} : fget [(0, Val.str "hall"), (1, .int bl), (2, .ref 2), (3, .ref 3), (4, .bl op)] 2 = some (.ref 2) := rfl
@[simp] theorem fg3 {bl op} : fget [(0, Val.str "hall"), (1, .int bl), (2, .ref 2), (3, .ref 3), (4, .bl op)] 3 = some (.ref 3) := rfl
@[simp] theorem fg4 {bl op} : fget [(0, Val.str "hall"), (1, .int bl), (2, .ref 2), (3, .ref 3), (4, .bl op)] 4 = some (.bl op) := rfl
theorem ok_close (n : Nat) (x) (bl) (vd) (rows) (op : Bool) : callN tbl (n + 1) 6 [.ref 1] (HS x bl vd rows op) = if op = true then .ok .non (HS x bl vd rows false) else .exc 1 (HS x bl vd rows op) := by
  rw [call_s n 6 _ _ (d_Station_close (callN tbl n)) rfl, runD_ap _ _ _ rfl]
  cases op
  · simp [d_Station_close, insS]
  · simp [d_Station_close, insS, fput]
    rfl
theorem ok_state (n : Nat) (x) (bl) (vd) (rows) (op : Bool) (v : Str) (hk : keyOk vd (.str v) = true) : callN tbl (n + 1) 1 [.ref 1, .str v] (HS x bl vd rows op) = if (dget vd (.str v)).isSome = true then .ok (.str (last rows v)) (HS x bl vd rows op) else .exc 1 (HS x bl vd rows op) := by
  rw [call_s n 1 _ _ (d_Station_state (callN tbl n)) rfl, runD_ap _ _ _ rfl]
  cases q : (dget vd (.str v)).isSome with
  | false => simp [d_Station_state, insS, opCmp, inV, hk, q]
  | true =>
    obtain ⟨f2, h2, e, i⟩ := forL_inv (.t [3, 4]) (b1_Station_state (callN tbl n)) rowV (fun f r => if r.1 = v then r.2 else f) (fun s fr h => h = HL x bl vd rows op ∧ ∃ a b, fr = [.val (.ref 1), .val (.str v), .val (.str s), a, b])
      (fun s r fr h ⟨hh, a, b, hf⟩ => by
        subst hh; subst hf
        refine ⟨_, rfl, [.val (.ref 1), .val (.str v), .val (.str (if r.1 = v then r.2 else s)), .val (.str r.1), .val (.str r.2)], HL x bl vd rows op, ?_, rfl, _, _, rfl⟩
        by_cases q : r.1 = v <;> simp [b1_Station_state, q]) rows "" [.val (.ref 1), .val (.str v), .val (.str ""), .no, .no] (HL x bl vd rows op) ⟨rfl, _, _, rfl⟩
    obtain ⟨rfl, a, b, rfl⟩ := i
    simp [d_Station_state, insS, opCmp, inV, hk, q, e, last]
theorem ok_blanks (n : Nat) (x) (bl) (vd) (rows) (op : Bool) (hl : rows.length ≤ 1000) : callN tbl (n + 1) 2 [.ref 1] (HS x bl vd rows op) = .ok (.int (bl - cnt rows "given")) (HS x bl vd rows op) := by
  rw [call_s n 2 _ _ (d_Station_blanks_left (callN tbl n)) rfl, runD_ap _ _ _ rfl]
  have e := compL_pure (.t [1, 2]) (some (cCmp .eq (cV 2) (cK (.str "given")))) (cK (.int 1)) [.val (.ref 1), .no, .no] (HL x bl vd rows op) rowV (fun r => decide (r.2 = "given")) (fun _ => .int 1) rows
    (fun r _ => ⟨_, rfl, by simp, fun _ => rfl⟩)
  have l := List.length_filter_le (fun r : Row => decide (r.2 = "given")) rows
  have l2 : (rows.filter fun r : Row => decide (r.2 = "given")).length ≤ big := by unfold big; omega
  simp [d_Station_blanks_left, p1_Station_blanks_left, insS, e, l2, cnt]
theorem ok_deeds (n : Nat) (x) (bl) (vd) (rows) (op : Bool) (hl : rows.length ≤ 1000) : callN tbl (n + 1) 7 [.ref 1] (HS x bl vd rows op) = .ok (.tup [.int (cnt rows "given"), .int (cnt rows "spoiled"), .int (cnt rows "put"), .int (cnt rows "given" - cnt rows "spoiled" - cnt rows "put")]) (HS x bl vd rows op) := by
  rw [call_s n 7 _ _ (d_Station_deeds (callN tbl n)) rfl, runD_ap _ _ _ rfl]
  have e (a w) := compL_pure (.t [2, 3]) (some (cCmp .eq (cV 3) (cV 4))) (cK (.int 1)) [.val (.ref 1), a, .no, .no, .val (.str w)] (HL x bl vd rows op) rowV (fun r => decide (r.2 = w)) (fun _ => .int 1) rows
    (fun r _ => ⟨_, rfl, by simp, fun _ => rfl⟩)
  have l2 (w : Str) : (rows.filter fun r : Row => decide (r.2 = w)).length ≤ 1000000 := by
    have l := List.length_filter_le (fun r : Row => decide (r.2 = w)) rows
    omega
  simp [d_Station_deeds, p1_Station_deeds, p2_Station_deeds, insS, e, l2, cnt, compL_cons, atI, big]
theorem getV {xs : List Sl} {i : Nat} {v : Val} (e : xs[i]? = some (.val v)) (h : Hv) : cV i xs h = .ok v h := by unfold cV; rw [e]
theorem mem2 (h : Hv) (v a b : Str) : opCmp h .inn (.str v) (.tup [.str a, .str b]) = some (decide (v = a ∨ v = b)) := by
  have sq (c : Str) : (c == v) = decide (v = c) := by
    by_cases q : v = c
    · subst q; simp
    · have : ¬ c = v := fun z => q z.symm
      simp [q, this]
  simp [opCmp, inV, memV, anyE, Val.eqv, Val.data, datas, Val.dep, deps, sq]
theorem put1 {x bl vd rows op} (v : Str) (w : Str) : (HS x bl vd rows op).set 3 (.lst 0 (rows.map rowV ++ [.tup [.str v, .str w]])) = HS x bl vd (rows ++ [(v, w)]) op := by
  simp [HS, rowV]
theorem ok_give (n : Nat) (x) (bl) (vd) (rows) (op : Bool) (v : Str) (hk : keyOk vd (.str v) = true) (hl : rows.length ≤ 1000) : callN tbl (n + 2) 3 [.ref 1, .str v] (HS x bl vd rows op) =
    if (dget vd (.str v)).isSome = true ∧ last rows v ≠ "given" ∧ last rows v ≠ "put" ∧ 1 ≤ bl - cnt rows "given" ∧ op = true then .ok .non (HS x bl vd (rows ++ [((v, "given") : Row)]) op) else .exc 1 (HS x bl vd rows op) := by
  rw [call_s (n + 1) 3 _ _ (d_Station_give (callN tbl (n + 1))) rfl, runD_ap _ _ _ rfl]
  have e1 := ok_state n x bl vd rows op v hk
  have e2 := ok_blanks n x bl vd rows op hl
  have l2 : rows.length ≤ 1000000 := by omega
  cases q : (dget vd (.str v)).isSome with
  | false =>
    rw [q] at e1
    simp [d_Station_give, insS, big, e1]
  | true =>
    rw [q] at e1
    by_cases q1 : last rows v = "given"
    · simp [d_Station_give, insS, big, e1, mem2, q1]
    by_cases q2 : last rows v = "put"
    · simp [d_Station_give, insS, big, e1, mem2, q2]
    by_cases q3 : bl - cnt rows "given" < 1
    · have q4 : ¬ 1 ≤ bl - cnt rows "given" := by omega
      simp [d_Station_give, insS, big, e1, e2, mem2, q1, q2, q3, q4]
    have q4 : 1 ≤ bl - cnt rows "given" := by omega
    cases op
    · simp [d_Station_give, insS, big, e1, e2, mem2, q1, q2, q3, q4]
    · simp [d_Station_give, insS, big, e1, e2, mem2, q1, q2, q3, q4, l2, put1]
theorem ok_spoil (n : Nat) (x) (bl) (vd) (rows) (op : Bool) (v : Str) (hk : keyOk vd (.str v) = true) (hl : rows.length ≤ 1000) : callN tbl (n + 2) 4 [.ref 1, .str v] (HS x bl vd rows op) =
    if (dget vd (.str v)).isSome = true ∧ last rows v = "given" then .ok .non (HS x bl vd (rows ++ [((v, "spoiled") : Row)]) op) else .exc 1 (HS x bl vd rows op) := by
  rw [call_s (n + 1) 4 _ _ (d_Station_spoil (callN tbl (n + 1))) rfl, runD_ap _ _ _ rfl]
  have e1 := ok_state n x bl vd rows op v hk
  have l2 : rows.length ≤ 1000000 := by omega
  cases q : (dget vd (.str v)).isSome with
  | false =>
    rw [q] at e1
    simp [d_Station_spoil, insS, big, e1]
  | true =>
    rw [q] at e1
    by_cases q1 : last rows v = "given"
    · simp [d_Station_spoil, insS, big, e1, q1, l2, put1]
    · simp [d_Station_spoil, insS, big, e1, q1]
theorem ok_put (n : Nat) (x) (bl) (vd) (rows) (op : Bool) (v : Str) (hk : keyOk vd (.str v) = true) (hl : rows.length ≤ 1000) : callN tbl (n + 2) 5 [.ref 1, .str v] (HS x bl vd rows op) =
    if (dget vd (.str v)).isSome = true ∧ last rows v = "given" ∧ op = true then .ok .non (HS x bl vd (rows ++ [((v, "put") : Row)]) op) else .exc 1 (HS x bl vd rows op) := by
  rw [call_s (n + 1) 5 _ _ (d_Station_put (callN tbl (n + 1))) rfl, runD_ap _ _ _ rfl]
  have e1 := ok_state n x bl vd rows op v hk
  have l2 : rows.length ≤ 1000000 := by omega
  cases q : (dget vd (.str v)).isSome with
  | false =>
    rw [q] at e1
    simp [d_Station_put, insS, big, e1]
  | true =>
    rw [q] at e1
    by_cases q1 : last rows v = "given"
    · cases op
      · simp [d_Station_put, insS, big, e1, q1]
      · simp [d_Station_put, insS, big, e1, q1, l2, put1]
    · simp [d_Station_put, insS, big, e1, q1]
end K07

set_option maxRecDepth 10000
set_option maxHeartbeats 4000000
namespace K07
open Pk PySem
def fl1 (w : Str) (i : Int) : List Val := if i = 0 then [] else [.str (w ++ strZ i)]
theorem three {a b : Int} (h : a - b = -1 ∨ a - b = 0 ∨ a - b = 1) : a = b - 1 ∨ a = b ∨ a = b + 1 := by omega
theorem ok_faults (n : Nat) (x) (bl) (vd) (rows) (op : Bool) (i j : Int) (hi : i = -1 ∨ i = 0 ∨ i = 1) (hj : j = -1 ∨ j = 0 ∨ j = 1) (hl : rows.length ≤ 1000) :
    callN tbl (n + 2) 8 [.ref 1, .int (cnt rows "put" + i), .int (bl - cnt rows "given" + j)] (HS x bl vd rows op) =
    .ok (.tup (fl1 "ballots " i ++ fl1 "blanks " j ++ if op = true then [.str "open"] else [])) (HS x bl vd rows op) := by
  rw [call_s (n + 1) 8 _ _ (d_Station_faults (callN tbl (n + 1))) rfl, runD_ap _ _ _ rfl]
  have e1 := ok_deeds n x bl vd rows op hl
  have e2 := ok_blanks n x bl vd rows op hl
  have a1 (p : Int) : p + i - p = i := by omega
  have a2 (p : Int) : p + j - p = j := by omega
  have b1 (p : Int) : (p + i = p) = (i = 0) := by apply propext; omega
  have b2 (p : Int) : (p + j = p) = (j = 0) := by apply propext; omega
  have g1 : ∀ w : Str, (⟨#[]⟩ : Str) ++ w = w := fun w => show Str.mk (#[] ++ w.cps) = w by rw [Array.empty_append]
  have l1 : ("ballots " : Str).length ≤ 1000000 := by decide
  have l2 : ("blanks " : Str).length ≤ 1000000 := by decide
  have l3 : Nat.log2 1 < 1920 := by decide
  have l4 : (("ballots " : Str) ++ strZ 1).length ≤ 1000000 := by decide +kernel
  have l5 : (("ballots " : Str) ++ strZ (-1)).length ≤ 1000000 := by decide +kernel
  have l6 : (("blanks " : Str) ++ strZ 1).length ≤ 1000000 := by decide +kernel
  have l7 : (("blanks " : Str) ++ strZ (-1)).length ≤ 1000000 := by decide +kernel
  rcases hi with hi | hi | hi <;> rcases hj with hj | hj | hj <;> subst hi <;> subst hj <;> cases op <;> 
  simp [d_Station_faults, insS, big, e1, e2, atI, a1, a2, b1, b2, cFmt, fmtL, cFv, isL, fl1, g1, l1, l2, l3, l4, l5, l6, l7]
def voters (k : Nat) : List Str := match k with
  | 0 => ["v0"]
  | 1 => ["v0", "v1"]
  | 2 => ["v0", "v1", "v2"]
  | 3 => ["v0", "v1", "v2", "v3"]
  | _ => ["v0", "v1", "v2", "v3", "v4"]
def vdOf (k : Nat) : List (Val × Val) := (voters k).map fun v => (.str v, .bl true)
theorem small5 {n : Nat} (h : n ≤ 5) : (n : Int).natAbs < 1073741824 := by
  rw [Int.natAbs_natCast]
  exact Nat.lt_of_le_of_lt h (by decide)
theorem ok_turnout (n : Nat) (x) (bl) (k : Nat) (rows) (op : Bool) (hl : rows.length ≤ 1000) :
    callN tbl (n + 2) 9 [.ref 1] (HS x bl (vdOf k) rows op) = .ok (.int (((cnt rows "put" : Int) * 10000).fdiv (voters k).length)) (HS x bl (vdOf k) rows op) := by
  rw [call_s (n + 1) 9 _ _ (d_Station_turnout (callN tbl (n + 1))) rfl, runD_ap _ _ _ rfl]
  have e1 := ok_deeds n x bl (vdOf k) rows op hl
  have lk : 0 < (voters k).length ∧ (voters k).length ≤ 5 := by unfold voters; split <;> simp
  have a : ((vdOf k).all fun p => p.1.leafK) = true := by simp [vdOf, Val.leafK]
  have b : ¬ (vdOf k).length = 0 := by simp only [vdOf, List.length_map]; omega
  have c : lenV (HS x bl (vdOf k) rows op) (.ref 2) = some (voters k).length := by simp [lenV, vdOf]
  have d1 : ¬ (((voters k).length : Int) = 0) := by omega
  have d2 := small5 lk.2
  have sm : smallZ 10000 = true := by decide
  have e : opCmp (HS x bl (vdOf k) rows op) .dne (.ref 2) (.dct []) = some true := by
    simp only [opCmp, eqD, dctOf_ref, HS2, dctOf_dct, a]
    simp [b]
  simp -implicitDefEqProofs [d_Station_turnout, insS, e, c, e1, atI, sm, -Int.natAbs_natCast, -Int.natCast_eq_zero, -List.length_eq_zero_iff]
  rw [if_pos ⟨d1, d2⟩]
  rfl
end K07

set_option maxRecDepth 10000
set_option maxHeartbeats 4000000
namespace K07
open Pk PySem
theorem compD_nil (tg : Tg) (c : Option C) (k e : C) (fr : Fr) (acc : List (Val × Val)) (h : Hv) : compD tg c k e fr [] acc h = .ok acc h := rfl
theorem compD_cons (tg : Tg) (c : Option C) (k e : C) (fr : Fr) (x : Val) (xs : List Val) (acc : List (Val × Val)) (h : Hv) : compD tg c k e fr (x :: xs) acc h = match tg.bind x fr with
    | none => .bad
    | some f1 => (tstO c f1 h).bnd fun b h1 => match b with
      | .bl true => (k f1 h1).calm.bnd fun y h2 => (e f1 h2).calm.bnd fun z h3 => if keyOk acc y && y.leafK && decide (acc.length ≤ big) then compD tg c k e fr xs (dput acc y z) h3 else .bad
      | .bl false => compD tg c k e fr xs acc h1
      | _ => .bad := rfl
@[simp] theorem fDComp_ap (tg : Tg) (it : CI) (c : Option C) (k e : C) (fr : Fr) (h : Hv) : fDComp tg it c k e fr h = (it fr h).bnd fun p h1 => (compD tg c k e (wipeF fr tg.ixs) p.1 [] (lockO h1 p.2)).calm.bnd fun ys h2 => .ok (.d ys) (unlockO h2 p.2) := rfl
theorem comp_vd (fr : Fr) (h : Hv) (k : Nat) (hf : 4 < fr.length) : compD (.n 4) none (cV 4) (cK (.bl true)) fr ((voters k).map .str) [] h = .ok (vdOf k) h := by
  have e (v : Val) : cV 4 (fr.set 4 (.val v)) h = .ok v h := getV (List.getElem?_set_self hf) h
  have n01 : (("v0" : Str) = "v1") = False := eq_false (by decide)
  have n02 : (("v0" : Str) = "v2") = False := eq_false (by decide)
  have n03 : (("v0" : Str) = "v3") = False := eq_false (by decide)
  have n04 : (("v0" : Str) = "v4") = False := eq_false (by decide)
  have n12 : (("v1" : Str) = "v2") = False := eq_false (by decide)
  have n13 : (("v1" : Str) = "v3") = False := eq_false (by decide)
  have n14 : (("v1" : Str) = "v4") = False := eq_false (by decide)
  have n23 : (("v2" : Str) = "v3") = False := eq_false (by decide)
  have n24 : (("v2" : Str) = "v4") = False := eq_false (by decide)
  have n34 : (("v3" : Str) = "v4") = False := eq_false (by decide)
  have g (s : Sl) : (fr.set 4 s)[4]? = some s := List.getElem?_set_self hf
  have l (m : Nat) (q : m ≤ 100) : m ≤ big := by unfold big; omega
  unfold vdOf voters
  split <;> simp -dsimp -implicitDefEqProofs [compD_cons, compD_nil, g, n01, n02, n03, n04, n12, n13, n14, n23, n24, n34, keyOk, Val.leafK, dput, Val.beq, l]
theorem ok_init (n : Nat) (x) (bl : Int) (k : Nat) (h1 : 0 ≤ bl) (h2 : bl ≤ 8) : callN tbl (n + 1) 0 [.ref 1, .str "hall", .int bl, .lst ((voters k).map .str)] [DD x, .ins 0 []] = .ok .non (HS x bl (vdOf k) [] true) := by
  rw [call_s n 0 _ _ (d_Station_init (callN tbl n)) rfl, runD_ap _ _ _ rfl]
  have e1 : ¬ bl < 0 := by omega
  have e2 : ¬ 2000 < bl := by omega
  have e3 : (("hall" : Str) = "") = False := eq_false (by decide)
  simp -implicitDefEqProofs [d_Station_init, p1_Station_init, e1, e2, e3, comp_vd, big, fput]
  rfl
end K07

set_option maxRecDepth 10000
set_option maxHeartbeats 4000000
namespace K07
open Pk PySem
/-- a while by the number of its turns -/
theorem while_run (c : C) (b : CS) (h : Hv) (test : Nat → Bool) (Inv : Nat → Fr → Prop) (hc : ∀ k fr, Inv k fr → c fr h = .ok (.bl (test k)) h)
    (hb : ∀ k fr, Inv k fr → test k = true → ∃ fr', b fr h = .ok (.nx fr') h ∧ Inv (k + 1) fr') :
    ∀ (d k : Nat) (fr : Fr) (fuel : Nat), Inv k fr → test (k + d) = false → d < fuel →
      ∃ k' fr', k ≤ k' ∧ k' ≤ k + d ∧ test k' = false ∧ (∀ i, k ≤ i → i < k' → test i = true) ∧ Inv k' fr' ∧ sWhile c b fuel fr h = .ok (.nx fr') h
  | d, k, fr, 0, _, _, hf => absurd hf (Nat.not_lt_zero _)
  | d, k, fr, fuel + 1, hi, ht, hf => by
    have e : sWhile c b (fuel + 1) fr h = (c fr h).bnd fun x h1 => match x with
      | .bl true => (b fr h1).bnd fun o h2 => match o with
        | .nx f2 => sWhile c b fuel f2 h2
        | .bk f2 => .ok (.nx f2) h2
        | .rt v => .ok (.rt v) h2
      | .bl false => .ok (.nx fr) h1
      | _ => .bad := rfl
    rw [e, hc k fr hi]
    cases q : test k with
    | false => exact ⟨k, fr, Nat.le_refl _, Nat.le_add_right _ _, q, fun i h1 h2 => absurd h2 (Nat.not_lt.mpr h1), hi, rfl⟩
    | true =>
      obtain ⟨fr', e2, hi2⟩ := hb k fr hi q
      match d with
      | 0 => rw [Nat.add_zero] at ht; rw [ht] at q; cases q
      | d + 1 =>
        obtain ⟨k', fr2, a1, a2, a3, a4, a5, a6⟩ := while_run c b h test Inv hc hb d (k + 1) fr' fuel hi2 (by rw [Nat.add_assoc, Nat.add_comm 1]; exact ht) (by omega)
        refine ⟨k', fr2, by omega, by omega, a3, fun i h1 h2 => ?_, a5, ?_⟩
        · by_cases z : i = k
          · rw [z]; exact q
          · exact a4 i (by omega) h2
        · rw [bnd_ok]
          show (b fr h).bind _ = _
          rw [e2]
          exact a6
/-- one draw -/
def stp (size : Nat) (s : Nat × List Nat) : Nat × List Nat := (Lcg.nxt s.1, if Lcg.nxt s.1 / 65536 % size ∈ s.2 then s.2 else s.2 ++ [Lcg.nxt s.1 / 65536 % size])
def dr (size : Nat) (seed : Nat) : Nat → Nat × List Nat
  | 0 => (seed, [])
  | k + 1 => stp size (dr size seed k)
theorem iter_end (k x : Nat) : Lcg.iter (k + 1) x = Lcg.nxt (Lcg.iter k x) := by
  rw [Lcg.iter_add, Lcg.iter_one]
theorem dr_fst (size seed : Nat) : ∀ k, (dr size seed k).1 = Lcg.iter k seed
  | 0 => (Lcg.iter_zero seed).symm
  | k + 1 => by
    rw [iter_end, ← dr_fst size seed k]
    rfl
theorem dr_ok (size seed : Nat) (hs : 0 < size) : ∀ k, (dr size seed k).2.Nodup ∧ ∀ r ∈ (dr size seed k).2, r < size
  | 0 => ⟨List.nodup_nil, fun r h => by cases h⟩
  | k + 1 => by
    obtain ⟨h1, h2⟩ := dr_ok size seed hs k
    have e : (dr size seed (k + 1)).2 = if Lcg.nxt (dr size seed k).1 / 65536 % size ∈ (dr size seed k).2 then (dr size seed k).2 else (dr size seed k).2 ++ [Lcg.nxt (dr size seed k).1 / 65536 % size] := rfl
    rw [e]
    have hm := Nat.mod_lt (Lcg.nxt (dr size seed k).1 / 65536) hs
    generalize Lcg.nxt (dr size seed k).1 / 65536 % size = r at *
    by_cases q : r ∈ (dr size seed k).2
    · rw [if_pos q]; exact ⟨h1, h2⟩
    · rw [if_neg q]
      refine ⟨List.nodup_append.mpr ⟨h1, List.nodup_cons.mpr ⟨by simp, List.nodup_nil⟩, fun a ha b hb => ?_⟩, fun x hx => ?_⟩
      · have : b = r := by simpa using hb
        subst this
        exact fun z => q (z ▸ ha)
      · rcases List.mem_append.mp hx with z | z
        · exact h2 x z
        · have : x = r := by simpa using z
          subst this; exact hm
theorem dr_len (size seed : Nat) (hs : 0 < size) (k : Nat) : (dr size seed k).2.length ≤ size := by
  obtain ⟨h1, h2⟩ := dr_ok size seed hs k
  have := List.Nodup.length_le_of_subset h1 (l₂ := List.range size) fun r hr => List.mem_range.mpr (h2 r hr)
  rwa [List.length_range] at this
theorem dr_mono (size seed : Nat) (k : Nat) : ∀ d, (dr size seed k).2 ⊆ (dr size seed (k + d)).2
  | 0 => fun _ h => h
  | d + 1 => fun r h => by
    have := dr_mono size seed k d h
    show r ∈ (stp size (dr size seed (k + d))).2
    unfold stp
    dsimp only
    by_cases q : Lcg.nxt (dr size seed (k + d)).1 / 65536 % size ∈ (dr size seed (k + d)).2
    · rw [if_pos q]; exact this
    · rw [if_neg q]; exact List.mem_append_left _ this
theorem dr_in (size seed : Nat) (k : Nat) : Lcg.iter (k + 1) seed / 65536 % size ∈ (dr size seed (k + 1)).2 := by
  rw [iter_end, ← dr_fst size seed k]
  show _ ∈ (stp size (dr size seed k)).2
  unfold stp
  dsimp only
  by_cases q : Lcg.nxt (dr size seed k).1 / 65536 % size ∈ (dr size seed k).2
  · rw [if_pos q]; exact q
  · rw [if_neg q]; exact List.mem_append_right _ (List.mem_singleton.mpr rfl)
theorem dr_all (size seed : Nat) (h1 : 0 < size) (h2 : size ≤ 12) : (dr size seed 99840).2.length = size := by
  refine Nat.le_antisymm (dr_len size seed h1 _) ?_
  have : List.range size ⊆ (dr size seed 99840).2 := fun ρ hρ => by
    have hρ := List.mem_range.mp hρ
    obtain ⟨j, hj, e⟩ := Lcg.cover Lcg.ok_all (x := Lcg.nxt seed) (Lcg.nxt_lt seed) (s := size - 1) (ρ := ρ) (by omega) (by omega)
    have e1 : Lcg.iter j (Lcg.nxt seed) = Lcg.iter (j + 1) seed := by
      rw [Nat.add_comm, Lcg.iter_add, Lcg.iter_one]
    rw [e1, show size - 1 + 1 = size by omega] at e
    have m := dr_in size seed j
    rw [e] at m
    have e2 : 99840 = j + 1 + (99839 - j) := by omega
    rw [e2]
    exact dr_mono size seed (j + 1) (99839 - j) m
  have := List.Nodup.length_le_of_subset List.nodup_range this
  rwa [List.length_range] at this
end K07

set_option maxRecDepth 10000
set_option maxHeartbeats 4000000
namespace K07
open Pk PySem
theorem datas_map {α : Type} (f : α → Val) (hf : ∀ x, (f x).data = true) : ∀ xs : List α, datas (xs.map f) = true
  | [] => by rw [List.map_nil]; unfold datas; rfl
  | x :: xs => by rw [List.map_cons]; unfold datas; rw [hf, datas_map f hf xs]; rfl
theorem deps_map {α : Type} (f : α → Val) (n : Nat) (hf : ∀ x, (f x).dep ≤ n) : ∀ xs : List α, deps (xs.map f) ≤ n
  | [] => by rw [List.map_nil]; unfold deps; exact Nat.zero_le _
  | x :: xs => by rw [List.map_cons]; unfold deps; exact Nat.max_le.mpr ⟨hf x, deps_map f n hf xs⟩
theorem anyE_map {α : Type} (f : α → Val) (v : Val) : ∀ xs : List α, anyE v (xs.map f) = xs.any fun x => (f x).eqv v
  | [] => rfl
  | x :: xs => by rw [List.map_cons, List.any_cons]; unfold anyE; rw [anyE_map f v xs]
def intL (L : List Nat) : List Val := L.map fun (n : Nat) => Val.int n
theorem mem_ints (h : Hv) (r : Nat) (L : List Nat) : opCmp h .notin (.int r) (.lst (intL L)) = some (!decide (r ∈ L)) := by
  have a : datas (intL L) = true := datas_map _ (fun n => by simp [Val.data]) L
  have b : deps (intL L) ≤ 40 := Nat.le_trans (deps_map _ 0 (fun n => by simp [Val.dep]) L) (Nat.zero_le _)
  have c : anyE (.int r) (intL L) = decide (r ∈ L) := by
    unfold intL
    rw [anyE_map]
    by_cases q : r ∈ L
    · simp [q, Val.eqv]
      exact ⟨r, q, rfl⟩
    · simp [q, Val.eqv]
      intro x hx
      have : ¬ x = r := fun z => q (z ▸ hx)
      omega
  simp [opCmp, inV, memV, a, b, c, Val.data, Val.dep]
theorem nx_cast (x : Nat) : ((x : Int) * 1103515245 + 12345).fmod 2147483648 = (Lcg.nxt x : Nat) := by
  rw [Int.fmod_eq_emod_of_nonneg _ (by decide), Lcg.nxt_eq]
  omega
theorem dv_cast (x : Nat) : (x : Int).fdiv 65536 = ((x / 65536 : Nat) : Int) := by
  rw [Int.fdiv_eq_ediv_of_nonneg _ (by decide)]
  omega
theorem dv_cast2 (x : Nat) : (x : Int) / 65536 = ((x / 65536 : Nat) : Int) := by omega
theorem md_cast (x s : Nat) : (x : Int).fmod (s : Int) = ((x % s : Nat) : Int) := (Int.ofNat_fmod x s).symm
theorem sm1 : smallZ 1103515245 = true := by decide
def frL (seed size many : Nat) (k : Nat) : Fr := [.val (.ref 0), .val (.int seed), .val (.int size), .val (.int many), .val (.int ((dr size seed k).1 : Nat)), .val (.lst (intL (dr size seed k).2)), .no, .no, .no, .no, .no, .no, .no, .no, .no, .no, .no, .no, .no, .no]
theorem ok_lw (O : Orc) (seed size many k : Nat) (h : Hv) : w1__law_looks O (frL seed size many k) h = .ok (.bl (decide ((dr size seed k).2.length < many))) h := by
  simp [w1__law_looks, frL, intL]
theorem stp_eq (size seed k : Nat) : dr size seed (k + 1) = stp size (dr size seed k) := rfl
theorem ok_lb (O : Orc) (seed size many k : Nat) (h : Hv) (h1 : 0 < size) (h2 : size ≤ 12) : b1__law_looks O (frL seed size many k) h = .ok (.nx (frL seed size many (k + 1))) h := by
  have l := dr_len size seed h1 k
  unfold frL
  rw [stp_eq]
  generalize dr size seed k = s at *
  obtain ⟨x, L⟩ := s
  dsimp only at l
  have nz : ¬ size = 0 := by omega
  have l2 : L.length ≤ 999999 := by omega
  have l3 : L.length ≤ 1000000 := by omega
  by_cases q : Lcg.nxt x / 65536 % size ∈ L
  · simp -implicitDefEqProofs [b1__law_looks, stp, -Int.natCast_ediv, -Int.natCast_emod, nx_cast, dv_cast, dv_cast2, md_cast, sm1, nz, mem_ints, q, b2z, repL, big]

    simp [intL, l2, l3]
  · simp -implicitDefEqProofs [b1__law_looks, stp, -Int.natCast_ediv, -Int.natCast_emod, nx_cast, dv_cast, dv_cast2, md_cast, sm1, nz, mem_ints, q, b2z, repL, big]

    simp [intL, l2, l3]
end K07

set_option maxRecDepth 10000
set_option maxHeartbeats 4000000
namespace K07
open Pk PySem
def frD (seed size many : Nat) (k : Nat) (num : Sl) : Fr := [.val (.int seed), .val (.int size), .val (.int many), .acl 0 (intL (dr size seed k).2), .val (.int ((dr size seed k).1 : Nat)), .val (.int k), num]
theorem ok_dw (O : Orc) (seed size many k : Nat) (num : Sl) (h : Hv) : w1_drawn O (frD seed size many k num) h = .ok (.bl (decide ((dr size seed k).2.length < many) && decide (k < 100000))) h := by
  by_cases q : (dr size seed k).2.length < many
  · simp [w1_drawn, frD, intL, q]
    omega
  · simp [w1_drawn, frD, intL, q]
theorem ok_db (O : Orc) (seed size many k : Nat) (num : Sl) (h : Hv) (h1 : 0 < size) (h2 : size ≤ 12) : ∃ num', b1_drawn O (frD seed size many k num) h = .ok (.nx (frD seed size many (k + 1) num')) h := by
  have l := dr_len size seed h1 k
  refine ⟨.val (.int ((Lcg.nxt (dr size seed k).1 / 65536 % size : Nat))), ?_⟩
  unfold frD
  rw [stp_eq]
  generalize dr size seed k = s at *
  obtain ⟨x, L⟩ := s
  dsimp only at l
  have nz : ¬ size = 0 := by omega
  have l3 : L.length ≤ 1000000 := by omega
  have li : (intL L).length = L.length := by simp [intL]
  have la (r : Nat) : intL L ++ [.int r] = intL (L ++ [r]) := by simp [intL]
  by_cases q : Lcg.nxt x / 65536 % size ∈ L
  · simp -implicitDefEqProofs [b1_drawn, stp, -Int.natCast_ediv, -Int.natCast_emod, nx_cast, dv_cast, dv_cast2, md_cast, sm1, nz, mem_ints, q, big, isL]
  · simp -implicitDefEqProofs [b1_drawn, stp, -Int.natCast_ediv, -Int.natCast_emod, nx_cast, dv_cast, dv_cast2, md_cast, sm1, nz, mem_ints, q, big, isL, li, l3, la]
/-- both loops come to the same -/
theorem loops (O : Orc) (seed size many : Nat) (h : Hv) (h1 : 0 < size) (h2 : size ≤ 12) (h3 : many ≤ size) : ∃ (k : Nat) (num : Orc → Sl), ¬ (dr size seed k).2.length < many ∧
    sWhile (w1__law_looks O) (b1__law_looks O) 1000000 (frL seed size many 0) h = .ok (.nx (frL seed size many k)) h ∧
    ∀ O', sWhile (w1_drawn O') (b1_drawn O') 1000000 (frD seed size many 0 .no) h = .ok (.nx (frD seed size many k (num O'))) h := by
  have full := dr_all size seed h1 h2
  have nf : ¬ (dr size seed 99840).2.length < many := by rw [full]; omega
  obtain ⟨k, f1, a1, a2, a3, a4, a5, a6⟩ := while_run (w1__law_looks O) (b1__law_looks O) h (fun k => decide ((dr size seed k).2.length < many)) (fun k fr => fr = frL seed size many k)
    (fun k fr e => by rw [e, ok_lw]) (fun k fr e _ => ⟨_, by rw [e, ok_lb O seed size many k h h1 h2], rfl⟩) 99840 0 (frL seed size many 0) 1000000 rfl
    (decide_eq_false (by rw [Nat.zero_add]; exact nf)) (by decide)
  rw [Nat.zero_add] at a2
  have nk := of_decide_eq_false a3
  have b (O' : Orc) : ∃ num, sWhile (w1_drawn O') (b1_drawn O') 1000000 (frD seed size many 0 .no) h = .ok (.nx (frD seed size many k num)) h := by
    obtain ⟨k', f2, b1, b2, b3, b4, ⟨num, b5⟩, b6⟩ := while_run (w1_drawn O') (b1_drawn O') h (fun k => decide ((dr size seed k).2.length < many) && decide (k < 100000)) (fun k fr => ∃ num, fr = frD seed size many k num)
      (fun k fr ⟨num, e⟩ => by rw [e, ok_dw]) (fun k fr ⟨num, e⟩ _ => by
        obtain ⟨num', e2⟩ := ok_db O' seed size many k num h h1 h2
        exact ⟨_, by rw [e, e2], num', rfl⟩) 99840 0 (frD seed size many 0 .no) 1000000 ⟨.no, rfl⟩
      (by rw [Nat.zero_add, decide_eq_false nf]; rfl) (by decide)
    rw [Nat.zero_add] at b2
    have e : k' = k := by
      rcases Nat.lt_trichotomy k' k with z | z | z
      · have := a4 k' (Nat.zero_le _) z
        rw [this, decide_eq_true (by omega : k' < 100000)] at b3
        cases b3
      · exact z
      · have := b4 k (Nat.zero_le _) z
        rw [a3] at this
        cases this
    subst e
    exact ⟨num, by rw [b6, b5]⟩
  exact ⟨k, fun O' => Classical.choose (b O'), nk, by rw [a6, a5], fun O' => Classical.choose_spec (b O')⟩
theorem ok_drawn (n : Nat) (seed size many k : Nat) (h : Hv) (num : Sl) (h1 : 0 < size) (h3 : many ≤ size) (nk : ¬ (dr size seed k).2.length < many)
    (e : sWhile (w1_drawn (callN tbl n)) (b1_drawn (callN tbl n)) 1000000 (frD seed size many 0 .no) h = .ok (.nx (frD seed size many k num)) h) :
    callN tbl (n + 1) 10 [.int seed, .int size, .int many] h = .ok (.tup (intL (dr size seed k).2)) h := by
  rw [call_s n 10 _ _ (d_drawn (callN tbl n)) rfl, runD_ap _ _ _ rfl]
  have l3 : ¬ size < many := by omega
  have e0 : [Sl.val (.int seed), .val (.int size), .val (.int many), .acl 0 [], .val (.int seed), .val (.int 0), .no] = frD seed size many 0 .no := rfl
  have li : (intL (dr size seed k).2).length = (dr size seed k).2.length := by simp [intL]
  have c1 : ¬ ((seed : Int) < 0) := by omega
  have c2 : ¬ ((many : Int) < 0) := by omega
  have c3 : ¬ ((size : Int) < (many : Int)) := by omega
  have c4 : ¬ (((dr size seed k).2.length : Int) < (many : Int)) := by omega
  simp -implicitDefEqProofs [d_drawn, c1, c2, c3, big, e0, e]
  simp -implicitDefEqProofs [frD, c4, li, nk]
end K07

set_option maxRecDepth 10000
set_option maxHeartbeats 4000000
namespace K07
open Pk PySem
theorem genS_pure {α : Type} (t : Tg) (e : C) (fr : Fr) (h : Hv) (val f : α → Val) : ∀ (xs : List α) (n : Nat), xs.length < n →
    (∀ x ∈ xs, ∃ f1, t.bind (val x) fr = some f1 ∧ e f1 h = .ok (f x) h) → genS t none e fr n (xs.map val) h = .ok (xs.map f) h
  | _, 0, hn, _ => absurd hn (Nat.not_lt_zero _)
  | [], n + 1, _, _ => rfl
  | x :: xs, n + 1, hn, hb => by
    obtain ⟨f1, e1, e2⟩ := hb x List.mem_cons_self
    have ih := genS_pure t e fr h val f xs n (Nat.lt_of_succ_lt_succ hn) fun y hy => hb y (List.mem_cons_of_mem _ hy)
    have g : gStep t none e fr ((x :: xs).map val) h = .ok (some (f x, xs.map val)) h := by
      rw [List.map_cons]
      unfold gStep
      rw [e1]
      show ((e f1 h).calm.bnd fun y h2 => Res.ok (some (y, xs.map val)) h2) = _
      rw [e2]
      rfl
    unfold genS
    rw [g]
    show (genS t none e fr n (xs.map val) h).bind _ = _
    rw [ih]
    rfl
theorem anyS_no {α : Type} (t : Tg) (e : C) (fr : Fr) (h : Hv) (val : α → Val) : ∀ (xs : List α) (n : Nat), xs.length < n →
    (∀ x ∈ xs, ∃ f1, t.bind (val x) fr = some f1 ∧ e f1 h = .ok (.bl false) h) → anyS true t none e fr n (xs.map val) h = .ok (.bl false) h
  | _, 0, hn, _ => absurd hn (Nat.not_lt_zero _)
  | [], n + 1, _, _ => rfl
  | x :: xs, n + 1, hn, hb => by
    obtain ⟨f1, e1, e2⟩ := hb x List.mem_cons_self
    have ih := anyS_no t e fr h val xs n (Nat.lt_of_succ_lt_succ hn) fun y hy => hb y (List.mem_cons_of_mem _ hy)
    have g : gStep t none e fr ((x :: xs).map val) h = .ok (some (.bl false, xs.map val)) h := by
      rw [List.map_cons]
      unfold gStep
      rw [e1]
      show ((e f1 h).calm.bnd fun y h2 => Res.ok (some (y, xs.map val)) h2) = _
      rw [e2]
      rfl
    unfold anyS
    rw [g]
    exact ih
/-! ### the four names -/
abbrev Nm := Fin 4
def nm (a : Nm) : Str := match a with
  | 0 => "ann"
  | 1 => "bob"
  | 2 => "cy"
  | 3 => ""
def nv (a : Nm) : Val := .str (nm a)
theorem nm_inj : ∀ a b : Nm, (nm a = nm b) = (a = b) := by
  have : ∀ a b : Nm, nm a = nm b → a = b := by decide
  exact fun a b => propext ⟨this a b, fun e => by rw [e]⟩
def strL (ts : List Nm) : List Val := ts.map nv
def four : List Nm := [0, 1, 2, 3]
theorem four_at (h : Hv) (r : Int) (h1 : 0 ≤ r) (h2 : r < 4) : ∃ a : Nm, atI [Val.str "ann", .str "bob", .str "cy", .str ""] r = some (nv a) := by
  have : r = 0 ∨ r = 1 ∨ r = 2 ∨ r = 3 := by omega
  rcases this with q | q | q | q <;> subst q
  · exact ⟨0, rfl⟩
  · exact ⟨1, rfl⟩
  · exact ⟨2, rfl⟩
  · exact ⟨3, rfl⟩
theorem comp_dice (tg : Tg) (e : C) (fr : Fr) (t : Hv) : ∀ xs : List Val, (∀ v ∈ xs, ∃ f1, tg.bind v fr = some f1 ∧ ∀ x, ∃ (r : Nm) (x' : Int × Int × Int), e f1 (DD x :: t) = .ok (nv r) (DD x' :: t)) →
    ∀ x, ∃ (ts : List Nm) (x' : Int × Int × Int), ts.length = xs.length ∧ compL tg none e fr xs (DD x :: t) = .ok (strL ts) (DD x' :: t)
  | [], _, x => ⟨[], x, rfl, rfl⟩
  | v :: xs, hb, x => by
    obtain ⟨f1, e1, e2⟩ := hb v List.mem_cons_self
    obtain ⟨r, x1, e3⟩ := e2 x
    obtain ⟨ts, x2, hl, e4⟩ := comp_dice tg e fr t xs (fun y hy => hb y (List.mem_cons_of_mem _ hy)) x1
    refine ⟨r :: ts, x2, by rw [List.length_cons, List.length_cons, hl], ?_⟩
    rw [compL_cons, e1]
    show ((e f1 (DD x :: t)).calm.bind _) = _
    rw [e3]
    show ((compL tg none e fr xs (DD x1 :: t)).bind _) = _
    rw [e4]
    rfl
theorem atI_nat {α : Type} (xs : List α) (k : Nat) : atI xs (k : Int) = xs[k]? := by
  unfold atI
  rw [if_pos (Int.natCast_nonneg k), Int.toNat_natCast]
theorem str_at (ts : List Nm) (k : Nat) (h : k < ts.length) : atI (strL ts) (k : Int) = some (nv ts[k]) := by
  rw [atI_nat]
  unfold strL
  rw [List.getElem?_map, List.getElem?_eq_getElem h]
  rfl
/-! ### sorting of pairs -/
abbrev Pr := Int × Nm
def pv (p : Pr) : Val := .tup [.int p.1, nv p.2]
def plt (p q : Pr) : Bool := decide (p.1 < q.1 ∨ (p.1 = q.1 ∧ (p.2 + 1 : Nm) < q.2 + 1))
theorem nm_lt : ∀ a b : Nm, (¬ nm a = nm b ∧ (nm a).cps.toList < (nm b).cps.toList) ↔ ((a + 1 : Nm) < b + 1) := by decide
theorem pv_lt (p q : Pr) : (pv p).lt (pv q) = plt p q := by
  obtain ⟨a, b⟩ := p
  obtain ⟨c, d⟩ := q
  unfold pv plt nv
  by_cases e : a = c
  · subst e
    simp [Val.lt, lts, Val.eqv, eqvs]
    rw [Bool.eq_iff_iff, Bool.and_eq_true, Bool.not_eq_true', decide_eq_true_eq, decide_eq_true_eq, decide_eq_false_iff_not]
    exact nm_lt b d
  · simp [Val.lt, lts, Val.eqv, e]
def insP (x : Pr) : List Pr → List Pr
  | [] => [x]
  | y :: r => if plt x y then x :: y :: r else y :: insP x r
def sortP (ps : List Pr) : List Pr := ps.foldl (fun acc x => insP x acc) []
theorem insV_map (x : Pr) : ∀ l : List Pr, insV (pv x) (l.map pv) = (insP x l).map pv
  | [] => rfl
  | y :: r => by
    rw [List.map_cons]
    unfold insV insP
    rw [pv_lt]
    by_cases q : plt x y = true
    · rw [if_pos q, if_pos q]; rfl
    · rw [if_neg q, if_neg q, insV_map x r]; rfl
theorem sortV_map : ∀ (ps acc : List Pr), sortV (acc.map pv) (ps.map pv) = (ps.foldl (fun acc x => insP x acc) acc).map pv
  | [], acc => rfl
  | x :: ps, acc => by
    rw [List.map_cons]
    unfold sortV
    rw [insV_map]
    exact sortV_map ps (insP x acc)
theorem sorted_map (ps : List Pr) (hl : ps.length ≤ 1000) : sorted (ps.map pv) = some ((sortP ps).map pv) := by
  have ok : sortOk (ps.map pv) = true := by
    simp [sortOk, pv, nv]
    intro a b _ c d _
    simp [pairOk, Val.data, datas, Val.alike, alikes, Val.dep, deps, Val.full]
  unfold sorted
  rw [if_pos ⟨ok, by rw [List.length_map]; unfold big; omega⟩]
  have := sortV_map ps []
  rw [List.map_nil] at this
  rw [this]
  rfl
theorem plt_iff (p q : Pr) : plt p q = true ↔ p.1 < q.1 ∨ (p.1 = q.1 ∧ (p.2 + 1).val < (q.2 + 1).val) := by
  unfold plt
  rw [decide_eq_true_eq]
  rfl
theorem insP_comm {x y : Pr} (hxy : plt x y = true) : ∀ l : List Pr, insP x (insP y l) = insP y (insP x l)
  | [] => by
    have n : ¬ plt y x = true := fun z => by
      rw [plt_iff] at z hxy; omega
    simp [insP, hxy, n]
  | z :: r => by
    have n : ¬ plt y x = true := fun z => by
      rw [plt_iff] at z hxy; omega
    by_cases h1 : plt y z = true
    · have h2 : plt x z = true := by
        rw [plt_iff] at h1 hxy ⊢; omega
      simp [insP, hxy, n, h1, h2]
    · by_cases h2 : plt x z = true
      · simp [insP, hxy, n, h1, h2]
      · simp [insP, h1, h2, insP_comm hxy r]
theorem plt_total {x y : Pr} (h : x.2 ≠ y.2) : plt x y = true ∨ plt y x = true := by
  have : (x.2 + 1).val ≠ (y.2 + 1).val := by
    have : ∀ a b : Nm, a ≠ b → (a + 1).val ≠ (b + 1).val := by decide
    exact this _ _ h
  rw [plt_iff, plt_iff]
  omega
theorem sortP_perm {l1 l2 : List Pr} (p : l1.Perm l2) (hd : ∀ x ∈ l1, ∀ y ∈ l1, x = y ∨ x.2 ≠ y.2) : sortP l1 = sortP l2 := by
  unfold sortP
  refine p.foldl_eq' (fun x hx y hy z => ?_) []
  rcases hd x hx y hy with q | q
  · rw [q]
  · rcases plt_total q with r | r
    · exact (insP_comm r z).symm
    · exact insP_comm r z
end K07

set_option maxRecDepth 10000
set_option maxHeartbeats 4000000
namespace K07
open Pk PySem
def kst (K : List Nm) (a : Nm) : List Nm := if a = 3 then K else if a ∈ K then K else K ++ [a]
def keys (ts : List Nm) : List Nm := ts.foldl kst []
def tabOf (ts : List Nm) : List (Val × Val) := (keys ts).map fun a => (nv a, .int (ts.count a : Nat))
theorem keys_app (p : List Nm) (a : Nm) : keys (p ++ [a]) = kst (keys p) a := by
  unfold keys
  rw [List.foldl_append]
  rfl
theorem foldl_ok : ∀ (ts K : List Nm), K.Nodup → (ts.foldl kst K).Nodup ∧ ∀ a, a ∈ ts.foldl kst K ↔ a ∈ K ∨ (a ∈ ts ∧ a ≠ 3)
  | [], K, h => ⟨h, fun a => by simp⟩
  | b :: ts, K, h => by
    have h1 : (kst K b).Nodup := by
      unfold kst
      by_cases q : b = 3
      · rw [if_pos q]; exact h
      rw [if_neg q]
      by_cases q2 : b ∈ K
      · rw [if_pos q2]; exact h
      rw [if_neg q2]
      exact List.nodup_append.mpr ⟨h, List.nodup_cons.mpr ⟨by simp, List.nodup_nil⟩, fun x hx y hy => by
        have : y = b := by simpa using hy
        subst this
        exact fun z => q2 (z ▸ hx)⟩
    obtain ⟨i1, i2⟩ := foldl_ok ts (kst K b) h1
    refine ⟨i1, fun a => ?_⟩
    rw [List.foldl_cons, i2]
    unfold kst
    by_cases q : b = 3
    · rw [if_pos q]
      subst q
      constructor
      · rintro (z | z)
        · exact .inl z
        · exact .inr ⟨List.mem_cons_of_mem _ z.1, z.2⟩
      · rintro (z | ⟨z, z2⟩)
        · exact .inl z
        · rcases List.mem_cons.mp z with y | y
          · exact absurd y z2
          · exact .inr ⟨y, z2⟩
    rw [if_neg q]
    by_cases q2 : b ∈ K
    · rw [if_pos q2]
      constructor
      · rintro (z | z)
        · exact .inl z
        · exact .inr ⟨List.mem_cons_of_mem _ z.1, z.2⟩
      · rintro (z | ⟨z, z2⟩)
        · exact .inl z
        · rcases List.mem_cons.mp z with y | y
          · exact .inl (y ▸ q2)
          · exact .inr ⟨y, z2⟩
    rw [if_neg q2]
    constructor
    · rintro (z | z)
      · rcases List.mem_append.mp z with y | y
        · exact .inl y
        · have : a = b := by simpa using y
          exact .inr ⟨this ▸ List.mem_cons_self, this ▸ q⟩
      · exact .inr ⟨List.mem_cons_of_mem _ z.1, z.2⟩
    · rintro (z | ⟨z, z2⟩)
      · exact .inl (List.mem_append_left _ z)
      · rcases List.mem_cons.mp z with y | y
        · exact .inl (List.mem_append_right _ (by rw [y]; exact List.mem_cons_self))
        · exact .inr ⟨y, z2⟩
theorem keys_nodup (ts : List Nm) : (keys ts).Nodup := (foldl_ok ts [] List.nodup_nil).1
theorem keys_mem (ts : List Nm) (a : Nm) : a ∈ keys ts ↔ a ∈ ts ∧ a ≠ 3 := by
  have := (foldl_ok ts [] List.nodup_nil).2 a
  unfold keys
  rw [this]
  simp
theorem nv_beq (a b : Nm) : Val.beq (nv a) (nv b) = decide (a = b) := by
  have : Val.beq (nv a) (nv b) = (nm a == nm b) := rfl
  rw [this, Bool.eq_iff_iff, beq_iff_eq, decide_eq_true_eq, nm_inj]
theorem tab_get (ts : List Nm) (a : Nm) (h : a ∈ ts) (h3 : a ≠ 3) : dget (tabOf ts) (nv a) = some (.int (ts.count a : Nat)) := by
  have m := (keys_mem ts a).mpr ⟨h, h3⟩
  unfold dget tabOf
  rw [List.find?_map]
  have : (keys ts).find? ((fun p : Val × Val => Val.beq p.1 (nv a)) ∘ fun a => (nv a, .int (ts.count a : Nat))) = some a := by
    rw [List.find?_eq_some_iff_append]
    obtain ⟨s, t, e⟩ := List.append_of_mem m
    refine ⟨by simp [nv_beq], s, t, e, fun b hb => ?_⟩
    have nd := keys_nodup ts
    rw [e] at nd
    have := (List.nodup_append.mp nd).2.2 b hb a List.mem_cons_self
    simp [nv_beq, this]
  rw [this]
  rfl
theorem tab_none (ts : List Nm) (a : Nm) (h : a ∉ ts) : dget (tabOf ts) (nv a) = none := by
  unfold dget tabOf
  rw [List.find?_map]
  have : (keys ts).find? ((fun p : Val × Val => Val.beq p.1 (nv a)) ∘ fun a => (nv a, .int (ts.count a : Nat))) = none := by
    rw [List.find?_eq_none]
    intro b hb
    have : ¬ b = a := fun z => h (z ▸ ((keys_mem ts b).mp hb).1)
    simp [nv_beq, this]
  rw [this]
  rfl
theorem tab_getD (ts : List Nm) (a : Nm) (h3 : a ≠ 3) : (dget (tabOf ts) (nv a)).getD (.int 0) = .int (ts.count a : Nat) := by
  by_cases h : a ∈ ts
  · rw [tab_get ts a h h3]; rfl
  · rw [tab_none ts a h, List.count_eq_zero_of_not_mem h]; rfl
theorem tab_key (ts : List Nm) (a : Nm) : keyOk (tabOf ts) (nv a) = true := by
  simp [keyOk, tabOf, nv, Val.leafK]
theorem tab_put (ts : List Nm) (a : Nm) (h3 : a ≠ 3) : dput (tabOf ts) (nv a) (.int ((ts.count a : Nat) + 1)) = tabOf (ts ++ [a]) := by
  have cnt (b : Nm) : (ts ++ [a]).count b = ts.count b + if a = b then 1 else 0 := by
    rw [List.count_append]
    congr 1
    rw [List.count_singleton]
    simp
  unfold dput
  by_cases h : a ∈ keys ts
  · have e : (tabOf ts).any (fun p => Val.beq p.1 (nv a)) = true := by
      rw [List.any_eq_true]
      exact ⟨_, List.mem_map.mpr ⟨a, h, rfl⟩, by simp [nv_beq]⟩
    rw [if_pos e]
    unfold tabOf
    rw [keys_app, kst, if_neg h3, if_pos h, List.map_map]
    refine List.map_congr_left fun b hb => ?_
    show (if Val.beq (nv b) (nv a) = true then (nv b, _) else _) = _
    rw [nv_beq, cnt]
    by_cases q : b = a
    · subst q
      simp
    · have q' : ¬ a = b := fun z => q z.symm
      simp [q, q']
  · have e : ¬ (tabOf ts).any (fun p => Val.beq p.1 (nv a)) = true := by
      rw [List.any_eq_true]
      rintro ⟨p, hp, e⟩
      obtain ⟨b, hb, e2⟩ := List.mem_map.mp hp
      rw [← e2] at e
      have : b = a := by simpa [nv_beq] using e
      exact h (this ▸ hb)
    rw [if_neg e]
    unfold tabOf
    rw [keys_app, kst, if_neg h3, if_neg h, List.map_append]
    have h0 : a ∉ ts := fun z => h ((keys_mem ts a).mpr ⟨z, h3⟩)
    congr 1
    · refine List.map_congr_left fun b hb => ?_
      have q' : ¬ a = b := fun z => h (z ▸ hb)
      rw [cnt, if_neg q']
      rfl
    · rw [List.map_cons, List.map_nil, cnt, List.count_eq_zero_of_not_mem h0, if_pos rfl]
      rfl
theorem tab_len (ts : List Nm) : (tabOf ts).length ≤ 4 := by
  unfold tabOf
  rw [List.length_map]
  have := List.Nodup.length_le_of_subset (keys_nodup ts) (l₂ := [0, 1, 2, 3]) fun a _ => by
    have : ∀ a : Nm, a ∈ ([0, 1, 2, 3] : List Nm) := by decide
    exact this a
  exact this
/-- the ranking -/
def rank (ts : List Nm) : List Pr := sortP ((keys ts).map fun a => (0 - (ts.count a : Nat), a))
theorem rank_eq (ts : List Nm) : sortP ((([0, 1, 2] : List Nm).filter fun a => decide (a ∈ ts)).map fun a => (-((ts.count a : Nat) : Int), a)) = rank ts := by
  have p : ((([0, 1, 2] : List Nm).filter fun a => decide (a ∈ ts)).map fun a => ((-((ts.count a : Nat) : Int), a) : Pr)).Perm ((keys ts).map fun a => (0 - ((ts.count a : Nat) : Int), a)) := by
    have : (fun a : Nm => ((0 - ((ts.count a : Nat) : Int), a) : Pr)) = fun a => (-((ts.count a : Nat) : Int), a) := by
      funext a
      rw [Int.zero_sub]
    rw [this]
    refine List.Perm.map _ ((List.perm_ext_iff_of_nodup ?_ (keys_nodup ts)).mpr fun a => ?_)
    · exact List.Pairwise.filter _ (by decide : ([0, 1, 2] : List Nm).Nodup)
    · rw [List.mem_filter, keys_mem, decide_eq_true_eq]
      have : ∀ a : Nm, a ∈ ([0, 1, 2] : List Nm) ↔ a ≠ 3 := by decide
      rw [this]
      exact And.comm
  unfold rank
  refine sortP_perm p fun x hx y hy => ?_
  obtain ⟨a, _, e1⟩ := List.mem_map.mp hx
  obtain ⟨b, _, e2⟩ := List.mem_map.mp hy
  by_cases q : a = b
  · subst q
    exact .inl (e1.symm.trans e2)
  · refine .inr ?_
    rw [← e1, ← e2]
    exact q
theorem insP_len (x : Pr) : ∀ l : List Pr, (insP x l).length = l.length + 1
  | [] => rfl
  | y :: r => by
    unfold insP
    by_cases q : plt x y = true
    · rw [if_pos q]; rfl
    · rw [if_neg q, List.length_cons, insP_len x r]; rfl
theorem insP_perm (x : Pr) : ∀ l : List Pr, (insP x l).Perm (x :: l)
  | [] => .refl _
  | y :: r => by
    unfold insP
    by_cases q : plt x y = true
    · rw [if_pos q]
    · rw [if_neg q]
      exact ((insP_perm x r).cons y).trans (.swap x y r)
theorem foldl_perm : ∀ (ps acc : List Pr), (ps.foldl (fun acc x => insP x acc) acc).Perm (ps ++ acc)
  | [], acc => .refl _
  | x :: ps, acc => by
    rw [List.foldl_cons]
    refine (foldl_perm ps (insP x acc)).trans ?_
    refine ((insP_perm x acc).append_left ps).trans ?_
    exact List.perm_middle
theorem rank_perm (ts : List Nm) : (rank ts).Perm ((keys ts).map fun a => (0 - ((ts.count a : Nat) : Int), a)) := by
  have := foldl_perm ((keys ts).map fun a => (0 - ((ts.count a : Nat) : Int), a)) []
  rw [List.append_nil] at this
  exact this
theorem rank_ne (ts : List Nm) {p q : Pr} {r : List Pr} (h : rank ts = p :: q :: r) : q.2 ≠ p.2 := by
  have h1 := (rank_perm ts).map Prod.snd
  rw [List.map_map] at h1
  have : (Prod.snd ∘ fun a : Nm => ((0 - ((ts.count a : Nat) : Int), a) : Pr)) = id := rfl
  rw [this, List.map_id, h] at h1
  have h2 := h1.nodup_iff.mpr (keys_nodup ts)
  rw [List.map_cons, List.map_cons, List.nodup_cons] at h2
  exact fun z => h2.1 (by rw [z]; exact List.mem_cons_self)
end K07

set_option maxRecDepth 10000
set_option maxHeartbeats 4000000
namespace K07
open Pk PySem
theorem nv_eq (h : Hv) (a b : Nm) : opCmp h .eq (nv a) (nv b) = some (decide (a = b)) := by
  unfold nv
  rw [ceq_str]
  congr 1
  rw [Bool.eq_iff_iff, decide_eq_true_eq, decide_eq_true_eq, nm_inj]
def mg (a f s : Nm) : Int := if a = f then 1 else if a = s then -1 else 0
theorem ok_margin (n : Nat) (h : Hv) (a f s : Nm) (r : List Nm) : callN tbl (n + 1) 12 [nv a, .lst (nv f :: nv s :: strL r)] h = .ok (.int (mg a f s)) h := by
  rw [call_s n 12 _ _ (d_margin_of (callN tbl n)) rfl, runD_ap _ _ _ rfl]
  unfold mg
  by_cases q1 : a = f
  · simp -implicitDefEqProofs [d_margin_of, atI, nv_eq, q1]
  · by_cases q2 : a = s
    · have q3 : ¬ s = f := q2 ▸ q1
      simp -implicitDefEqProofs [d_margin_of, atI, nv_eq, q2, q3]
    · simp -implicitDefEqProofs [d_margin_of, atI, nv_eq, q1, q2]
def ovr (ts ps : List Nm) (f s : Nm) (z : Int × Int) (k : Nat) : Int × Int :=
  let w := mg (ts[k]?.getD 0) f s - mg (ps[k]?.getD 0) f s
  (z.1 + (if w > 0 then w else 0), z.2 + (if 0 - w > 0 then 0 - w else 0))
theorem at_opt (ts : List Nm) (k : Nat) (h : k < ts.length) : atI (strL ts) (k : Int) = some (nv (ts[k]?.getD 0)) := by
  rw [str_at ts k h, List.getElem?_eq_getElem h]
  rfl
theorem strL_len (ts : List Nm) : (strL ts).length = ts.length := by unfold strL; rw [List.length_map]
theorem ok_checked (n : Nat) (h : Hv) (ts ps : List Nm) (L : List Nat) (hl : ps.length = ts.length) (hs : ts.length ≤ 12) (hL : ∀ k ∈ L, k < ts.length) :
    callN tbl (n + 2) 11 [.lst (strL ps), .lst (strL ts), .lst (intL L)] h =
      match rank ts with
      | f :: s :: _ => .ok (.tup [.int (L.foldl (ovr ts ps f.2 s.2) (0, 0)).1, .int (L.foldl (ovr ts ps f.2 s.2) (0, 0)).2]) h
      | _ => .exc 1 h := by
  rw [call_s (n + 1) 11 _ _ (d_checked (callN tbl (n + 1))) rfl, runD_ap _ _ _ rfl]
  have a1 := anyS_no (.n 3) (cNot (cChain .le .lt (cK (.int 0)) (cV 3) (cLen (cV 1)))) [.val (.lst (strL ps)), .val (.lst (strL ts)), .val (.lst (intL L)), .no, .no, .no, .no, .no, .no, .no, .no] h (fun (n : Nat) => .int n) L (L.length + 1) (Nat.lt_succ_self _)
    (fun k hk => ⟨_, rfl, by
      have := hL k hk
      have c : ¬ ((k : Int) < 0) := by omega
      have c2 : (k : Int) < ts.length := by omega
      simp -implicitDefEqProofs [strL_len, c, c2, this]⟩)
  obtain ⟨f2, h2, e2, i2⟩ := forL_inv (.n 5) (b1_checked (callN tbl (n + 1))) nv (fun p a => p ++ [a]) (fun p fr h' => h' = h ∧ ∃ sl5, fr = [.val (.lst (strL ps)), .val (.lst (strL ts)), .val (.lst (intL L)), .no, .acd 0 (tabOf p), sl5, .no, .no, .no, .no, .no])
    (fun p a fr h' ⟨hh, sl5, hf⟩ => by
      subst hh; subst hf
      refine ⟨_, rfl, _, h', ?_, rfl, .val (nv a), rfl⟩
      by_cases q : a = 3
      · subst q
        have e : tabOf (p ++ [3]) = tabOf p := by
          have c : ∀ b ∈ keys p, (p ++ [3]).count b = p.count b := fun b hb => by
            have : ¬ (3 : Nm) = b := fun z => ((keys_mem p b).mp hb).2 z.symm
            rw [List.count_append, List.count_singleton]
            simp [this]
          unfold tabOf
          rw [keys_app, kst, if_pos rfl]
          exact List.map_congr_left fun b hb => by rw [c b hb]
        rw [e]
        have : nv 3 = .str "" := rfl
        simp -implicitDefEqProofs [b1_checked, this]
      · have q2 : (nm a = "") = False := by
          have : ("" : Str) = nm 3 := rfl
          rw [this, nm_inj]
          exact eq_false q
        have e0 (h : Hv) : opCmp h .ne (nv a) (.str "") = some true := by
          unfold nv
          rw [cne_str]
          simp [q2]
        have l : (tabOf p).length ≤ 1000000 := Nat.le_trans (tab_len p) (by decide)
        simp -implicitDefEqProofs [b1_checked, e0, tab_key, tab_getD p a q, isA, setA, contSl, setC, tab_put p a q, l, big])
    ts [] [.val (.lst (strL ps)), .val (.lst (strL ts)), .val (.lst (intL L)), .no, .acd 0 [], .no, .no, .no, .no, .no, .no] h ⟨rfl, _, rfl⟩
  have fe : ∀ (ts p : List Nm), ts.foldl (fun p a => p ++ [a]) p = p ++ ts := by
    intro ts
    induction ts with
    | nil => intro p; simp
    | cons a r ih => intro p; rw [List.foldl_cons, ih]; simp
  rw [fe, List.nil_append] at i2
  obtain ⟨hh, sl5, rfl⟩ := i2
  rw [hh] at e2
  clear hh h2
  have e3 := genS_pure (.n 5) (cTup (csC (cBin .sub (cK (.int 0)) (cIdx (cA 4) (cV 5))) (csC (cV 5) cs0))) [.val (.lst (strL ps)), .val (.lst (strL ts)), .val (.lst (intL L)), .no, .acd 1 (tabOf ts), .no, .no, .no, .no, .no, .no] h nv (fun a => pv (0 - (ts.count a : Nat), a)) (keys ts) ((keys ts).length + 1) (Nat.lt_succ_self _)
    (fun a ha => ⟨_, rfl, by
      have m := (keys_mem ts a).mp ha
      have g (h : Hv) : opIdx h (.dct (tabOf ts)) (nv a) = some (.int (ts.count a : Nat)) := by
        have : opIdx h (.dct (tabOf ts)) (nv a) = if keyOk (tabOf ts) (nv a) then dget (tabOf ts) (nv a) else none := rfl
        rw [this, tab_key, tab_get ts a m.1 m.2]
        rfl
      simp -implicitDefEqProofs [g, big, pv]⟩)
  have e4 : sorted ((keys ts).map fun a => pv (0 - (ts.count a : Nat), a)) = some ((rank ts).map pv) := by
    have := sorted_map ((keys ts).map fun a => (0 - ((ts.count a : Nat) : Int), a)) (by
      have := tab_len ts
      unfold tabOf at this
      rw [List.length_map] at this ⊢
      omega)
    rw [List.map_map] at this
    exact this
  have e5 := compL_pure (.t [7, 5]) none (cV 5) [.val (.lst (strL ps)), .val (.lst (strL ts)), .val (.lst (intL L)), .no, .acd 0 (tabOf ts), .no, .no, .no, .no, .no, .no] h pv (fun _ => true) (fun p => nv p.2) (rank ts)
    (fun p _ => ⟨_, rfl, rfl, fun _ => rfl⟩)
  rw [List.filter_eq_self.mpr (fun _ _ => rfl)] at e5
  have lr : (rank ts).length ≤ 4 := by
    have := (rank_perm ts).length_eq
    have l2 := tab_len ts
    unfold tabOf at l2
    rw [List.length_map] at this l2
    omega
  have lr2 : (rank ts).length ≤ 1000000 := by omega
  have i0 : iSeq (cV 2) [.val (.lst (strL ps)), .val (.lst (strL ts)), .val (.lst (intL L)), .no, .no, .no, .no, .no, .no, .no, .no] h = .ok (intL L, none) h := rfl
  have e2 : forL (.n 5) (b1_checked (callN tbl (n + 1))) (strL ts) [.val (.lst (strL ps)), .val (.lst (strL ts)), .val (.lst (intL L)), .no, .acd 0 [], .no, .no, .no, .no, .no, .no] h = _ := e2
  have a1 : anyS true (.n 3) none _ _ (L.length + 1) (intL L) h = _ := a1
  have ll : (intL L).length = L.length := by unfold intL; rw [List.length_map]
  have k1 : (tabOf ts).map (fun x => x.1) = (keys ts).map nv := by
    unfold tabOf
    rw [List.map_map]
    rfl
  have k2 : (tabOf ts).length = (keys ts).length := by
    unfold tabOf
    rw [List.length_map]
  simp only [Int.zero_sub] at e3 e4
  simp -implicitDefEqProofs [d_checked, p1_checked, cAnyS, strL_len, hl, a1, ll, e2, p3_checked, p2_checked, cLkO, fSortG, iDctO, ownD, Res.calmly, k1, k2, e3, e4, e5, lr2, big]
  match hr : rank ts with
  | [] => simp
  | [f] => simp
  | f :: s :: r =>
    have lt2 : ¬ ((r.length : Int) + 1 + 1 < 2) := by omega
    have sr : (r.map fun p : Pr => nv p.2) = strL (r.map Prod.snd) := by unfold strL; rw [List.map_map]; rfl
    have mm (h : Hv) (a : Nm) := ok_margin n h a f.2 s.2 (r.map Prod.snd)
    obtain ⟨f3, h3, e6, i3⟩ := forL_inv' (.n 3) (b2_checked (callN tbl (n + 1))) (fun (k : Nat) => .int k) (ovr ts ps f.2 s.2) (fun z fr h' => h' = h ∧ ∃ a b, fr = [.val (.lst (strL ps)), .val (.lst (strL ts)), .val (.lst (intL L)), a, .acd 0 (tabOf ts), sl5, .val (.lst (nv f.2 :: nv s.2 :: strL (r.map Prod.snd))), .no, .val (.int z.1), .val (.int z.2), b]) L
      (fun z k fr h' hk ⟨hh, a, b, hf⟩ => by
        subst hh; subst hf
        have kt := hL k hk
        have kp : k < ps.length := by omega
        refine ⟨_, rfl, _, h', ?_, rfl, .val (.int k), .val (.int (mg (ts[k]?.getD 0) f.2 s.2 - mg (ps[k]?.getD 0) f.2 s.2)), rfl⟩
        have t1 := at_opt ts k kt
        have t2 := at_opt ps k kp
        have mm (a : Nm) := mm h' a
        simp -implicitDefEqProofs [b2_checked, t1, t2, mm, ovr])
      (0, 0) [.val (.lst (strL ps)), .val (.lst (strL ts)), .val (.lst (intL L)), .no, .acd 0 (tabOf ts), sl5, .val (.lst (nv f.2 :: nv s.2 :: strL (r.map Prod.snd))), .no, .val (.int 0), .val (.int 0), .no] h ⟨rfl, _, _, rfl⟩
    obtain ⟨hh, a, b, rfl⟩ := i3
    rw [hh] at e6
    clear hh h3
    have e6 : forL (.n 3) (b2_checked (callN tbl (n + 1))) (intL L) _ h = _ := e6
    simp -implicitDefEqProofs [lt2, sr, e6]
end K07

set_option maxRecDepth 10000
set_option maxHeartbeats 4000000
namespace K07
open Pk PySem
theorem ok_rollN (n : Nat) (x : Int × Int × Int) (t : Hv) (m : Nat) (h1 : 1 ≤ m) (h2 : m ≤ 100000000) :
    ∃ (r : Nat) (x' : Int × Int × Int), r < m ∧ callN tbl (n + 1) 15 [.ref 0, .int m] (DD x :: t) = .ok (.int r) (DD x' :: t) := by
  obtain ⟨r, x', a, b, e⟩ := ok_roll n x t m (by omega) (by omega)
  refine ⟨r.toNat, x', by omega, ?_⟩
  rw [e, Int.toNat_of_nonneg a]
theorem eqvs_self {α : Type} (f : α → Val) (hf : ∀ x, (f x).eqv (f x) = true) : ∀ xs : List α, eqvs (xs.map f) (xs.map f) = true
  | [] => by rw [List.map_nil]; unfold eqvs; rfl
  | x :: xs => by rw [List.map_cons]; unfold eqvs; rw [hf, eqvs_self f hf xs]; rfl
theorem ne_self {α : Type} (f : α → Val) (hf : ∀ x, (f x).eqv (f x) = true) (hd : ∀ x, (f x).data = true) (hp : ∀ x, (f x).dep ≤ 2) (h : Hv) (xs : List α) : opCmp h .ne (.lst (xs.map f)) (.lst (xs.map f)) = some false := by
  have a := eqvs_self f hf xs
  have b := datas_map f hd xs
  have c := deps_map f 2 hp xs
  have d : deps (xs.map f) + 1 ≤ 40 := by omega
  have d2 : deps (xs.map f) ≤ 39 := by omega
  simp [opCmp, eqV, derefV, Val.data, Val.dep, Val.eqv, a, b, d2]
theorem ne_intL (h : Hv) (L : List Nat) : opCmp h .ne (.lst (intL L)) (.lst (intL L)) = some false :=
  ne_self _ (fun x => by simp [Val.eqv]) (fun x => by simp [Val.data]) (fun x => by simp [Val.dep]) h L
theorem nm_mem (h : Hv) (a : Nm) (ts : List Nm) : opCmp h .inn (nv a) (.lst (strL ts)) = some (decide (a ∈ ts)) := by
  have b : datas (strL ts) = true := datas_map nv (fun x => by simp [nv, Val.data]) ts
  have c : deps (strL ts) ≤ 40 := Nat.le_trans (deps_map nv 0 (fun x => by simp [nv, Val.dep]) ts) (Nat.zero_le _)
  have d : anyE (nv a) (strL ts) = decide (a ∈ ts) := by
    unfold strL
    rw [anyE_map]
    have e (x : Nm) : (nv x).eqv (nv a) = decide (x = a) := by
      have : (nv x).eqv (nv a) = (nm x == nm a) := rfl
      rw [this, Bool.eq_iff_iff, beq_iff_eq, decide_eq_true_eq, nm_inj]
    rw [Bool.eq_iff_iff, List.any_eq_true, decide_eq_true_eq]
    constructor
    · rintro ⟨x, hx, z⟩
      rw [e, decide_eq_true_eq] at z
      exact z ▸ hx
    · exact fun z => ⟨a, z, by rw [e]; simp⟩
  simp [opCmp, inV, memV, b, c, d]
  simp [nv, Val.data, Val.dep]
theorem cnt_map (a : Nm) : ∀ ts : List Nm, cntE (nv a) (strL ts) = ts.count a
  | [] => rfl
  | b :: ts => by
    have ih := cnt_map a ts
    unfold strL at ih ⊢
    rw [List.map_cons]
    unfold cntE
    rw [ih, List.count_cons]
    by_cases q : b = a
    · subst q; simp [nv, Val.eqv]
    · have : (nv b).eqv (nv a) = false := by simp [nv, Val.eqv, nm_inj, q]
      simp [this, q]
theorem nm_cnt (a : Nm) (ts : List Nm) : cntV (nv a) (strL ts) = some (ts.count a) := by
  have b : datas (strL ts) = true := datas_map nv (fun x => by simp [nv, Val.data]) ts
  have c : deps (strL ts) ≤ 40 := Nat.le_trans (deps_map nv 0 (fun x => by simp [nv, Val.dep]) ts) (Nat.zero_le _)
  simp [cntV, looked, b, c, cnt_map]
  simp [nv, Val.data, Val.dep]
theorem mg_eq (a f s : Nm) (h : s ≠ f) : mg a f s = b2z (decide (a = f)) - b2z (decide (a = s)) := by
  unfold mg b2z
  by_cases q : a = f
  · have : ¬ a = s := fun z => h (z.symm.trans q)
    have : ¬ f = s := fun z => h z.symm
    simp [q, this]
  · by_cases q2 : a = s <;> simp [q, q2, h]
theorem ovr_nonneg (ts ps : List Nm) (f s : Nm) : ∀ (L : List Nat) (z : Int × Int), 0 ≤ z.1 → 0 ≤ (L.foldl (ovr ts ps f s) z).1
  | [], z, h => h
  | k :: L, z, h => by
    rw [List.foldl_cons]
    refine ovr_nonneg ts ps f s L _ ?_
    unfold ovr
    dsimp only
    split <;> omega
theorem small_nat (n : Nat) (h : n ≤ 1000) : smallZ (n : Int) = true := by
  unfold smallZ
  have a : (-(2 ^ 64 : Int)) < n := Int.lt_of_lt_of_le (by decide) (Int.natCast_nonneg n)
  have b : (n : Int) < 2 ^ 64 := Int.lt_of_le_of_lt (Int.ofNat_le.mpr h) (by decide)
  rw [decide_eq_true a, decide_eq_true b]
  rfl
theorem ok_enough (n : Nat) (h : Hv) (m t v o : Int) (h1 : 1 ≤ m) (h2 : 1 ≤ t) (h3 : 0 ≤ v) (h4 : 0 ≤ o) (s1 : smallZ m = true) (s2 : smallZ t = true) :
    callN tbl (n + 1) 13 [.int m, .int t, .int v, .int o] h = .ok (.bl (decide (5 * t + 2 * o * t < v * m))) h := by
  rw [call_s n 13 _ _ (d_enough_checked (callN tbl n)) rfl, runD_ap _ _ _ rfl]
  have a : ¬ m < 1 := by omega
  have b : ¬ t < 1 := by omega
  have c : ¬ v < 0 := by omega
  have d : ¬ o < 0 := by omega
  have e5 : smallZ 5 = true := by decide
  have e2 : smallZ 2 = true := by decide
  simp -implicitDefEqProofs [d_enough_checked, a, b, c, d, s1, s2, e5, e2]
end K07

set_option maxRecDepth 10000
set_option maxHeartbeats 4000000
namespace K07
open Pk PySem
theorem ok_looks (n : Nat) (x : Int × Int × Int) (t : Hv) : ∃ x' : Int × Int × Int, callN tbl (n + 3) 18 [.ref 0] (DD x :: t) = .ok (.bl true) (DD x' :: t) := by
  rw [call_s (n + 2) 18 _ _ (d__law_looks (callN tbl (n + 2))) rfl, runD_ap _ _ _ rfl]
  obtain ⟨seed, x1, r1, e1⟩ := ok_rollN (n + 1) x t 100000 (by decide) (by decide)
  have e1 : callN tbl (n + 2) 15 [.ref 0, .int 100000] (DD x :: t) = .ok (.int seed) (DD x1 :: t) := e1
  obtain ⟨w, x2, r2, e2⟩ := ok_rollN (n + 1) x1 t 12 (by decide) (by decide)
  have e2 : callN tbl (n + 2) 15 [.ref 0, .int 12] (DD x1 :: t) = .ok (.int w) (DD x2 :: t) := e2
  obtain ⟨size, hsz⟩ : ∃ size : Nat, size = w + 1 := ⟨_, rfl⟩
  have hs1 : 0 < size := by omega
  have hs2 : size ≤ 12 := by omega
  have hsi : (1 : Int) + (w : Int) = (size : Int) := by omega
  obtain ⟨many, x3, r3, e3⟩ := ok_rollN (n + 1) x2 t (size + 1) (by omega) (by omega)
  have e3 : callN tbl (n + 2) 15 [.ref 0, .int ((size : Int) + 1)] (DD x2 :: t) = .ok (.int many) (DD x3 :: t) := e3
  obtain ⟨k, num, nk, e4, e5⟩ := loops (callN tbl (n + 2)) seed size many (DD x3 :: t) hs1 hs2 (by omega)
  have e6 := ok_drawn (n + 1) seed size many k (DD x3 :: t) _ hs1 (by omega) nk (e5 _)
  have f0 : [Sl.val (Val.ref 0), Sl.val (.int seed), .val (.int size), .val (.int many), .val (.int seed), .val (.lst []), .no, .no, .no, .no, .no, .no, .no, .no, .no, .no, .no, .no, .no, .no] = frL seed size many 0 := rfl
  have ll : (intL (dr size seed k).2).length = (dr size seed k).2.length := by unfold intL; rw [List.length_map]
  have sr : smallR (size : Int) = true := by
    unfold smallR
    rw [decide_eq_true (by omega), decide_eq_true (by omega)]
    rfl
  have sr0 : smallR 0 = true := by decide
  have rl : (rangeZ 0 (size : Int)).length = size := by unfold rangeZ; rw [List.length_map, List.length_range]; omega
  have rm : ∀ v ∈ rangeZ 0 (size : Int), ∃ j : Nat, j < size ∧ v = .int j := fun v hv => by
    obtain ⟨j, hj, e⟩ := List.mem_map.mp hv
    have hj := List.mem_range.mp hj
    exact ⟨j, by omega, by rw [← e, Int.zero_add]⟩
  obtain ⟨ts, x4, l4, e7⟩ := comp_dice (.n 7) (cIdx (cFrz (fLst (csC (cK (.str "ann")) (csC (cK (.str "bob")) (csC (cK (.str "cy")) (csC (cK (.str "")) cs0)))))) (cCall (callN tbl (n + 2)) 15 [] (csC (cV 0) (csC (cK (.int 4)) cs0)))) [(.val (.ref 0) : Sl), .val (.int seed), .val (.int size), .val (.int many), .val (.int ((dr size seed k).1 : Nat)), .val (.lst (intL (dr size seed k).2)), .no, .no, .no, .no, .no, .no, .no, .no, .no, .no, .no, .no, .no, .no] t (rangeZ 0 (size : Int))
    (fun v _ => ⟨_, rfl, fun x => by
      obtain ⟨r, x', a, b, e⟩ := ok_roll (n + 1) x t 4 (by decide) (by decide)
      obtain ⟨z, hz⟩ := four_at [] r a b
      exact ⟨z, x', by simp -implicitDefEqProofs [e, hz, big]⟩⟩) x3
  rw [rl] at l4
  obtain ⟨ps, x5, l5, e8⟩ := comp_dice (.n 7) (cIf (cCmp .gt (cCall (callN tbl (n + 2)) 15 [] (csC (cV 0) (csC (cK (.int 3)) cs0))) (cK (.int 0))) (cIdx (cV 6) (cV 7)) (cIdx (cFrz (fLst (csC (cK (.str "ann")) (csC (cK (.str "bob")) (csC (cK (.str "cy")) (csC (cK (.str "")) cs0)))))) (cCall (callN tbl (n + 2)) 15 [] (csC (cV 0) (csC (cK (.int 4)) cs0))))) [(.val (.ref 0) : Sl), .val (.int seed), .val (.int size), .val (.int many), .val (.int ((dr size seed k).1 : Nat)), .val (.lst (intL (dr size seed k).2)), .val (.lst (strL ts)), .no, .no, .no, .no, .no, .no, .no, .no, .no, .no, .no, .no, .no] t (rangeZ 0 (size : Int))
    (fun v hv => ⟨_, rfl, fun x => by
      obtain ⟨j, hj, ev⟩ := rm v hv
      subst ev
      obtain ⟨r, x', a, b, e⟩ := ok_roll (n + 1) x t 3 (by decide) (by decide)
      by_cases q : 0 < r
      · have g := str_at ts j (by omega)
        exact ⟨ts[j]'(by omega), x', by simp -implicitDefEqProofs [e, g, q]⟩
      · obtain ⟨r2, x2, a2, b2, e2⟩ := ok_roll (n + 1) x' t 4 (by decide) (by decide)
        obtain ⟨z, hz⟩ := four_at [] r2 a2 b2
        exact ⟨z, x2, by simp -implicitDefEqProofs [e, e2, hz, q, big]⟩⟩) x4
  rw [rl] at l5
  have l6 : ts.length ≤ 1000000 := by omega
  have l7 : ps.length ≤ 1000000 := by omega
  have e9 := compL_pure (.n 10) (some (cCmp .inn (cV 10) (cV 6))) (cTup (csC (cNeg (cCount (cV 6) (cV 10))) (csC (cV 10) cs0))) [(.val (.ref 0) : Sl), .val (.int seed), .val (.int size), .val (.int many), .val (.int ((dr size seed k).1 : Nat)), .val (.lst (intL (dr size seed k).2)), .val (.lst (strL ts)), .no, .val (.lst (strL ps)), .no, .no, .no, .no, .no, .no, .no, .no, .no, .no, .no] (DD x5 :: t) nv (fun a => decide (a ∈ ts)) (fun a => pv (-((ts.count a : Nat) : Int), a)) [0, 1, 2]
    (fun a _ => ⟨_, rfl, by simp [nm_mem], fun _ => by simp -implicitDefEqProofs [nm_cnt, pv, big]⟩)
  have rk : sorted ((([0, 1, 2] : List Nm).filter fun a => decide (a ∈ ts)).map fun a => pv (-((ts.count a : Nat) : Int), a)) = some ((rank ts).map pv) := by
    have l := List.length_filter_le (fun a : Nm => decide (a ∈ ts)) [0, 1, 2]
    have := sorted_map ((([0, 1, 2] : List Nm).filter fun a => decide (a ∈ ts)).map fun a => (-((ts.count a : Nat) : Int), a)) (by
      rw [List.length_map]
      exact Nat.le_trans l (by decide))
    rw [List.map_map, rank_eq] at this
    exact this
  have l8 : (([0, 1, 2] : List Nm).filter fun a => decide (a ∈ ts)).length ≤ 1000000 := Nat.le_trans (List.length_filter_le _ _) (by decide)
  have e9 : compL (.n 10) (some (cCmp .inn (cV 10) (cV 6))) (cTup (csC (cNeg (cCount (cV 6) (cV 10))) (csC (cV 10) cs0))) [(.val (.ref 0) : Sl), .val (.int seed), .val (.int size), .val (.int many), .val (.int ((dr size seed k).1 : Nat)), .val (.lst (intL (dr size seed k).2)), .val (.lst (strL ts)), .no, .val (.lst (strL ps)), .no, .no, .no, .no, .no, .no, .no, .no, .no, .no, .no] [.str "ann", .str "bob", .str "cy"] (DD x5 :: t) = _ := e9
  have e10 := ok_checked n (DD x5 :: t) ts ps (dr size seed k).2 (by omega) (by omega) (fun j hj => by
    have := (dr_ok size seed hs1 k).2 j hj
    omega)
  have sL : strL ts = ts.map nv := rfl
  match hr : rank ts with
  | [] =>
    rw [hr] at e10 rk
    refine ⟨x5, ?_⟩
    simp -implicitDefEqProofs [d__law_looks, e1, e2, hsi, e3, big, f0, e4]
    simp -implicitDefEqProofs [frL, e6, ne_intL, ll, p1__law_looks, p2__law_looks, p3__law_looks, sr, sr0, e7, e8, strL_len, l6, l7, e9, l8, rk, e10, big]
  | [f] =>
    rw [hr] at e10 rk
    refine ⟨x5, ?_⟩
    simp -implicitDefEqProofs [d__law_looks, e1, e2, hsi, e3, big, f0, e4]
    simp -implicitDefEqProofs [frL, e6, ne_intL, ll, p1__law_looks, p2__law_looks, p3__law_looks, sr, sr0, e7, e8, strL_len, l6, l7, e9, l8, rk, e10, big]
  | f :: s :: r =>
    rw [hr] at e10 rk
    have ne := rank_ne ts hr
    obtain ⟨m0, x6, r6, e11⟩ := ok_rollN (n + 1) x5 t 20 (by decide) (by decide)
    have e11 : callN tbl (n + 2) 15 [.ref 0, .int 20] (DD x5 :: t) = .ok (.int m0) (DD x6 :: t) := e11
    obtain ⟨t0, x7, r7, e12⟩ := ok_rollN (n + 1) x6 t 90 (by decide) (by decide)
    have e12 : callN tbl (n + 2) 15 [.ref 0, .int 90] (DD x6 :: t) = .ok (.int t0) (DD x7 :: t) := e12
    have sm : smallZ (1 + (m0 : Int)) = true := by
      have := small_nat (m0 + 1) (by omega)
      rwa [show ((m0 + 1 : Nat) : Int) = 1 + (m0 : Int) by omega] at this
    have st : smallZ (1 + (t0 : Int)) = true := by
      have := small_nat (t0 + 1) (by omega)
      rwa [show ((t0 + 1 : Nat) : Int) = 1 + (t0 : Int) by omega] at this
    have s9 : smallZ 9 = true := by decide
    have s5 : smallZ 5 = true := by decide
    have s2 : smallZ 2 = true := by decide
    have mm (h : Hv) (a : Nm) := ok_margin (n + 1) h a f.2 s.2 []
    obtain ⟨f3, h3, e13, i3⟩ := forL_inv' (.n 7) (b2__law_looks (callN tbl (n + 2))) (fun (j : Nat) => .int j) (ovr ts ps f.2 s.2) (fun z fr h' => h' = DD x5 :: t ∧ ∃ a b c, fr = [(.val (.ref 0) : Sl), .val (.int seed), .val (.int size), .val (.int many), .val (.int ((dr size seed k).1 : Nat)), .val (.lst (intL (dr size seed k).2)), .val (.lst (strL ts)), a, .val (.lst (strL ps)), .val (.lst (pv f :: pv s :: r.map pv)), .no, .val (nv f.2), .val (nv s.2), .val (.int z.1), .val (.int z.2), b, c, .no, .no, .no]) (dr size seed k).2
      (fun z j fr h' hj ⟨hh, a, b, c, hf⟩ => by
        subst hh; subst hf
        have jj := (dr_ok size seed hs1 k).2 j hj
        refine ⟨_, rfl, _, DD x5 :: t, ?_, rfl, .val (.int j), .val (.int (mg (ts[j]?.getD 0) f.2 s.2)), .val (.int (mg (ps[j]?.getD 0) f.2 s.2)), rfl⟩
        have t1 := at_opt ts j (by omega)
        have t2 := at_opt ps j (by omega)
        obtain ⟨a1, g1⟩ : ∃ a1 : Nm, ts[j]?.getD 0 = a1 := ⟨_, rfl⟩
        obtain ⟨a2, g2⟩ : ∃ a2 : Nm, ps[j]?.getD 0 = a2 := ⟨_, rfl⟩
        rw [g1] at t1
        rw [g2] at t2
        have w1 := (mg_eq a1 f.2 s.2 ne).symm
        have w2 := (mg_eq a2 f.2 s.2 ne).symm
        unfold b2z at w1 w2
        simp -implicitDefEqProofs [b2__law_looks, p4__law_looks, compL_cons, t1, t2, nv_eq, b2z, big, ovr, g1, g2]
        simp only [decide_eq_true_eq] at w1 w2
        simp -implicitDefEqProofs [w1, w2]
        split <;> split <;> omega)
      (0, 0) [(.val (.ref 0) : Sl), .val (.int seed), .val (.int size), .val (.int many), .val (.int ((dr size seed k).1 : Nat)), .val (.lst (intL (dr size seed k).2)), .val (.lst (strL ts)), .no, .val (.lst (strL ps)), .val (.lst (pv f :: pv s :: r.map pv)), .no, .val (nv f.2), .val (nv s.2), .val (.int 0), .val (.int 0), .no, .no, .no, .no, .no] (DD x5 :: t) ⟨rfl, _, _, _, rfl⟩
    obtain ⟨hh, a, b, c, rfl⟩ := i3
    rw [hh] at e13
    clear hh h3
    have e13 : forL (.n 7) (b2__law_looks (callN tbl (n + 2))) (intL (dr size seed k).2) _ (DD x5 :: t) = _ := e13
    have on := ovr_nonneg ts ps f.2 s.2 (dr size seed k).2 (0, 0) (by decide)
    have e14 := ok_enough (n + 1) (DD x7 :: t) (1 + m0) (1 + t0) ((many : Int) * 9) _ (by omega) (by omega) (by omega) on sm st
    refine ⟨x7, ?_⟩
    simp -implicitDefEqProofs [d__law_looks, e1, e2, hsi, e3, big, f0, e4]
    simp -implicitDefEqProofs [frL, e6, ne_intL, ll, p1__law_looks, p2__law_looks, p3__law_looks, sr, sr0, e7, e8, strL_len, l6, l7, e9, l8, rk, e10, big]
    have lt2 : ¬ ((r.length : Int) + 1 + 1 < 2) := by omega
    have pi (h : Hv) (p : Pr) : opIdx h (pv p) (.int 1) = some (nv p.2) := rfl
    have nt (h : Hv) (a b : Int) : opCmp h .ne (.tup [.int a, .int b]) (.tup [.int a, .int b]) = some false := by
      simp [opCmp, eqV, derefV, Val.data, datas, Val.dep, deps, Val.eqv, eqvs]
    dsimp only at e10
    generalize (dr size seed k).2.foldl (ovr ts ps f.2 s.2) (0, 0) = Z at *
    have e15 := compL_pure (.n 10) none (cCall (callN tbl (n + 2)) 12 [] (csC (cV 10) (csC (cFrz (fLst (csC (cV 11) (csC (cV 12) cs0)))) cs0))) [(.val (.ref 0) : Sl), .val (.int seed), .val (.int size), .val (.int many), .val (.int ((dr size seed k).1 : Nat)), .val (.lst (intL (dr size seed k).2)), .val (.lst (strL ts)), a, .val (.lst (strL ps)), .val (.lst (pv f :: pv s :: r.map pv)), .no, .val (nv f.2), .val (nv s.2), .val (.int Z.1), .val (.int Z.2), b, c, .no, .no, .no] (DD x5 :: t) nv (fun _ => true) (fun a => .int (mg a f.2 s.2)) [0, 1, 2, 3]
      (fun a _ => ⟨_, rfl, rfl, fun _ => by
        have := mm (DD x5 :: t) a
        simp -implicitDefEqProofs [big]
        exact this⟩)
    have e16 := compL_pure (.n 10) none (cBin .sub (cInt (cCmp .eq (cV 10) (cV 11))) (cInt (cCmp .eq (cV 10) (cV 12)))) [(.val (.ref 0) : Sl), .val (.int seed), .val (.int size), .val (.int many), .val (.int ((dr size seed k).1 : Nat)), .val (.lst (intL (dr size seed k).2)), .val (.lst (strL ts)), a, .val (.lst (strL ps)), .val (.lst (pv f :: pv s :: r.map pv)), .no, .val (nv f.2), .val (nv s.2), .val (.int Z.1), .val (.int Z.2), b, c, .no, .no, .no] (DD x5 :: t) nv (fun _ => true) (fun a => .int (mg a f.2 s.2)) [0, 1, 2, 3]
      (fun a _ => ⟨_, rfl, rfl, fun _ => by
        simp -implicitDefEqProofs [nv_eq, mg_eq a f.2 s.2 ne]⟩)
    rw [List.filter_eq_self.mpr (fun _ _ => rfl)] at e15 e16
    have e15 : compL _ _ _ _ [.str "ann", .str "bob", .str "cy", .str ""] (DD x5 :: t) = _ := e15
    have e16 : compL _ _ _ _ [.str "ann", .str "bob", .str "cy", .str ""] (DD x5 :: t) = _ := e16
    have e17 := ne_self (fun a => .int (mg a f.2 s.2)) (fun x => by simp [Val.eqv]) (fun x => by simp [Val.data]) (fun x => by simp [Val.dep]) (DD x5 :: t) [0, 1, 2, 3]
    simp only [List.map_cons, List.map_nil] at e15 e16 e17
    simp -implicitDefEqProofs [lt2, pi, atI, e13, e10, nt, p5__law_looks, p6__law_looks, e15, e16, e17, big, e11, e12, e14, s9, s5, s2, sm, st]
end K07

set_option maxRecDepth 100000
set_option maxHeartbeats 4000000
namespace K07
open Pk PySem
def isT : Res Val → Bool
  | .ok (.bl b) _ => b
  | _ => false
theorem isT_ok {r : Res Val} (h : isT r = true) : ∃ h', r = .ok (.bl true) h' := by
  match r, h with
  | .ok (.bl true) h', _ => exact ⟨h', rfl⟩
theorem plain0 (o0 o1 o2 o3 : Ob) : isT (callN tbl 11 19 [] [o0, o1, o2, o3]) = true := by kernel_rfl
end K07

set_option maxRecDepth 10000
set_option maxHeartbeats 4000000
namespace K07
open Pk PySem
def tl (O : Orc) : CS := (sSeq (sSet 16 (cFrz (p5_law O)))
  (sSeq (sIf (cOr (cCmp .ne (cFld (cV 5) 3) (cV 6)) (cCmp .ne (cMeth O 0 7 [] (cV 5) cs0) (cTup (csC (cIdx (cV 16) (cK (.int 0))) (csC (cIdx (cV 16) (cK (.int 1))) (csC (cIdx (cV 16) (cK (.int 2))) (csC (cBin .sub (cBin .sub (cIdx (cV 16) (cK (.int 0))) (cIdx (cV 16) (cK (.int 1)))) (cIdx (cV 16) (cK (.int 2)))) cs0)))))))
  (sRet (cK (.bl false)))
  sPass)
  (sSeq (sIf (cOr (cCmp .ne (cMeth O 0 2 [] (cV 5) cs0) (cBin .sub (cV 3) (cIdx (cV 16) (cK (.int 0))))) (cCmp .ne (cFld (cV 5) 4) (cV 7)))
  (sRet (cK (.bl false)))
  sPass)
  (sSeq (sIf (cCmp .ne (cFrz (p6_law O)) (cFrz (p8_law O)))
  (sRet (cK (.bl false)))
  sPass)
  (sSeq (sIf (cCmp .ne (cMeth O 0 9 [] (cV 5) cs0) (cBin .fdiv (cBin .mul (cIdx (cV 16) (cK (.int 2))) (cK (.int 10000))) (cLen (cV 2))))
  (sRet (cK (.bl false)))
  sPass)
  (sSeq (sPar [.v 19 (cBin .sub (cBin .add (cIdx (cV 16) (cK (.int 2))) (cCall O 15 [] (csC (cV 1) (csC (cK (.int 3)) cs0)))) (cK (.int 1))), .v 20 (cBin .sub (cBin .add (cBin .sub (cV 3) (cIdx (cV 16) (cK (.int 0)))) (cCall O 15 [] (csC (cV 1) (csC (cK (.int 3)) cs0)))) (cK (.int 1)))])
  (sSeq (sSet 21 (cBin .add (cBin .add (cBin .mul (cFrz (fLst (csC (cBin .add (cK (.str "ballots ")) (cStr (cBin .sub (cV 19) (cIdx (cV 16) (cK (.int 2)))))) cs0))) (cInt (cCmp .ne (cV 19) (cIdx (cV 16) (cK (.int 2)))))) (cBin .mul (cFrz (fLst (csC (cBin .add (cK (.str "blanks ")) (cStr (cBin .add (cBin .sub (cV 20) (cV 3)) (cIdx (cV 16) (cK (.int 0)))))) cs0))) (cInt (cCmp .ne (cV 20) (cBin .sub (cV 3) (cIdx (cV 16) (cK (.int 0)))))))) (cBin .mul (cFrz (fLst (csC (cK (.str "open")) cs0))) (cInt (cV 7)))))
  (sIf (cCmp .ne (cFrz (fLstO (cMeth O 0 8 [] (cV 5) (csC (cV 19) (csC (cV 20) cs0))))) (cV 21))
  (sRet (cK (.bl false)))
  sPass))))))))
def ifp (O : Orc) : CS := (sIf (cAnd (cCmp .eq (cV 10) (cK (.int 7))) (cCmp .eq (cCall O 15 [] (csC (cV 1) (csC (cK (.int 3)) cs0))) (cK (.int 0))))
  (sSeq (sIf (cCmp .eq (cCmp .eq (cTold [1] (.str "StationError") (cMeth O 0 6 [] (cV 5) cs0)) (cK (.str "StationError"))) (cV 7))
  (sRet (cK (.bl false)))
  sPass)
  (sSet 7 (cK (.bl false))))
  (sIf (cCmp .lt (cV 10) (cK (.int 3)))
  (sSeq (sSet 15 (cAnd (cCmp .ne (cV 9) (cK (.str "z"))) (cAnd (cCmp .inn (cV 11) (cFrz (fLst (csC (cK (.str "")) (csC (cK (.str "spoiled")) cs0))))) (cAnd (cCmp .lt (cV 14) (cV 3)) (cV 7)))))
  (sSeq (sIf (cCmp .eq (cCmp .eq (cTold [1] (.str "StationError") (cMeth O 0 3 [] (cV 5) (csC (cV 9) cs0))) (cK (.str "StationError"))) (cV 15))
  (sRet (cK (.bl false)))
  sPass)
  (sSet 6 (cBin .add (cV 6) (cBin .mul (cFrz (fLst (csC (cTup (csC (cV 9) (csC (cK (.str "given")) cs0))) cs0))) (cInt (cV 15)))))))
  (sSeq (sSet 15 (cAnd (cCmp .ne (cV 9) (cK (.str "z"))) (cAnd (cCmp .eq (cV 11) (cK (.str "given"))) (cOr (cCmp .eq (cV 10) (cK (.int 3))) (cV 7)))))
  (sSeq (sIf (cCmp .eq (cCmp .eq (cTold [1] (.str "StationError") (cIf (cCmp .eq (cV 10) (cK (.int 3))) (cMeth O 0 4 [] (cV 5) (csC (cV 9) cs0)) (cMeth O 0 5 [] (cV 5) (csC (cV 9) cs0)))) (cK (.str "StationError"))) (cV 15))
  (sRet (cK (.bl false)))
  sPass)
  (sSet 6 (cBin .add (cV 6) (cBin .mul (cFrz (fLst (csC (cTup (csC (cV 9) (csC (cIf (cCmp .eq (cV 10) (cK (.int 3))) (cK (.str "spoiled")) (cK (.str "put"))) cs0))) cs0))) (cInt (cV 15)))))))))
theorem b1_split (O : Orc) : b1_law O = (sSeq (sPar [.v 9 (cIdx (cBin .add (cV 2) (cFrz (fLst (csC (cK (.str "z")) cs0)))) (cCall O 15 [] (csC (cV 1) (csC (cBin .add (cLen (cV 2)) (cK (.int 1))) cs0)))), .v 10 (cCall O 15 [] (csC (cV 1) (csC (cK (.int 8)) cs0)))])
  (sSeq (sSet 11 (cIdx (cBin .add (cFrz (fLst (csC (cK (.str "")) cs0))) (cFrz (p2_law O))) (cNeg (cK (.int 1)))))
  (sSeq (sSet 14 (cLen (cFrz (p3_law O))))
  (sSeq (ifp O) (tl O))))) := rfl
/-- a loop by its count -/
theorem forL_count (tg : Tg) (b : CS) (Inv : Nat → Fr → Hv → Prop) (N : Nat) : ∀ (xs : List Val) (s : Nat), s + xs.length ≤ N →
    (∀ s v fr h, s < N → v ∈ xs → Inv s fr h → ∃ f1, tg.bind v fr = some f1 ∧ ∃ f2 h2, b f1 h = .ok (.nx f2) h2 ∧ Inv (s + 1) f2 h2) → ∀ (fr : Fr) (h : Hv), Inv s fr h → ∃ f2 h2, forL tg b xs fr h = .ok (.nx f2) h2 ∧ Inv (s + xs.length) f2 h2
  | [], s, _, _, fr, h, i => ⟨fr, h, rfl, i⟩
  | x :: xs, s, hN, hb, fr, h, i => by
    rw [List.length_cons] at hN
    obtain ⟨f1, e1, f2, h2, e2, i2⟩ := hb s x fr h (by omega) List.mem_cons_self i
    obtain ⟨f3, h3, e3, i3⟩ := forL_count tg b Inv N xs (s + 1) (by omega) (fun s y fr h hs hy => hb s y fr h hs (List.mem_cons_of_mem _ hy)) f2 h2 i2
    refine ⟨f3, h3, ?_, ?_⟩
    · rw [forL_cons, e1]
      show (b f1 h).bind _ = _
      rw [e2]
      exact e3
    · rw [List.length_cons, show s + (xs.length + 1) = s + 1 + xs.length by omega]
      exact i3
def vstrs (k : Nat) : List Val := (voters k).map .str
/-- a voter drawn, or the stranger -/
theorem voter_at (k j : Nat) (hj : j ≤ (voters k).length) : ∃ v : Str, atI (vstrs k ++ [.str "z"]) (j : Int) = some (.str v) ∧ keyOk (vdOf k) (.str v) = true ∧ (dget (vdOf k) (.str v)).isSome = !decide (v = "z") := by
  rw [atI_nat]
  match k, j, hj with
  | 0, 0, _ => exact ⟨"v0", rfl, by decide, by decide⟩
  | 0, 1, _ => exact ⟨"z", rfl, by decide, by decide⟩
  | 1, 0, _ => exact ⟨"v0", rfl, by decide, by decide⟩
  | 1, 1, _ => exact ⟨"v1", rfl, by decide, by decide⟩
  | 1, 2, _ => exact ⟨"z", rfl, by decide, by decide⟩
  | 2, 0, _ => exact ⟨"v0", rfl, by decide, by decide⟩
  | 2, 1, _ => exact ⟨"v1", rfl, by decide, by decide⟩
  | 2, 2, _ => exact ⟨"v2", rfl, by decide, by decide⟩
  | 2, 3, _ => exact ⟨"z", rfl, by decide, by decide⟩
  | 3, 0, _ => exact ⟨"v0", rfl, by decide, by decide⟩
  | 3, 1, _ => exact ⟨"v1", rfl, by decide, by decide⟩
  | 3, 2, _ => exact ⟨"v2", rfl, by decide, by decide⟩
  | 3, 3, _ => exact ⟨"v3", rfl, by decide, by decide⟩
  | 3, 4, _ => exact ⟨"z", rfl, by decide, by decide⟩
  | k + 4, 0, _ => exact ⟨"v0", rfl, (by decide : keyOk (vdOf 4) (.str "v0") = true), (by decide : (dget (vdOf 4) (.str "v0")).isSome = !decide (("v0" : Str) = "z"))⟩
  | k + 4, 1, _ => exact ⟨"v1", rfl, (by decide : keyOk (vdOf 4) (.str "v1") = true), (by decide : (dget (vdOf 4) (.str "v1")).isSome = !decide (("v1" : Str) = "z"))⟩
  | k + 4, 2, _ => exact ⟨"v2", rfl, (by decide : keyOk (vdOf 4) (.str "v2") = true), (by decide : (dget (vdOf 4) (.str "v2")).isSome = !decide (("v2" : Str) = "z"))⟩
  | k + 4, 3, _ => exact ⟨"v3", rfl, (by decide : keyOk (vdOf 4) (.str "v3") = true), (by decide : (dget (vdOf 4) (.str "v3")).isSome = !decide (("v3" : Str) = "z"))⟩
  | k + 4, 4, _ => exact ⟨"v4", rfl, (by decide : keyOk (vdOf 4) (.str "v4") = true), (by decide : (dget (vdOf 4) (.str "v4")).isSome = !decide (("v4" : Str) = "z"))⟩
  | k + 4, 5, _ => exact ⟨"z", rfl, (by decide : keyOk (vdOf 4) (.str "z") = true), (by decide : (dget (vdOf 4) (.str "z")).isSome = !decide (("z" : Str) = "z"))⟩
theorem voter_ok (k : Nat) : ∀ v ∈ voters k, keyOk (vdOf k) (.str v) = true ∧ (dget (vdOf k) (.str v)).isSome = true := by
  match k with
  | 0 => decide
  | 1 => decide
  | 2 => decide
  | 3 => decide
  | k + 4 =>
    have : ∀ v ∈ (["v0", "v1", "v2", "v3", "v4"] : List Str), keyOk ((["v0", "v1", "v2", "v3", "v4"] : List Str).map fun v => (.str v, .bl true)) (.str v) = true ∧ (dget ((["v0", "v1", "v2", "v3", "v4"] : List Str).map fun v => (.str v, .bl true)) (.str v)).isSome = true := by decide
    exact this
theorem atI_last (a : Val) (xs : List Val) : atI (a :: xs) (-1) = some ((a :: xs).getLast (List.cons_ne_nil _ _)) := by
  have e : (-1 : Int) + ((a :: xs).length : Int) = ((xs.length : Nat) : Int) := by rw [List.length_cons]; omega
  unfold atI
  rw [if_neg (by decide), e, if_pos (Int.natCast_nonneg _), Int.toNat_natCast, List.getLast_eq_getElem, List.getElem?_eq_getElem (by rw [List.length_cons]; omega)]
  congr 1
theorem last_getLast (v : Str) : ∀ (rows : List Row) (f : Str), ((.str f : Val) :: (rows.filter fun r => decide (r.1 = v)).map fun r => Val.str r.2).getLast (List.cons_ne_nil _ _) = .str (rows.foldl (fun f r => if r.1 = v then r.2 else f) f)
  | [], f => rfl
  | r :: rows, f => by
    rw [List.foldl_cons]
    by_cases q : r.1 = v
    · rw [if_pos q]
      have e : ((r :: rows).filter fun r => decide (r.1 = v)) = r :: rows.filter fun r => decide (r.1 = v) := List.filter_cons_of_pos (by simp [q])
      simp only [e, List.map_cons]
      rw [List.getLast_cons_cons]
      exact last_getLast v rows r.2
    · rw [if_neg q]
      have e : ((r :: rows).filter fun r => decide (r.1 = v)) = rows.filter fun r => decide (r.1 = v) := List.filter_cons_of_neg (by simp [q])
      simp only [e]
      exact last_getLast v rows f
theorem last_at (v : Str) (rows : List Row) : atI (.str "" :: (rows.filter fun r => decide (r.1 = v)).map fun r => Val.str r.2) (-1) = some (.str (last rows v)) := by
  rw [atI_last]
  congr 1
  exact last_getLast v rows ""
theorem ne_rows (x bl vd) (rows : List Row) (op : Bool) : opCmp (HS x bl vd rows op) .ne (.ref 3) (.lst (rows.map rowV)) = some false := by
  have := ne_self rowV (fun r => by simp [rowV, Val.eqv, eqvs]) (fun r => by simp [rowV, Val.data, datas]) (fun r => by simp [rowV, Val.dep, deps]) (HS x bl vd rows op) rows
  exact this
end K07

set_option maxRecDepth 10000
set_option maxHeartbeats 4000000
namespace K07
open Pk PySem
def dueC (O : Orc) : C := (cBin .add (cBin .add (cBin .mul (cFrz (fLst (csC (cBin .add (cK (.str "ballots ")) (cStr (cBin .sub (cV 19) (cIdx (cV 16) (cK (.int 2)))))) cs0))) (cInt (cCmp .ne (cV 19) (cIdx (cV 16) (cK (.int 2)))))) (cBin .mul (cFrz (fLst (csC (cBin .add (cK (.str "blanks ")) (cStr (cBin .add (cBin .sub (cV 20) (cV 3)) (cIdx (cV 16) (cK (.int 0)))))) cs0))) (cInt (cCmp .ne (cV 20) (cBin .sub (cV 3) (cIdx (cV 16) (cK (.int 0)))))))) (cBin .mul (cFrz (fLst (csC (cK (.str "open")) cs0))) (cInt (cV 7))))
def tl2 (O : Orc) : CS := (sSeq (sSet 21 (dueC O))
  (sIf (cCmp .ne (cFrz (fLstO (cMeth O 0 8 [] (cV 5) (csC (cV 19) (csC (cV 20) cs0))))) (cV 21))
  (sRet (cK (.bl false)))
  sPass))
theorem tl_split (O : Orc) : tl O = (sSeq (sSet 16 (cFrz (p5_law O)))
  (sSeq (sIf (cOr (cCmp .ne (cFld (cV 5) 3) (cV 6)) (cCmp .ne (cMeth O 0 7 [] (cV 5) cs0) (cTup (csC (cIdx (cV 16) (cK (.int 0))) (csC (cIdx (cV 16) (cK (.int 1))) (csC (cIdx (cV 16) (cK (.int 2))) (csC (cBin .sub (cBin .sub (cIdx (cV 16) (cK (.int 0))) (cIdx (cV 16) (cK (.int 1)))) (cIdx (cV 16) (cK (.int 2)))) cs0)))))))
  (sRet (cK (.bl false)))
  sPass)
  (sSeq (sIf (cOr (cCmp .ne (cMeth O 0 2 [] (cV 5) cs0) (cBin .sub (cV 3) (cIdx (cV 16) (cK (.int 0))))) (cCmp .ne (cFld (cV 5) 4) (cV 7)))
  (sRet (cK (.bl false)))
  sPass)
  (sSeq (sIf (cCmp .ne (cFrz (p6_law O)) (cFrz (p8_law O)))
  (sRet (cK (.bl false)))
  sPass)
  (sSeq (sIf (cCmp .ne (cMeth O 0 9 [] (cV 5) cs0) (cBin .fdiv (cBin .mul (cIdx (cV 16) (cK (.int 2))) (cK (.int 10000))) (cLen (cV 2))))
  (sRet (cK (.bl false)))
  sPass)
  (sSeq (sPar [.v 19 (cBin .sub (cBin .add (cIdx (cV 16) (cK (.int 2))) (cCall O 15 [] (csC (cV 1) (csC (cK (.int 3)) cs0)))) (cK (.int 1))), .v 20 (cBin .sub (cBin .add (cBin .sub (cV 3) (cIdx (cV 16) (cK (.int 0)))) (cCall O 15 [] (csC (cV 1) (csC (cK (.int 3)) cs0)))) (cK (.int 1)))])
  (tl2 O))))))) := rfl
theorem due_eq (h : Hv) (i j : Int) (op : Bool) (hi : i = -1 ∨ i = 0 ∨ i = 1) (hj : j = -1 ∨ j = 0 ∨ j = 1) :
    opCmp h .ne (.lst (fl1 "ballots " i ++ fl1 "blanks " j ++ if op = true then [.str "open"] else [])) (.lst (fl1 "ballots " i ++ fl1 "blanks " j ++ if op = true then [.str "open"] else [])) = some false := by
  rcases hi with hi | hi | hi <;> rcases hj with hj | hj | hj <;> subst hi <;> subst hj <;> cases op <;> simp [fl1, opCmp, eqV, derefV, Val.data, datas, Val.dep, deps, Val.eqv, eqvs]
theorem fl1_len (w : Str) (i : Int) : (fl1 w i).length ≤ 1 := by unfold fl1; split <;> simp
theorem one_due (w : Str) (i : Int) (fr : Fr) (h : Hv) (hi : i = -1 ∨ i = 0 ∨ i = 1) (e1 : (w ++ strZ 1).length ≤ 1000000) (e2 : (w ++ strZ (-1)).length ≤ 1000000) (hw : w.length ≤ 100) (X Y : C) (hX : X fr h = .ok (.int i) h) (hY : Y fr h = .ok (.bl (!decide (i = 0))) h) :
    cBin .mul (cFrz (fLst (csC (cBin .add (cK (.str w)) (cStr X)) cs0))) (cInt Y) fr h = .ok (.lst (fl1 w i)) h := by
  have l3 : Nat.log2 1 < 1920 := by decide
  have l0 : Nat.log2 0 < 1920 := by decide
  have s0 : (strZ 0).length = 1 := by decide +kernel
  have s1 : (strZ 1).length = 1 := by decide +kernel
  have s2 : (strZ (-1)).length = 2 := by decide +kernel
  have w1 : w.length ≤ 999999 := by omega
  have w2 : w.length ≤ 999998 := by omega
  rcases hi with hi | hi | hi <;> subst hi <;> simp -implicitDefEqProofs [hX, hY, l3, l0, big, b2z, repL, fl1, s0, s1, s2, w1, w2]
theorem ok_tail (x : Int × Int × Int) (k : Nat) (bl : Int) (rows : List Row) (op : Bool) (hl : rows.length ≤ 1000) (a8 a9 a10 a11 a14 a15 a16 a19 a20 a21 : Sl) :
    ∃ (x' : Int × Int × Int) (b16 b19 b20 b21 : Sl), tl (callN tbl 11) [(.no : Sl), .val (.ref 0), .val (.lst (vstrs k)), .val (.int bl), .no, .val (.ref 1), .val (.lst (rows.map rowV)), .val (.bl op), a8, a9, a10, a11, .no, .no, a14, a15, a16, .no, .no, a19, a20, a21] (HS x bl (vdOf k) rows op) = .ok (.nx [(.no : Sl), .val (.ref 0), .val (.lst (vstrs k)), .val (.int bl), .no, .val (.ref 1), .val (.lst (rows.map rowV)), .val (.bl op), a8, a9, a10, a11, .no, .no, a14, a15, b16, .no, .no, b19, b20, b21]) (HS x' bl (vdOf k) rows op) := by
  have l2 (w : Str) : (rows.filter fun r : Row => decide (r.2 = w)).length ≤ 1000000 := by
    have l := List.length_filter_le (fun r : Row => decide (r.2 = w)) rows
    omega
  have c1 (w : Str) := compL_pure (.t [12, 13]) (some (cCmp .eq (cV 13) (cV 17))) (cK (.int 1)) [(.no : Sl), .val (.ref 0), .val (.lst (vstrs k)), .val (.int bl), .no, .val (.ref 1), .val (.lst (rows.map rowV)), .val (.bl op), a8, a9, a10, a11, .no, .no, a14, a15, a16, .val (.str w), .no, a19, a20, a21] (HS x bl (vdOf k) rows op) rowV (fun r => decide (r.2 = w)) (fun _ => .int 1) rows
    (fun r _ => ⟨_, rfl, by simp, fun _ => rfl⟩)
  have e1 := ok_deeds 10 x bl (vdOf k) rows op hl
  have e2 := ok_blanks 10 x bl (vdOf k) rows op hl
  have lv : (voters k).length ≤ 5 := by unfold voters; split <;> simp
  have lv2 : (voters k).length ≤ 1000000 := by omega
  have c2 := compL_pure (.n 12) none (cMeth (callN tbl 11) 0 1 [] (cV 5) (csC (cV 12) cs0)) [(.no : Sl), .val (.ref 0), .val (.lst (vstrs k)), .val (.int bl), .no, .val (.ref 1), .val (.lst (rows.map rowV)), .val (.bl op), a8, a9, a10, a11, .no, .no, a14, a15, .val (.lst [.int (cnt rows "given" : Nat), .int (cnt rows "spoiled" : Nat), .int (cnt rows "put" : Nat)]), .no, .no, a19, a20, a21] (HS x bl (vdOf k) rows op) Val.str (fun _ => true) (fun v => .str (last rows v)) (voters k)
    (fun v hv => ⟨_, rfl, rfl, fun _ => by
      obtain ⟨v1, v2⟩ := voter_ok k v hv
      have := ok_state 10 x bl (vdOf k) rows op v v1
      rw [if_pos v2] at this
      simp -implicitDefEqProofs [insS, this]⟩)
  have c3 (v : Str) := compL_pure (.t [18, 13]) (some (cCmp .eq (cV 18) (cV 12))) (cV 13) [(.no : Sl), .val (.ref 0), .val (.lst (vstrs k)), .val (.int bl), .no, .val (.ref 1), .val (.lst (rows.map rowV)), .val (.bl op), a8, a9, a10, a11, .val (.str v), .no, a14, a15, .val (.lst [.int (cnt rows "given" : Nat), .int (cnt rows "spoiled" : Nat), .int (cnt rows "put" : Nat)]), .no, .no, a19, a20, a21] (HS x bl (vdOf k) rows op) rowV (fun r => decide (r.1 = v)) (fun r => Val.str r.2) rows
    (fun r _ => ⟨_, rfl, by simp, fun _ => rfl⟩)
  have l3 (v : Str) : (rows.filter fun r : Row => decide (r.1 = v)).length ≤ 999999 := by
    have l := List.length_filter_le (fun r : Row => decide (r.1 = v)) rows
    omega
  have l5 (v : Str) : 1 + (rows.filter fun r : Row => decide (r.1 = v)).length ≤ 1000000 := by
    have l := l3 v
    omega
  have lc (w : Str) : (rows.filter fun r : Row => decide (r.2 = w)).length = cnt rows w := rfl
  have l2c (w : Str) : cnt rows w ≤ 1000000 := l2 w
  have l4 (v : Str) : (rows.filter fun r : Row => decide (r.1 = v)).length ≤ 1000000 := by
    have l := l3 v
    omega
  have c4 := compL_pure (.n 12) none (cIdx (cBin .add (cFrz (fLst (csC (cK (.str "")) cs0))) (cFrz (p7_law (callN tbl 11)))) (cNeg (cK (.int 1)))) [(.no : Sl), .val (.ref 0), .val (.lst (vstrs k)), .val (.int bl), .no, .val (.ref 1), .val (.lst (rows.map rowV)), .val (.bl op), a8, a9, a10, a11, .no, .no, a14, a15, .val (.lst [.int (cnt rows "given" : Nat), .int (cnt rows "spoiled" : Nat), .int (cnt rows "put" : Nat)]), .no, .no, a19, a20, a21] (HS x bl (vdOf k) rows op) Val.str (fun _ => true) (fun v => .str (last rows v)) (voters k)
    (fun v hv => ⟨_, rfl, rfl, fun _ => by
      simp -implicitDefEqProofs [p7_law, c3, l4, l5, big, last_at]⟩)
  rw [List.filter_eq_self.mpr (fun _ _ => rfl)] at c2 c4
  have e3 := ok_turnout 9 x bl k rows op hl
  have d1 : ¬ (((voters k).length : Int) = 0) := by
    have : 0 < (voters k).length := by unfold voters; split <;> simp
    omega
  have d2 := small5 lv
  have e4 := ne_self (fun v : Str => Val.str (last rows v)) (fun x => by simp [Val.eqv]) (fun x => by simp [Val.data]) (fun x => by simp [Val.dep]) (HS x bl (vdOf k) rows op) (voters k)
  have sm : smallZ 10000 = true := by decide
  obtain ⟨r1, x1, p1, q1, g1⟩ := ok_roll 10 x ((HS x bl (vdOf k) rows op).tail) 3 (by decide) (by decide)
  obtain ⟨r2, x2, p2, q2, g2⟩ := ok_roll 10 x1 ((HS x bl (vdOf k) rows op).tail) 3 (by decide) (by decide)
  have g1 : callN tbl 11 15 [.ref 0, .int 3] (HS x bl (vdOf k) rows op) = .ok (.int r1) (HS x1 bl (vdOf k) rows op) := g1
  have g2 : callN tbl 11 15 [.ref 0, .int 3] (HS x1 bl (vdOf k) rows op) = .ok (.int r2) (HS x2 bl (vdOf k) rows op) := g2
  obtain ⟨i, hi⟩ : ∃ i : Int, i = r1 - 1 := ⟨_, rfl⟩
  obtain ⟨j, hj⟩ : ∃ j : Int, j = r2 - 1 := ⟨_, rfl⟩
  have hc : ((cnt rows "put" : Nat) : Int) + r1 - 1 = (cnt rows "put" : Nat) + i := by omega
  have hd : bl - ((cnt rows "given" : Nat) : Int) + r2 - 1 = bl - (cnt rows "given" : Nat) + j := by omega
  have e5 := ok_faults 9 x2 bl (vdOf k) rows op i j (by omega) (by omega) hl
  have nt (h : Hv) (a b c d : Int) : opCmp h .ne (.tup [.int a, .int b, .int c, .int d]) (.tup [.int a, .int b, .int c, .int d]) = some false := by
    simp [opCmp, eqV, derefV, Val.data, datas, Val.dep, deps, Val.eqv, eqvs]
  refine ⟨x2, .val (.lst [.int (cnt rows "given" : Nat), .int (cnt rows "spoiled" : Nat), .int (cnt rows "put" : Nat)]), .val (.int ((cnt rows "put" : Nat) + i)), .val (.int (bl - (cnt rows "given" : Nat) + j)), .val (.lst (fl1 "ballots " i ++ fl1 "blanks " j ++ if op = true then [.str "open"] else [])), ?_⟩
  have vl : (vstrs k).length = (voters k).length := by unfold vstrs; rw [List.length_map]
  have c2 : compL _ _ _ _ (vstrs k) _ = _ := c2
  have c4 : compL _ _ _ _ (vstrs k) _ = _ := c4
  rw [tl_split]
  have n1 := ne_rows x bl (vdOf k) rows op
  have i3 : i = -1 ∨ i = 0 ∨ i = 1 := by omega
  have j3 : j = -1 ∨ j = 0 ∨ j = 1 := by omega
  have de := due_eq (HS x2 bl (vdOf k) rows op) i j op i3 j3
  rw [List.append_assoc] at de
  have ed (f : Fr) (h : Hv) (h3 : f[3]? = some (.val (.int bl))) (h7 : f[7]? = some (.val (.bl op))) (h16 : f[16]? = some (.val (.lst [.int (cnt rows "given" : Nat), .int (cnt rows "spoiled" : Nat), .int (cnt rows "put" : Nat)]))) (h19 : f[19]? = some (.val (.int ((cnt rows "put" : Nat) + i)))) (h20 : f[20]? = some (.val (.int (bl - (cnt rows "given" : Nat) + j)))) :
      dueC (callN tbl 11) f h = .ok (.lst (fl1 "ballots " i ++ fl1 "blanks " j ++ if op = true then [.str "open"] else [])) h := by
    have k1 : ((cnt rows "put" : Nat) : Int) + i - (cnt rows "put" : Nat) = i := by omega
    have k2 : bl - ((cnt rows "given" : Nat) : Int) + j - bl + (cnt rows "given" : Nat) = j := by omega
    have k3 : (((cnt rows "put" : Nat) : Int) + i = (cnt rows "put" : Nat)) = (i = 0) := by apply propext; omega
    have k4 : (bl - ((cnt rows "given" : Nat) : Int) + j = bl - (cnt rows "given" : Nat)) = (j = 0) := by apply propext; omega
    have m1 := one_due "ballots " i f h i3 (by decide +kernel) (by decide +kernel) (by decide) (cBin .sub (cV 19) (cIdx (cV 16) (cK (.int 2)))) (cCmp .ne (cV 19) (cIdx (cV 16) (cK (.int 2)))) (by simp -implicitDefEqProofs [h19, h16, atI, k1]) (by simp -implicitDefEqProofs [h19, h16, atI, k3])
    have m2 := one_due "blanks " j f h j3 (by decide +kernel) (by decide +kernel) (by decide) (cBin .add (cBin .sub (cV 20) (cV 3)) (cIdx (cV 16) (cK (.int 0)))) (cCmp .ne (cV 20) (cBin .sub (cV 3) (cIdx (cV 16) (cK (.int 0))))) (by simp -implicitDefEqProofs [h20, h3, h16, atI, k2]) (by simp -implicitDefEqProofs [h20, h3, h16, atI, k4])
    have m3 : cBin .mul (cFrz (fLst (csC (cK (.str "open")) cs0))) (cInt (cV 7)) f h = .ok (.lst (if op = true then [.str "open"] else [])) h := by
      cases op <;> simp -implicitDefEqProofs [h7, b2z, repL, big]
    have b1 := fl1_len "ballots " i
    have b2 := fl1_len "blanks " j
    unfold dueC
    generalize cBin .mul (cFrz (fLst (csC (cBin .add (cK (.str "ballots ")) (cStr (cBin .sub (cV 19) (cIdx (cV 16) (cK (.int 2)))))) cs0))) (cInt (cCmp .ne (cV 19) (cIdx (cV 16) (cK (.int 2))))) = A at m1 ⊢
    generalize cBin .mul (cFrz (fLst (csC (cBin .add (cK (.str "blanks ")) (cStr (cBin .add (cBin .sub (cV 20) (cV 3)) (cIdx (cV 16) (cK (.int 0)))))) cs0))) (cInt (cCmp .ne (cV 20) (cBin .sub (cV 3) (cIdx (cV 16) (cK (.int 0)))))) = B at m2 ⊢
    generalize cBin .mul (cFrz (fLst (csC (cK (.str "open")) cs0))) (cInt (cV 7)) = D at m3 ⊢
    have b3 : (fl1 "ballots " i).length + (fl1 "blanks " j).length ≤ 1000000 := by omega
    have b4 : (fl1 "ballots " i).length + ((fl1 "blanks " j).length + 1) ≤ 1000000 := by omega
    cases op <;> simp -implicitDefEqProofs [m1, m2, m3, b3, b4, big, Nat.add_assoc]
  simp -implicitDefEqProofs [p5_law, p4_law, compL_cons, c1, l2, l2c, lc, big]
  simp -implicitDefEqProofs [insS, atI, n1, e1, e2, nt, p6_law, p8_law, c2, c4, lv2, e3, e4, sm, big, vl, d1, d2, -Int.natAbs_natCast, -Int.natCast_eq_zero, -List.length_eq_zero_iff]
  simp -implicitDefEqProofs [g1, g2, hc, hd, tl2, ed, e5, atI, insS, big, de]
end K07

set_option maxRecDepth 10000
set_option maxHeartbeats 4000000
namespace K07
open Pk PySem
theorem s0 : (("" : Str) = "given") = False := eq_false (by decide)
theorem s1 : (("" : Str) = "put") = False := eq_false (by decide)
theorem s2 : (("spoiled" : Str) = "given") = False := eq_false (by decide)
theorem s3 : (("spoiled" : Str) = "put") = False := eq_false (by decide)
theorem s4 : (("given" : Str) = "") = False := eq_false (by decide)
theorem s5 : (("given" : Str) = "spoiled") = False := eq_false (by decide)
theorem s6 : (("put" : Str) = "") = False := eq_false (by decide)
theorem s7 : (("put" : Str) = "spoiled") = False := eq_false (by decide)
theorem s8 : (("" : Str) = "spoiled") = False := eq_false (by decide)
theorem s9 : (("put" : Str) = "given") = False := eq_false (by decide)
def clo (O : Orc) : CS := (sSeq (sIf (cCmp .eq (cCmp .eq (cTold [1] (.str "StationError") (cMeth O 0 6 [] (cV 5) cs0)) (cK (.str "StationError"))) (cV 7))
  (sRet (cK (.bl false)))
  sPass)
  (sSet 7 (cK (.bl false))))
def giv (O : Orc) : CS := (sSeq (sSet 15 (cAnd (cCmp .ne (cV 9) (cK (.str "z"))) (cAnd (cCmp .inn (cV 11) (cFrz (fLst (csC (cK (.str "")) (csC (cK (.str "spoiled")) cs0))))) (cAnd (cCmp .lt (cV 14) (cV 3)) (cV 7)))))
  (sSeq (sIf (cCmp .eq (cCmp .eq (cTold [1] (.str "StationError") (cMeth O 0 3 [] (cV 5) (csC (cV 9) cs0))) (cK (.str "StationError"))) (cV 15))
  (sRet (cK (.bl false)))
  sPass)
  (sSet 6 (cBin .add (cV 6) (cBin .mul (cFrz (fLst (csC (cTup (csC (cV 9) (csC (cK (.str "given")) cs0))) cs0))) (cInt (cV 15)))))))
def sp (O : Orc) : CS := (sSeq (sSet 15 (cAnd (cCmp .ne (cV 9) (cK (.str "z"))) (cAnd (cCmp .eq (cV 11) (cK (.str "given"))) (cOr (cCmp .eq (cV 10) (cK (.int 3))) (cV 7)))))
  (sSeq (sIf (cCmp .eq (cCmp .eq (cTold [1] (.str "StationError") (cIf (cCmp .eq (cV 10) (cK (.int 3))) (cMeth O 0 4 [] (cV 5) (csC (cV 9) cs0)) (cMeth O 0 5 [] (cV 5) (csC (cV 9) cs0)))) (cK (.str "StationError"))) (cV 15))
  (sRet (cK (.bl false)))
  sPass)
  (sSet 6 (cBin .add (cV 6) (cBin .mul (cFrz (fLst (csC (cTup (csC (cV 9) (csC (cIf (cCmp .eq (cV 10) (cK (.int 3))) (cK (.str "spoiled")) (cK (.str "put"))) cs0))) cs0))) (cInt (cV 15)))))))
def ifp2 (O : Orc) : CS := sIf (cCmp .lt (cV 10) (cK (.int 3))) (giv O) (sp O)
theorem ifp_split (O : Orc) : ifp O = sIf (cAnd (cCmp .eq (cV 10) (cK (.int 7))) (cCmp .eq (cCall O 15 [] (csC (cV 1) (csC (cK (.int 3)) cs0))) (cK (.int 0)))) (clo O) (ifp2 O) := rfl
theorem memL2 (h : Hv) (v a b : Str) : opCmp h .inn (.str v) (.lst [.str a, .str b]) = some (decide (v = a ∨ v = b)) := by
  have sq (c : Str) : (c == v) = decide (v = c) := by
    by_cases q : v = c
    · subst q; simp
    · have : ¬ c = v := fun z => q z.symm
      simp [q, this]
  simp [opCmp, inV, memV, anyE, Val.eqv, Val.data, datas, Val.dep, deps, sq]
theorem mv (v w : Str) (rows : List Row) : rows.map rowV ++ [Val.tup [.str v, .str w]] = (rows ++ [((v, w) : Row)]).map rowV := by
  rw [List.map_append]; rfl
theorem non_eq (h : Hv) (s : Str) : opCmp h .eq .non (.str s) = some false := by
  simp [opCmp, eqV, derefV, Val.data, Val.dep, Val.eqv]
theorem ok_giv (x : Int × Int × Int) (k : Nat) (bl : Int) (rows : List Row) (op : Bool) (hl : rows.length ≤ 900) (v : Str) (s : Int) (hk : keyOk (vdOf k) (.str v) = true) (hz : (dget (vdOf k) (.str v)).isSome = !decide (v = "z")) (dl : last rows v = "" ∨ last rows v = "given" ∨ last rows v = "spoiled" ∨ last rows v = "put") (a8 a15 a16 a19 a20 a21 : Sl) : ∃ (rows' : List Row) (b15 : Sl), (rows' = rows ∨ rows' = rows ++ [((v, "given") : Row)]) ∧
    giv (callN tbl 11) [(.no : Sl), .val (.ref 0), .val (.lst (vstrs k)), .val (.int bl), .no, .val (.ref 1), .val (.lst (rows.map rowV)), .val (.bl op), a8, .val (.str v), .val (.int s), .val (.str (last rows v)), .no, .no, .val (.int (cnt rows "given" : Nat)), a15, a16, .no, .no, a19, a20, a21] (HS x bl (vdOf k) rows op) = .ok (.nx [(.no : Sl), .val (.ref 0), .val (.lst (vstrs k)), .val (.int bl), .no, .val (.ref 1), .val (.lst ((rows').map rowV)), .val (.bl op), a8, .val (.str v), .val (.int s), .val (.str (last rows v)), .no, .no, .val (.int (cnt rows "given" : Nat)), b15, a16, .no, .no, a19, a20, a21]) (HS x bl (vdOf k) (rows') op) := by
  have g := ok_give 9 x bl (vdOf k) rows op v hk (by omega)
  have l1 : rows.length ≤ 1000000 := by omega
  have l2 : rows.length ≤ 999999 := by omega
  by_cases q1 : v = "z"
  · rw [if_neg (by rw [hz, decide_eq_true q1]; simp)] at g
    have q1 := eq_true q1
    refine ⟨rows, .val (.bl false), .inl rfl, ?_⟩
    simp -implicitDefEqProofs [giv, q1, insS, g, b2z, repL, big, l1]
  by_cases q2 : last rows v = "" ∨ last rows v = "spoiled"
  · by_cases q3 : ((cnt rows "given" : Nat) : Int) < bl
    · cases op
      · rw [if_neg (by simp)] at g
        refine ⟨rows, .val (.bl false), .inl rfl, ?_⟩
        simp -implicitDefEqProofs [giv, q1, memL2, eq_true q2, q3, insS, g, b2z, repL, big, l1]
      · rw [if_pos ⟨by rw [hz, decide_eq_false q1]; rfl, by rcases q2 with z | z <;> rw [z] <;> decide, by rcases q2 with z | z <;> rw [z] <;> decide, by omega, rfl⟩] at g
        refine ⟨_, .val (.bl true), .inr rfl, ?_⟩
        simp -implicitDefEqProofs [giv, q1, memL2, eq_true q2, q3, insS, g, b2z, repL, big, l1, l2, mv, non_eq]
    · rw [if_neg (by omega)] at g
      refine ⟨rows, .val (.bl false), .inl rfl, ?_⟩
      simp -implicitDefEqProofs [giv, q1, memL2, eq_true q2, q3, insS, g, b2z, repL, big, l1]
  · rw [if_neg (by
      rintro ⟨_, z1, z2, _⟩
      rcases dl with z | z | z | z
      · exact q2 (.inl z)
      · exact z1 z
      · exact q2 (.inr z)
      · exact z2 z)] at g
    refine ⟨rows, .val (.bl false), .inl rfl, ?_⟩
    simp -implicitDefEqProofs [giv, q1, memL2, eq_false q2, insS, g, b2z, repL, big, l1]
theorem ok_sp (x : Int × Int × Int) (k : Nat) (bl : Int) (rows : List Row) (op : Bool) (hl : rows.length ≤ 900) (v : Str) (s : Int) (hk : keyOk (vdOf k) (.str v) = true) (hz : (dget (vdOf k) (.str v)).isSome = !decide (v = "z")) (dl : last rows v = "" ∨ last rows v = "given" ∨ last rows v = "spoiled" ∨ last rows v = "put") (a8 a15 a16 a19 a20 a21 : Sl) : ∃ (rows' : List Row) (b15 : Sl), (rows' = rows ∨ rows' = rows ++ [((v, "spoiled") : Row)] ∨ rows' = rows ++ [((v, "put") : Row)]) ∧
    sp (callN tbl 11) [(.no : Sl), .val (.ref 0), .val (.lst (vstrs k)), .val (.int bl), .no, .val (.ref 1), .val (.lst (rows.map rowV)), .val (.bl op), a8, .val (.str v), .val (.int s), .val (.str (last rows v)), .no, .no, .val (.int (cnt rows "given" : Nat)), a15, a16, .no, .no, a19, a20, a21] (HS x bl (vdOf k) rows op) = .ok (.nx [(.no : Sl), .val (.ref 0), .val (.lst (vstrs k)), .val (.int bl), .no, .val (.ref 1), .val (.lst ((rows').map rowV)), .val (.bl op), a8, .val (.str v), .val (.int s), .val (.str (last rows v)), .no, .no, .val (.int (cnt rows "given" : Nat)), b15, a16, .no, .no, a19, a20, a21]) (HS x bl (vdOf k) (rows') op) := by
  have g := ok_spoil 9 x bl (vdOf k) rows op v hk (by omega)
  have g2 := ok_put 9 x bl (vdOf k) rows op v hk (by omega)
  have l1 : rows.length ≤ 1000000 := by omega
  have l2 : rows.length ≤ 999999 := by omega
  by_cases q1 : v = "z"
  · have z : ¬ (dget (vdOf k) (.str v)).isSome = true := by rw [hz, decide_eq_true q1]; simp
    rw [if_neg (fun y => z y.1)] at g g2
    have q1 := eq_true q1
    refine ⟨rows, .val (.bl false), .inl rfl, ?_⟩
    by_cases q3 : s = 3
    · simp -implicitDefEqProofs [sp, q1, q3, insS, g, g2, b2z, repL, big, l1]
    · simp -implicitDefEqProofs [sp, q1, q3, insS, g, g2, b2z, repL, big, l1]
  have z : (dget (vdOf k) (.str v)).isSome = true := by rw [hz, decide_eq_false q1]; rfl
  by_cases q2 : last rows v = "given"
  · by_cases q3 : s = 3
    · rw [if_pos ⟨z, q2⟩] at g
      refine ⟨_, .val (.bl true), .inr (.inl rfl), ?_⟩
      simp -implicitDefEqProofs [sp, q1, eq_true q2, q3, insS, g, b2z, repL, big, l1, l2, mv, non_eq]
    · cases op
      · rw [if_neg (by simp)] at g2
        refine ⟨rows, .val (.bl false), .inl rfl, ?_⟩
        simp -implicitDefEqProofs [sp, q1, eq_true q2, q3, insS, g2, b2z, repL, big, l1]
      · rw [if_pos ⟨z, q2, rfl⟩] at g2
        refine ⟨_, .val (.bl true), .inr (.inr rfl), ?_⟩
        simp -implicitDefEqProofs [sp, q1, eq_true q2, q3, insS, g2, b2z, repL, big, l1, l2, mv, non_eq]
  · rw [if_neg (fun y => q2 y.2)] at g
    rw [if_neg (fun y => q2 y.2.1)] at g2
    refine ⟨rows, .val (.bl false), .inl rfl, ?_⟩
    by_cases q3 : s = 3
    · simp -implicitDefEqProofs [sp, q1, eq_false q2, q3, insS, g, g2, b2z, repL, big, l1]
    · simp -implicitDefEqProofs [sp, q1, eq_false q2, q3, insS, g, g2, b2z, repL, big, l1]
theorem ok_clo (x : Int × Int × Int) (k : Nat) (bl : Int) (rows : List Row) (op : Bool) (hl : rows.length ≤ 900) (v : Str) (s : Int) (hk : keyOk (vdOf k) (.str v) = true) (hz : (dget (vdOf k) (.str v)).isSome = !decide (v = "z")) (dl : last rows v = "" ∨ last rows v = "given" ∨ last rows v = "spoiled" ∨ last rows v = "put") (a8 a15 a16 a19 a20 a21 : Sl) : clo (callN tbl 11) [(.no : Sl), .val (.ref 0), .val (.lst (vstrs k)), .val (.int bl), .no, .val (.ref 1), .val (.lst (rows.map rowV)), .val (.bl op), a8, .val (.str v), .val (.int s), .val (.str (last rows v)), .no, .no, .val (.int (cnt rows "given" : Nat)), a15, a16, .no, .no, a19, a20, a21] (HS x bl (vdOf k) rows op) = .ok (.nx [(.no : Sl), .val (.ref 0), .val (.lst (vstrs k)), .val (.int bl), .no, .val (.ref 1), .val (.lst ((rows).map rowV)), .val (.bl false), a8, .val (.str v), .val (.int s), .val (.str (last rows v)), .no, .no, .val (.int (cnt rows "given" : Nat)), a15, a16, .no, .no, a19, a20, a21]) (HS x bl (vdOf k) (rows) false) := by
  have g := ok_close 10 x bl (vdOf k) rows op
  cases op
  · rw [if_neg (by simp)] at g
    simp -implicitDefEqProofs [clo, insS, g]
  · rw [if_pos rfl] at g
    simp -implicitDefEqProofs [clo, insS, g, non_eq]
def deedOk (rows : List Row) : Prop := ∀ r ∈ rows, r.2 = "given" ∨ r.2 = "spoiled" ∨ r.2 = "put"
theorem deedOk_app {rows : List Row} (h : deedOk rows) {v w : Str} (hw : w = "given" ∨ w = "spoiled" ∨ w = "put") : deedOk (rows ++ [((v, w) : Row)]) := fun r hr => by
  rcases List.mem_append.mp hr with z | z
  · exact h r z
  · have : r = (v, w) := by simpa using z
    rw [this]
    exact hw
theorem last_ok {rows : List Row} (h : deedOk rows) (v : Str) : last rows v = "" ∨ last rows v = "given" ∨ last rows v = "spoiled" ∨ last rows v = "put" := by
  unfold last
  have : ∀ (rows : List Row) (f : Str), deedOk rows → (f = "" ∨ f = "given" ∨ f = "spoiled" ∨ f = "put") → (rows.foldl (fun f r => if r.1 = v then r.2 else f) f = "" ∨ rows.foldl (fun f r => if r.1 = v then r.2 else f) f = "given" ∨ rows.foldl (fun f r => if r.1 = v then r.2 else f) f = "spoiled" ∨ rows.foldl (fun f r => if r.1 = v then r.2 else f) f = "put") := by
    intro rows
    induction rows with
    | nil => exact fun f _ h => h
    | cons r rows ih =>
      intro f hd hf
      rw [List.foldl_cons]
      refine ih _ (fun r' hr' => hd r' (List.mem_cons_of_mem _ hr')) ?_
      by_cases q : r.1 = v
      · rw [if_pos q]
        exact .inr (hd r List.mem_cons_self)
      · rw [if_neg q]
        exact hf
  exact this rows "" h (.inl rfl)
theorem ok_ifp (x : Int × Int × Int) (k : Nat) (bl : Int) (rows : List Row) (op : Bool) (hl : rows.length ≤ 900) (v : Str) (s : Int) (hk : keyOk (vdOf k) (.str v) = true) (hz : (dget (vdOf k) (.str v)).isSome = !decide (v = "z")) (dl : last rows v = "" ∨ last rows v = "given" ∨ last rows v = "spoiled" ∨ last rows v = "put") (a8 a15 a16 a19 a20 a21 : Sl) (hd : deedOk rows) : ∃ (x' : Int × Int × Int) (rows' : List Row) (op' : Bool) (b15 : Sl), rows'.length ≤ rows.length + 1 ∧ deedOk rows' ∧
    ifp (callN tbl 11) [(.no : Sl), .val (.ref 0), .val (.lst (vstrs k)), .val (.int bl), .no, .val (.ref 1), .val (.lst (rows.map rowV)), .val (.bl op), a8, .val (.str v), .val (.int s), .val (.str (last rows v)), .no, .no, .val (.int (cnt rows "given" : Nat)), a15, a16, .no, .no, a19, a20, a21] (HS x bl (vdOf k) rows op) = .ok (.nx [(.no : Sl), .val (.ref 0), .val (.lst (vstrs k)), .val (.int bl), .no, .val (.ref 1), .val (.lst ((rows').map rowV)), .val (.bl op'), a8, .val (.str v), .val (.int s), .val (.str (last rows v)), .no, .no, .val (.int (cnt rows "given" : Nat)), b15, a16, .no, .no, a19, a20, a21]) (HS x' bl (vdOf k) (rows') op') := by
  have two (x1 : Int × Int × Int) : ∃ (rows' : List Row) (b15 : Sl), rows'.length ≤ rows.length + 1 ∧ deedOk rows' ∧ ifp2 (callN tbl 11) [(.no : Sl), .val (.ref 0), .val (.lst (vstrs k)), .val (.int bl), .no, .val (.ref 1), .val (.lst (rows.map rowV)), .val (.bl op), a8, .val (.str v), .val (.int s), .val (.str (last rows v)), .no, .no, .val (.int (cnt rows "given" : Nat)), a15, a16, .no, .no, a19, a20, a21] (HS x1 bl (vdOf k) rows op) = .ok (.nx [(.no : Sl), .val (.ref 0), .val (.lst (vstrs k)), .val (.int bl), .no, .val (.ref 1), .val (.lst ((rows').map rowV)), .val (.bl op), a8, .val (.str v), .val (.int s), .val (.str (last rows v)), .no, .no, .val (.int (cnt rows "given" : Nat)), b15, a16, .no, .no, a19, a20, a21]) (HS x1 bl (vdOf k) (rows') op) := by
    by_cases q : s < 3
    · obtain ⟨rows', b15, h1, h2⟩ := ok_giv x1 k bl rows op hl v s hk hz dl a8 a15 a16 a19 a20 a21
      refine ⟨rows', b15, ?_, ?_, ?_⟩
      · rcases h1 with z | z <;> rw [z] <;> simp
      · rcases h1 with z | z <;> rw [z]
        · exact hd
        · exact deedOk_app hd (.inl rfl)
      · rw [← h2]
        unfold ifp2
        generalize giv (callN tbl 11) = G
        generalize sp (callN tbl 11) = S
        simp -implicitDefEqProofs [q]
    · obtain ⟨rows', b15, h1, h2⟩ := ok_sp x1 k bl rows op hl v s hk hz dl a8 a15 a16 a19 a20 a21
      refine ⟨rows', b15, ?_, ?_, ?_⟩
      · rcases h1 with z | z | z <;> rw [z] <;> simp
      · rcases h1 with z | z | z <;> rw [z]
        · exact hd
        · exact deedOk_app hd (.inr (.inl rfl))
        · exact deedOk_app hd (.inr (.inr rfl))
      · rw [← h2]
        unfold ifp2
        generalize giv (callN tbl 11) = G
        generalize sp (callN tbl 11) = S
        simp -implicitDefEqProofs [q]
  rw [ifp_split]
  by_cases q : s = 7
  · obtain ⟨r1, x1, p1, q1, g1⟩ := ok_roll 10 x ((HS x bl (vdOf k) rows op).tail) 3 (by decide) (by decide)
    have g1 : callN tbl 11 15 [.ref 0, .int 3] (HS x bl (vdOf k) rows op) = .ok (.int r1) (HS x1 bl (vdOf k) rows op) := g1
    by_cases q2 : r1 = 0
    · have c := ok_clo x1 k bl rows op hl v s hk hz dl a8 a15 a16 a19 a20 a21
      refine ⟨x1, rows, false, a15, by omega, hd, ?_⟩
      rw [← c]
      generalize clo (callN tbl 11) = G
      generalize ifp2 (callN tbl 11) = S
      simp -implicitDefEqProofs [q, g1, q2]
    · obtain ⟨rows', b15, h1, h2, h3⟩ := two x1
      refine ⟨x1, rows', op, b15, h1, h2, ?_⟩
      rw [← h3]
      generalize clo (callN tbl 11) = G
      generalize ifp2 (callN tbl 11) = S
      simp -implicitDefEqProofs [q, g1, q2]
  · obtain ⟨rows', b15, h1, h2, h3⟩ := two x
    refine ⟨x, rows', op, b15, h1, h2, ?_⟩
    rw [← h3]
    generalize clo (callN tbl 11) = G
    generalize ifp2 (callN tbl 11) = S
    simp -implicitDefEqProofs [q]
end K07

set_option maxRecDepth 10000
set_option maxHeartbeats 4000000
namespace K07
open Pk PySem
def InvL (k : Nat) (bl : Int) (s : Nat) (f : Fr) (h : Hv) : Prop := ∃ (x : Int × Int × Int) (rows : List Row) (op : Bool) (a8 a9 a10 a11 a14 a15 a16 a19 a20 a21 : Sl), rows.length ≤ s ∧ deedOk rows ∧ h = HS x bl (vdOf k) rows op ∧ f = [(.no : Sl), .val (.ref 0), .val (.lst (vstrs k)), .val (.int bl), .no, .val (.ref 1), .val (.lst (rows.map rowV)), .val (.bl op), a8, a9, a10, a11, .no, .no, a14, a15, a16, .no, .no, a19, a20, a21]
theorem ok_b1 (k : Nat) (bl : Int) (s : Nat) (f : Fr) (h : Hv) (w : Val) (hs : s < 31) (hi : InvL k bl s f h) : ∃ f1, (Tg.n 8).bind w f = some f1 ∧ ∃ f2 h2, b1_law (callN tbl 11) f1 h = .ok (.nx f2) h2 ∧ InvL k bl (s + 1) f2 h2 := by
  obtain ⟨x, rows, op, a8, a9, a10, a11, a14, a15, a16, a19, a20, a21, hl, hd, rfl, rfl⟩ := hi
  refine ⟨_, rfl, ?_⟩
  have lv : (voters k).length ≤ 5 := by unfold voters; split <;> simp
  obtain ⟨j, x1, hj, g1⟩ := ok_rollN 10 x ((HS x bl (vdOf k) rows op).tail) ((voters k).length + 1) (by omega) (by omega)
  have g1 : callN tbl 11 15 [.ref 0, .int (((voters k).length : Int) + 1)] (HS x bl (vdOf k) rows op) = .ok (.int j) (HS x1 bl (vdOf k) rows op) := g1
  obtain ⟨q, x2, q1, q2, g2⟩ := ok_roll 10 x1 ((HS x bl (vdOf k) rows op).tail) 8 (by decide) (by decide)
  have g2 : callN tbl 11 15 [.ref 0, .int 8] (HS x1 bl (vdOf k) rows op) = .ok (.int q) (HS x2 bl (vdOf k) rows op) := g2
  obtain ⟨v, v1, v2, v3⟩ := voter_at k j (by omega)
  have vl : (vstrs k).length = (voters k).length := by unfold vstrs; rw [List.length_map]
  have lv1 : (voters k).length + 1 ≤ 1000000 := by omega
  have c1 := compL_pure (.t [12, 13]) (some (cCmp .eq (cV 12) (cV 9))) (cV 13) [(.no : Sl), .val (.ref 0), .val (.lst (vstrs k)), .val (.int bl), .no, .val (.ref 1), .val (.lst (rows.map rowV)), .val (.bl op), .val w, .val (.str v), .val (.int q), a11, .no, .no, a14, a15, a16, .no, .no, a19, a20, a21] (HS x2 bl (vdOf k) rows op) rowV (fun r => decide (r.1 = v)) (fun r => Val.str r.2) rows
    (fun r _ => ⟨_, rfl, by simp, fun _ => rfl⟩)
  have c2 := compL_pure (.t [12, 13]) (some (cCmp .eq (cV 13) (cK (.str "given")))) (cK (.int 1)) [(.no : Sl), .val (.ref 0), .val (.lst (vstrs k)), .val (.int bl), .no, .val (.ref 1), .val (.lst (rows.map rowV)), .val (.bl op), .val w, .val (.str v), .val (.int q), .val (.str (last rows v)), .no, .no, a14, a15, a16, .no, .no, a19, a20, a21] (HS x2 bl (vdOf k) rows op) rowV (fun r => decide (r.2 = "given")) (fun _ => .int 1) rows
    (fun r _ => ⟨_, rfl, by simp, fun _ => rfl⟩)
  have l1 : (rows.filter fun r : Row => decide (r.1 = v)).length ≤ rows.length := List.length_filter_le _ _
  have l2 : (rows.filter fun r : Row => decide (r.2 = "given")).length ≤ rows.length := List.length_filter_le _ _
  have l3 : (rows.filter fun r : Row => decide (r.1 = v)).length ≤ 1000000 := by omega
  have l4 : 1 + (rows.filter fun r : Row => decide (r.1 = v)).length ≤ 1000000 := by omega
  have l5 : (rows.filter fun r : Row => decide (r.2 = "given")).length ≤ 1000000 := by omega
  have lc : (rows.filter fun r : Row => decide (r.2 = "given")).length = cnt rows "given" := rfl
  obtain ⟨x3, rows', op', b15, h1, h2, e1⟩ := ok_ifp x2 k bl rows op (by omega) v q v2 v3 (last_ok hd v) (.val w) a15 a16 a19 a20 a21 hd
  obtain ⟨x4, b16, b19, b20, b21, e2⟩ := ok_tail x3 k bl rows' op' (by omega) (.val w) (.val (.str v)) (.val (.int q)) (.val (.str (last rows v))) (.val (.int (cnt rows "given" : Nat))) b15 a16 a19 a20 a21
  refine ⟨_, _, ?_, x4, rows', op', .val w, .val (.str v), .val (.int q), .val (.str (last rows v)), .val (.int (cnt rows "given" : Nat)), b15, b16, b19, b20, b21, by omega, h2, rfl, rfl⟩
  rw [← e2, b1_split]
  generalize tl (callN tbl 11) = T at *
  generalize ifp (callN tbl 11) = I at *
  simp -implicitDefEqProofs [vl, g1, big, lv1, v1, g2, p2_law, c1, l3, l4, last_at, p3_law, c2, l5]
  rw [lc] at *
  rw [e1]
  rfl
theorem cells (r : Nat) (hr : r < 5) (h : Hv) : compL (.n 4) none (cBin .add (cK (.str "v")) (cStr (cV 4))) [.no, .val (.ref 0), .no, .no, .no, .no, .no, .no, .no, .no, .no, .no, .no, .no, .no, .no, .no, .no, .no, .no, .no, .no] (rangeZ 0 (1 + (r : Int))) h = .ok (vstrs r) h := by
  match r, hr with
  | 0, _ => kernel_rfl
  | 1, _ => kernel_rfl
  | 2, _ => kernel_rfl
  | 3, _ => kernel_rfl
  | 4, _ => kernel_rfl
theorem plain : Plain := fun ns hn => by
  rw [call_s 11 20 _ _ (d_law (callN tbl 11)) rfl, runD_ap _ _ _ rfl]
  obtain ⟨x0, e0⟩ := ok_rounds 9 ns hn
  obtain ⟨k, x1, hk, g1⟩ := ok_rollN 10 x0 [] 5 (by decide) (by decide)
  have g1 : callN tbl 11 15 [.ref 0, .int 5] [DD x0] = .ok (.int k) [DD x1] := g1
  obtain ⟨bl, x2, h1, h2, g2⟩ := ok_roll 10 x1 [] 9 (by decide) (by decide)
  have e1 := ok_init 10 x2 bl k h1 (by omega)
  obtain ⟨m, x3, hm, g3⟩ := ok_rollN 10 x2 (HS x2 bl (vdOf k) [] true).tail 31 (by decide) (by decide)
  have g3 : callN tbl 11 15 [.ref 0, .int 31] (HS x2 bl (vdOf k) [] true) = .ok (.int m) (HS x3 bl (vdOf k) [] true) := g3
  have rl : (rangeZ 0 (m : Int)).length = m := by unfold rangeZ; rw [List.length_map, List.length_range]; omega
  obtain ⟨f2, h3, e2, x4, rows, op, a8, a9, a10, a11, a14, a15, a16, a19, a20, a21, _, _, rfl, rfl⟩ := forL_count (.n 8) (b1_law (callN tbl 11)) (InvL k bl) 31 (rangeZ 0 (m : Int)) 0 (by omega)
    (fun s v fr h hs _ hi => ok_b1 k bl s fr h v hs hi)
    [.no, .val (.ref 0), .val (.lst (vstrs k)), .val (.int bl), .no, .val (.ref 1), .val (.lst []), .val (.bl true), .no, .no, .no, .no, .no, .no, .no, .no, .no, .no, .no, .no, .no, .no] (HS x3 bl (vdOf k) [] true)
    ⟨x3, [], true, .no, .no, .no, .no, .no, .no, .no, .no, .no, .no, Nat.le_refl _, fun r hr => (by cases hr), rfl, rfl⟩
  obtain ⟨x5, e3⟩ := ok_looks 8 x4 (HS x4 bl (vdOf k) rows op).tail
  have e3 : callN tbl 11 18 [.ref 0] (HS x4 bl (vdOf k) rows op) = .ok (.bl true) (HS x5 bl (vdOf k) rows op) := e3
  obtain ⟨h4, e4⟩ := isT_ok (plain0 (DD x5) (insS bl op) (.dct 0 (vdOf k)) (.lst 0 (rows.map rowV)))
  have e4 : callN tbl 11 19 [] (HS x5 bl (vdOf k) rows op) = .ok (.bl true) h4 := e4
  refine ⟨h4, ?_⟩
  have s1 : smallR (m : Int) = true := by
    unfold smallR
    rw [decide_eq_true (by omega), decide_eq_true (by omega)]
    rfl
  have s2 : smallR (1 + (k : Int)) = true := by
    unfold smallR
    rw [decide_eq_true (by omega), decide_eq_true (by omega)]
    rfl
  have s0 : smallR 0 = true := by decide
  have vl : (vstrs k).length ≤ 1000000 := by
    have : (voters k).length ≤ 5 := by unfold voters; split <;> simp
    unfold vstrs
    rw [List.length_map]
    omega
  have b : b2_law (callN tbl 11) [.no, .val (.ref 0), .no, .no, .no, .no, .no, .no, .no, .no, .no, .no, .no, .no, .no, .no, .no, .no, .no, .no, .no, .no] [DD x0] = .ok (.nx [(.no : Sl), .val (.ref 0), .val (.lst (vstrs k)), .val (.int bl), .no, .val (.ref 1), .val (.lst (rows.map rowV)), .val (.bl op), a8, a9, a10, a11, .no, .no, a14, a15, a16, .no, .no, a19, a20, a21]) (HS x5 bl (vdOf k) rows op) := by
    unfold b2_law
    generalize b1_law (callN tbl 11) = B at *
    have cc := cells k hk
    simp -implicitDefEqProofs [p1_law, g1, s0, s2, cc, vl, big, g2]
    have e1 : callN tbl 11 0 [.ref 1, .str "hall", .int bl, .lst (vstrs k)] [DD x2, .ins 0 []] = .ok .non (HS x2 bl (vdOf k) [] true) := e1
    simp -implicitDefEqProofs [e1, g3, s0, s1, e2, e3]
  have fl : forL (.n 1) (b2_law (callN tbl 11)) [.ref 0] [.no, .no, .no, .no, .no, .no, .no, .no, .no, .no, .no, .no, .no, .no, .no, .no, .no, .no, .no, .no, .no, .no] [DD x0] = .ok (.nx [(.no : Sl), .val (.ref 0), .val (.lst (vstrs k)), .val (.int bl), .no, .val (.ref 1), .val (.lst (rows.map rowV)), .val (.bl op), a8, a9, a10, a11, .no, .no, a14, a15, a16, .no, .no, a19, a20, a21]) (HS x5 bl (vdOf k) rows op) := by
    rw [forL_cons]
    show (b2_law (callN tbl 11) [.no, .val (.ref 0), .no, .no, .no, .no, .no, .no, .no, .no, .no, .no, .no, .no, .no, .no, .no, .no, .no, .no, .no, .no] [DD x0]).bind _ = _
    rw [b]
    rfl
  simp -implicitDefEqProofs [d_law, sForScr, e0, fl, e4]
end K07

set_option maxRecDepth 100000
set_option maxHeartbeats 0
namespace K07
open Pk PySem PySem.Spec PyProof.Rows L2
theorem run (w : World) : HandSHeadRun.RunEq R vw hk ob 20000 loose w := by
  intro os
  kernel_rfl
theorem no_exc {P : Program} {w : World} {H : Hp} {s s' : Shared} {e : Value} (z : L2.CX P w [] H s (fun _ _ _ => False) e s') : False := by
  obtain ⟨_, _, _, _, _, _, _, _, _, _, _, _, z⟩ := z
  exact z
end K07
open PySem PySem.W PySem.Calls PyProof.Rows
theorem PySem.Challenge.cw_pollstack_k07_stations_that_come_out_eve_holds : PySem.Challenge.rw_pollstack_k07_stations_that_come_out_eve.Holds := by
  have pl := K07.plain
  w_on; o_law
  refine HandSHeadRun.head_any (r := OpenLaw.row PySem.Challenge.rw_pollstack_k07_stations_that_come_out_eve) (q := K07.vw) (H := K07.hk) (ob := K07.ob) (M := 20000) (loose := K07.loose) (d := HandSHeadRun.topDef (OpenLaw.row PySem.Challenge.rw_pollstack_k07_stations_that_come_out_eve).prog 17) (kwd := []) K07.ob_eq
    (by kernel_rfl) (fun s => by kernel_rfl) K07.run (by kernel_rfl) (by kernel_rfl) (by kernel_rfl) (by rfl) (by first | assumption | decide +kernel) (by decide +kernel) ⟨rfl, rfl, rfl, rfl, rfl, by decide +kernel⟩ ?hw ?hc
  case hw => w_witness2
  case hc =>
    refine LamX.walk_ofTsE (l := PySem.Challenge.rw_pollstack_k07_stations_that_come_out_eve) (n := 63) (k := 96) (x := "script") (CX := fun w => L2.CX (PySem.Challenge.rw_pollstack_k07_stations_that_come_out_eve).prog w) rfl (by decide) (by kernel_rfl) ⟨rfl, by decide, by decide⟩ ?F (fun _ _ _ _ _ z => K07.no_exc z)
    intro w mg fa h Y G hmg0
    obtain ⟨K, KX, c⟩ := Y
    have hmg : mg ("law" : PySem.Str) = some (.ref fa) := by
      have e : (HandSHeadRun.topDef (OpenLaw.row PySem.Challenge.rw_pollstack_k07_stations_that_come_out_eve).prog 17).name = ("law" : PySem.Str) := by kernel_rfl
      rw [← e]
      exact hmg0
    exact ⟨K, KX, K07.law_at KX G hmg c pl⟩
